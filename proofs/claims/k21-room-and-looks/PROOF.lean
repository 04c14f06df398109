import PyProof.Rows.All
import Wide.All
import OpenK.AllK
import Wide.FinOn
import HandS.ForMost
import HandS.ForExc
import HandS.Walk
import HandS.Wide
import HandS.Lambda
import HandS.EndTab
import HandS.HotCalls
import HandS.ExcIs
import HandS.IsInst
import HandS.StrMore
import HandS.Replace
import PyProof.StrBlock2
import HandS.EndOwn
import KE.KNestM
import PyProof.StrLawsFrom
import HandS.SortRule
import HandS.SortInts
import PyProof.Rows.SortShellAny
import HandS.WideBits
import HandS.TryOnly
import HandS.SetTxt0
import HandS.Set
import HandS.SetFor
import KE.GoesZip
import PyProof.ListStr
import PyProof.StrLawsFirst
import KE.KRevSl
import HandS.Style
import KE.SortKeyHeap
import KE.SortData
import KE.KSortKey
import HandS.Rev
import HandS.Conv
import HandS.SortOrd
import PySem.Challenge.RW_tersewood_k21_room_and_looks
set_option Elab.async false
set_option linter.all false
set_option maxRecDepth 100000
set_option maxHeartbeats 4000000
namespace Dn
open PySem PySem.Spec PyProof.Rows L2
/-! ### deep data, outcomes -/
inductive D where
  | non | bl (b : Bool) | int (i : Int) | str (l : List Nat)
  | lst (xs : List D) | tup (xs : List D) | scr (ns : List Int)
  | obj (c : Str) (fs : List (Str × D)) | opq (a : Addr) | dct (ks : List (Key × D))
inductive Res (α : Type) where
  | ok (a : α) | rs (c : Str) | stuck
def Res.bind {α β : Type} : Res α → (α → Res β) → Res β
  | .ok a, f => f a
  | .rs c, _ => .rs c
  | .stuck, _ => .stuck
/-- kept from being worked out by the kernel alone -/
theorem nrfl {α : Sort _} {a b : α} (h : a = b) : a = b := h
@[simp] theorem bind_ok {α β : Type} (a : α) (f : α → Res β) : (Res.ok a).bind f = f a := nrfl rfl
@[simp] theorem bind_rs {α β : Type} (c : Str) (f : α → Res β) : (Res.rs c : Res α).bind f = .rs c := nrfl rfl
@[simp] theorem bind_stuck {α β : Type} (f : α → Res β) : (Res.stuck : Res α).bind f = .stuck := nrfl rfl
/-! ### the deep data of a value over a frozen heap -/
section
variable (K : PySem.W.Frag) (mg : Str → Option Value)
inductive Rp (F : Hp) : V → D → Prop where
  | non : Rp F .non .non
  | bl (b : Bool) : Rp F (.bl b) (.bl b)
  | int (i : Int) : Rp F (.int i) (.int i)
  | str {x : Str} {l : List Nat} (h : TL.tl x = l) : Rp F (.str x) (.str l)
  | lst {a : Addr} {vs : List V} {ds : List D} (h : F a = some (.lst vs)) (hl : vs.length = ds.length) (he : ∀ (i : Nat) v d, vs[i]? = some v → ds[i]? = some d → Rp F v d) : Rp F (.ref a) (.lst ds)
  | tup {a : Addr} {vs : List V} {ds : List D} (h : F a = some (.tup vs)) (hl : vs.length = ds.length) (he : ∀ (i : Nat) v d, vs[i]? = some v → ds[i]? = some d → Rp F v d) : Rp F (.ref a) (.tup ds)
  | opq (a : Addr) : Rp F (.ref a) (.opq a)
  | dct {a : Addr} {us : List (Key × V)} {ks : List (Key × D)} (h : F a = some (.dK us)) (hk : us.map Prod.fst = ks.map Prod.fst) (he : ∀ (i : Nat) v d, (us.map Prod.snd)[i]? = some v → (ks.map Prod.snd)[i]? = some d → Rp F v d) : Rp F (.ref a) (.dct ks)
  | scr {a : Addr} {ns : List Int} (h : SqL K F a (ns.map V.int)) : Rp F (.ref a) (.scr ns)
  | obj {a C dx : Addr} {gs : List (Str × V)} {c : Str} {fs : List (Str × D)} (vf : Str → V) (hm : mg c = some (.ref C)) (h : F a = some (.ins C dx gs)) (h0 : fs.lookup ("#" : Str) = none)
      (h1 : ∀ n d, fs.lookup n = some d → gs.lookup n = some (vf n)) (h2 : ∀ n d, fs.lookup n = some d → Rp F (vf n) d) (h3 : ∀ n v, gs.lookup n = some v → (fs.lookup n).isSome = true ∨ n = ("#" : Str))
      (h4 : c = ("#" : Str) → ∃ i : Int, gs.lookup ("#" : Str) = some (.int i)) (h5 : gs.length < 200) : Rp F (.ref a) (.obj c fs)
end
/-- what an object may become: a counter «seen» may turn -/
def Chg (o o' : HO) : Prop := o' = o ∨ ∃ (C dx : Addr) (gs gs' : List (Str × V)), o = .ins C dx gs ∧ o' = .ins C dx gs' ∧ (∀ n : Str, n ≠ "#" → gs'.lookup n = gs.lookup n) ∧ (∀ i : Int, gs.lookup ("#" : Str) = some (.int i) → ∃ j : Int, gs'.lookup ("#" : Str) = some (.int j)) ∧ gs'.length = gs.length
theorem Chg.refl (o : HO) : Chg o o := .inl rfl
theorem Chg.trans {a b c : HO} (h : Chg a b) (g : Chg b c) : Chg a c := by
  rcases h with rfl | ⟨C, dx, gs, gs', rfl, rfl, e, s, l⟩
  · exact g
  · rcases g with rfl | ⟨C2, dx2, gs2, gs3, e1, rfl, e2, s2, l2⟩
    · exact .inr ⟨C, dx, gs, gs', rfl, rfl, e, s, l⟩
    · cases e1
      exact .inr ⟨C, dx, gs, gs3, rfl, rfl, fun n hn => (e2 n hn).trans (e n hn), fun i hi => by
        obtain ⟨j, hj⟩ := s i hi
        exact s2 j hj, l2.trans l⟩
def Rel (F F' : Hp) : Prop := ∀ a o, F a = some o → ∃ o', F' a = some o' ∧ Chg o o'
theorem Rel.refl (F : Hp) : Rel F F := fun _ o h => ⟨o, h, .refl o⟩
theorem Rel.trans {F F1 F2 : Hp} (h : Rel F F1) (g : Rel F1 F2) : Rel F F2 := fun a o e => by
  obtain ⟨o1, e1, c1⟩ := h a o e
  obtain ⟨o2, e2, c2⟩ := g a o1 e1
  exact ⟨o2, e2, c1.trans c2⟩
theorem Rel.lst {F F' : Hp} (h : Rel F F') {a : Addr} {xs : List V} (e : F a = some (.lst xs)) : F' a = some (.lst xs) := by
  obtain ⟨o, e1, c⟩ := h a _ e
  rcases c with rfl | ⟨_, _, _, _, z, _⟩
  · exact e1
  · cases z
theorem Rel.tup {F F' : Hp} (h : Rel F F') {a : Addr} {xs : List V} (e : F a = some (.tup xs)) : F' a = some (.tup xs) := by
  obtain ⟨o, e1, c⟩ := h a _ e
  rcases c with rfl | ⟨_, _, _, _, z, _⟩
  · exact e1
  · cases z
theorem Rel.frz {F F' : Hp} (h : Rel F F') {a : Addr} {ob : Obj} {u : HO} (e : F a = some (.frz ob u)) : F' a = some (.frz ob u) := by
  obtain ⟨o, e1, c⟩ := h a _ e
  rcases c with rfl | ⟨_, _, _, _, z, _⟩
  · exact e1
  · cases z
theorem Rel.seq {K : PySem.W.Frag} {F F' : Hp} (h : Rel F F') {a : Addr} {xs : List V} (e : SqL K F a xs) : SqL K F' a xs := by
  rcases e with (e | ⟨o, e⟩) | e
  · exact .inl (.inl (h.lst e))
  · exact .inl (.inr ⟨o, h.frz e⟩)
  · exact .inr e
theorem Rel.ins {F F' : Hp} (h : Rel F F') {a C dx : Addr} {gs : List (Str × V)} (e : F a = some (.ins C dx gs)) : ∃ gs', F' a = some (.ins C dx gs') ∧ (∀ n : Str, n ≠ "#" → gs'.lookup n = gs.lookup n) ∧ (∀ i : Int, gs.lookup ("#" : Str) = some (.int i) → ∃ j : Int, gs'.lookup ("#" : Str) = some (.int j)) ∧ gs'.length = gs.length := by
  obtain ⟨o, e1, c⟩ := h a _ e
  rcases c with rfl | ⟨C2, dx2, gs2, gs3, e2, rfl, e3, s3, l3⟩
  · exact ⟨gs, e1, fun _ _ => rfl, fun i hi => ⟨i, hi⟩, rfl⟩
  · cases e2
    exact ⟨gs3, e1, e3, s3, l3⟩
theorem Rel.other {F F' : Hp} (h : Rel F F') {a : Addr} {o : HO} (e : F a = some o) (n : ∀ C dx gs, o ≠ .ins C dx gs) : F' a = some o := by
  obtain ⟨o1, e1, c⟩ := h a _ e
  rcases c with rfl | ⟨C, dx, gs, _, z, _⟩
  · exact e1
  · exact (n C dx gs z).elim
theorem Rp.mono {K : PySem.W.Frag} {mg : Str → Option Value} {F F' : Hp} (h : Rel F F') {v : V} {d : D} (r : Rp K mg F v d) : Rp K mg F' v d := by
  induction r with
  | non => exact .non
  | bl b => exact .bl b
  | int i => exact .int i
  | str e => exact .str e
  | lst e hl he ih => exact .lst (h.lst e) hl ih
  | tup e hl he ih => exact .tup (h.tup e) hl ih
  | opq a => exact .opq a
  | dct e hk he ih => exact .dct (h.other e fun _ _ _ z => by cases z) hk ih
  | scr e => exact .scr (h.seq e)
  | obj vf hm e h0 h1 h2 h3 h4 h5 ih =>
    obtain ⟨gs', e', hg, hs, hlen⟩ := h.ins e
    refine .obj vf hm e' h0 (fun n d q => ?_) ih (fun n v q => ?_) (fun hc => by
      obtain ⟨i, hi⟩ := h4 hc
      exact hs i hi) (by rw [hlen]; exact h5)
    · rw [hg n (fun z => by rw [z, h0] at q; cases q)]
      exact h1 n d q
    · by_cases hn : n = "#"
      · exact .inr hn
      · rw [hg n hn] at q
        exact h3 n v q
/-- lists of values -/
abbrev RpL (K : PySem.W.Frag) (mg : Str → Option Value) (F : Hp) (vs : List V) (ds : List D) : Prop := Paired (Rp K mg F) vs ds
section
variable {K : PySem.W.Frag} {mg : Str → Option Value} {F F' H H' : Hp}
theorem RpL.mono {vs : List V} {ds : List D} (h : Rel F F') (r : RpL K mg F vs ds) : RpL K mg F' vs ds := Paired.mono (fun _ _ x => x.mono h) r
theorem RpL.get : ∀ {vs : List V} {ds : List D} {i : Nat} {v : V} {d : D}, RpL K mg F vs ds → vs[i]? = some v → ds[i]? = some d → Rp K mg F v d
  | _, _, _, _, _, .nil, e, _ => by simp at e
  | _, _, 0, _, _, .cons r _, e, e' => by simp at e e'; subst e e'; exact r
  | _, _, i + 1, v, d, .cons _ t, e, e' => RpL.get (i := i) t (by simpa using e) (by simpa using e')
theorem RpL.of : ∀ {vs : List V} {ds : List D}, vs.length = ds.length → (∀ (i : Nat) v d, vs[i]? = some v → ds[i]? = some d → Rp K mg F v d) → RpL K mg F vs ds
  | [], [], _, _ => .nil
  | [], _ :: _, e, _ => by simp at e
  | _ :: _, [], e, _ => by simp at e
  | v :: vs, d :: ds, e, h => .cons (h 0 v d rfl rfl) (RpL.of (by simpa using e) fun i v d e1 e2 => h (i + 1) v d (by simpa using e1) (by simpa using e2))
theorem RpL.lst {a : Addr} {vs : List V} {ds : List D} (h : F a = some (.lst vs)) (r : RpL K mg F vs ds) : Rp K mg F (.ref a) (.lst ds) := .lst h r.length fun _ _ _ e e' => r.get e e'
theorem RpL.tup {a : Addr} {vs : List V} {ds : List D} (h : F a = some (.tup vs)) (r : RpL K mg F vs ds) : Rp K mg F (.ref a) (.tup ds) := .tup h r.length fun _ _ _ e e' => r.get e e'
theorem RpL.append : ∀ {vs us : List V} {ds es : List D}, RpL K mg F vs ds → RpL K mg F us es → RpL K mg F (vs ++ us) (ds ++ es)
  | _, _, _, _, .nil, s => s
  | _, _, _, _, .cons r t, s => .cons r (RpL.append t s)
theorem RpL.take : ∀ {vs : List V} {ds : List D} (n : Nat), RpL K mg F vs ds → RpL K mg F (vs.take n) (ds.take n)
  | _, _, 0, _ => .nil
  | _, _, _ + 1, .nil => .nil
  | _, _, n + 1, .cons r t => .cons r (RpL.take n t)
theorem RpL.drop : ∀ {vs : List V} {ds : List D} (n : Nat), RpL K mg F vs ds → RpL K mg F (vs.drop n) (ds.drop n)
  | _, _, 0, r => r
  | _, _, _ + 1, .nil => .nil
  | _, _, n + 1, .cons _ t => RpL.drop n t
theorem RpL.set : ∀ {vs : List V} {ds : List D} {v : V} {d : D} (i : Nat), RpL K mg F vs ds → Rp K mg F v d → RpL K mg F (vs.set i v) (ds.set i d)
  | _, _, _, _, _, .nil, _ => .nil
  | _, _, _, _, 0, .cons _ t, r => .cons r t
  | _, _, _, _, i + 1, .cons q t, r => .cons q (RpL.set i t r)
theorem RpL.dropLast : ∀ {vs : List V} {ds : List D}, RpL K mg F vs ds → RpL K mg F vs.dropLast ds.dropLast
  | _, _, .nil => .nil
  | _, _, .cons _ .nil => .nil
  | _, _, .cons r (.cons q t) => .cons r (RpL.dropLast (.cons q t))
theorem RpL.get1 {vs : List V} {ds : List D} {i : Nat} {d : D} (r : RpL K mg F vs ds) (e : ds[i]? = some d) : ∃ v, vs[i]? = some v ∧ Rp K mg F v d := by
  have hl := r.length
  have hi : i < vs.length := by rw [hl]; exact (List.getElem?_eq_some_iff.mp e).1
  exact ⟨vs[i], List.getElem?_eq_getElem hi, r.get (List.getElem?_eq_getElem hi) e⟩
theorem RpL.ints : ∀ {vs : List V} {ns : List Int}, RpL K mg F vs (ns.map D.int) → vs = ns.map V.int
  | _, [], r => by cases r; rfl
  | _, n :: ns, r => by
    cases r with
    | cons r t => cases r; rw [RpL.ints t]; rfl
theorem RpL.strs : ∀ {vs : List V} {ls : List (List Nat)}, RpL K mg F vs (ls.map D.str) → ∃ ys : List Str, vs = ys.map V.str ∧ ys.map TL.tl = ls
  | _, [], r => by cases r; exact ⟨[], rfl, rfl⟩
  | _, l :: ls, r => by
    cases r with
    | cons r t =>
      cases r with
      | str h =>
        obtain ⟨ys, e1, e2⟩ := RpL.strs t
        exact ⟨_ :: ys, by rw [e1]; rfl, by rw [List.map_cons, h, e2]⟩
theorem RpL.bls : ∀ {vs : List V} {ns : List Bool}, RpL K mg F vs (ns.map D.bl) → vs = ns.map V.bl
  | _, [], r => by cases r; rfl
  | _, n :: ns, r => by
    cases r with
    | cons r t => cases r; rw [RpL.bls t]; rfl
theorem Rp.lst_inv {v : V} {ds : List D} (r : Rp K mg F v (.lst ds)) : ∃ a vs, v = .ref a ∧ F a = some (.lst vs) ∧ RpL K mg F vs ds := by
  cases r with
  | lst h hl he => exact ⟨_, _, rfl, h, .of hl he⟩
theorem Rp.tup_inv {v : V} {ds : List D} (r : Rp K mg F v (.tup ds)) : ∃ a vs, v = .ref a ∧ F a = some (.tup vs) ∧ RpL K mg F vs ds := by
  cases r with
  | tup h hl he => exact ⟨_, _, rfl, h, .of hl he⟩
end
/-! ### the steps of the heap -/
def Sub (F H : Hp) : Prop := ∀ a o, F a = some o → H a = some o
theorem Sub.rel {F H : Hp} (h : Sub F H) : Rel F H := fun a o e => ⟨o, h a o e, .refl o⟩
/-- what is held of the heap: all but unknown tables of code objects -/
def vis (T : List (Addr × Str)) (a : Addr) (o : HO) : Prop := T = [] ∨ (∀ ps, o ≠ .tbl ps) ∨ ∃ q, (a, q) ∈ T
/-- a place at which nothing is held -/
def Fr0 (T : List (Addr × Str)) (H : Hp) (p : Addr) : Prop := ∀ o, H p = some o → ¬ vis T p o
structure Gd (T : List (Addr × Str)) (F H : Hp) : Prop where
  sub : Sub F H
  tabs : LamX.Tabs T H
  ntb : ∀ a ps, F a ≠ some (.tbl ps)
structure Step (T : List (Addr × Str)) (F H F' H' : Hp) : Prop where
  r : Rel F F'
  gd : Gd T F' H'
  fr : ∀ a o, F a = none → H a = some o → (T = [] ∨ ∀ ps, o ≠ .tbl ps) → H' a = some o
  off : ∀ a o, F a = none → H a = some o → vis T a o → F' a = none ∧ ∃ o', H' a = some o' ∧ vis T a o'
section
variable {T : List (Addr × Str)} {F H F1 H1 F2 H2 : Hp} {p : Addr} {o : HO}
theorem Fr0.of (h : H p = none) : Fr0 T H p := fun o e => by rw [h] at e; cases e
theorem Fr0.ne (h : Fr0 T H p) {a : Addr} {o : HO} (e : H a = some o) (v : vis T a o) : a ≠ p := fun z => by subst z; exact h o e v
theorem vis_of {a : Addr} {o : HO} (h : T = [] ∨ ∀ ps, o ≠ .tbl ps) : vis T a o := h.elim .inl fun z => .inr (.inl z)
theorem Step.sub (s : Step T F H F1 H1) : Sub F1 H1 := s.gd.sub
theorem Step.tabs (s : Step T F H F1 H1) : LamX.Tabs T H1 := s.gd.tabs
theorem Step.refl (g : Gd T F H) : Step T F H F H := ⟨.refl F, g, fun _ _ _ e _ => e, fun _ o n e v => ⟨n, o, e, v⟩⟩
theorem Step.trans (a : Step T F H F1 H1) (b : Step T F1 H1 F2 H2) : Step T F H F2 H2 :=
  ⟨a.r.trans b.r, b.gd, fun x o n e c => b.fr x o (a.off x o n e (vis_of c)).1 (a.fr x o n e c) c, fun x o n e v => by
    obtain ⟨n1, o1, e1, v1⟩ := a.off x o n e v
    exact b.off x o1 n1 e1 v1⟩
theorem tabs_new (t : LamX.Tabs T H) (hp : H p = none) : LamX.Tabs T (upd H p o) := t.ext fun b u e => by
  rw [upd_ne (ne_of_none e hp)]
  exact e
theorem Sub.none (h : Sub F H) (hp : H p = none) : F p = none := by
  cases q : F p with
  | none => rfl
  | some u => rw [h p u q] at hp; cases hp
theorem Step.new (g : Gd T F H) (hp : H p = none) (ho : ∀ ps, o ≠ .tbl ps := by intro _ z; cases z) : Step T F H (upd F p o) (upd H p o) := by
  have nF := g.sub.none hp
  refine ⟨fun a u e => ⟨u, by rw [upd_ne (ne_of_none e nF)]; exact e, .refl u⟩, ⟨fun a u e => ?_, tabs_new g.tabs hp, fun a ps e => ?_⟩, fun a u n e _ => by rw [upd_ne (ne_of_none e hp)]; exact e, fun a u n e v => ⟨?_, u, by rw [upd_ne (ne_of_none e hp)]; exact e, v⟩⟩
  · by_cases z : a = p
    · subst z; rw [upd_same] at e ⊢; exact e
    · rw [upd_ne z] at e ⊢; exact g.sub a u e
  · by_cases z : a = p
    · subst z; rw [upd_same] at e; exact ho ps (Option.some.inj e)
    · rw [upd_ne z] at e; exact g.ntb a ps e
  · rw [upd_ne (ne_of_none e hp)]; exact n
/-- a new object that is not (yet) frozen -/
theorem Step.junk (g : Gd T F H) (hp : H p = none) : Step T F H F (upd H p o) :=
  ⟨.refl F, ⟨fun a u e => by rw [upd_ne (ne_of_none (g.sub a u e) hp)]; exact g.sub a u e, tabs_new g.tabs hp, g.ntb⟩, fun a u n e _ => by rw [upd_ne (ne_of_none e hp)]; exact e, fun a u n e v => ⟨n, u, by rw [upd_ne (ne_of_none e hp)]; exact e, v⟩⟩
/-- an object that was not there at the start is frozen -/
theorem Step.freeze (s : Step T F H F1 H1) (n0 : Fr0 T H p) (hF : F1 p = none) (e : H1 p = some o) (ho : ∀ ps, o ≠ .tbl ps := by intro _ z; cases z) : Step T F H (upd F1 p o) H1 := by
  refine ⟨fun a u q => ?_, ⟨fun a u q => ?_, s.tabs, fun a ps q => ?_⟩, s.fr, fun a u n q v => ?_⟩
  · obtain ⟨u', q', c⟩ := s.r a u q
    exact ⟨u', by rw [upd_ne (ne_of_none q' hF)]; exact q', c⟩
  · by_cases z : a = p
    · subst z; rw [upd_same] at q; cases q; exact e
    · rw [upd_ne z] at q; exact s.sub a u q
  · by_cases z : a = p
    · subst z; rw [upd_same] at q; exact ho ps (Option.some.inj q)
    · rw [upd_ne z] at q; exact s.gd.ntb a ps q
  · obtain ⟨n1, o1, e1, v1⟩ := s.off a u n q v
    exact ⟨by rw [upd_ne (n0.ne q v)]; exact n1, o1, e1, v1⟩
/-- an object that was not there at the start, and is not frozen, changes -/
theorem Step.turn (s : Step T F H F1 H1) (n0 : Fr0 T H p) (hF : F1 p = none) (ht : ∀ ps, H1 p ≠ some (.tbl ps)) (hx : ∀ φ, H1 p ≠ some (.ext φ)) : Step T F H F1 (upd H1 p o) := by
  refine ⟨s.r, ⟨fun a u q => ?_, fun x hx' => ?_, s.gd.ntb⟩, fun a u n q c => ?_, fun a u n q v => ?_⟩
  · rw [upd_ne (ne_of_none q hF)]; exact s.sub a u q
  · obtain ⟨ps, e1, e2, e3⟩ := s.tabs x hx'
    refine ⟨ps, ?_, e2, fun pos cv hc => ?_⟩
    · rw [upd_ne (fun z => ht ps (by rw [← z]; exact e1))]; exact e1
    · obtain ⟨c, h1, h2⟩ := e3 pos cv hc
      refine ⟨c, h1, ?_⟩
      rw [upd_ne (fun z => hx _ (by rw [← z]; exact h2))]; exact h2
  · rw [upd_ne (n0.ne q (vis_of c))]; exact s.fr a u n q c
  · obtain ⟨n1, o1, e1, v1⟩ := s.off a u n q v
    exact ⟨n1, o1, by rw [upd_ne (n0.ne q v)]; exact e1, v1⟩
/-- from a callee (all is kept) to any air -/
theorem Step.lift (g : Gd T F H) (s : Step [] F H F1 H1) : Step T F H F1 H1 := by
  have same : ∀ a o, H a = some o → (∀ C dx gs, o ≠ .ins C dx gs) → H1 a = some o := fun a o e n => by
    cases q : F a with
    | none => exact s.fr a o q e (.inl rfl)
    | some u =>
      have e' := g.sub a u q
      rw [e] at e'; cases e'
      exact s.sub a o (s.r.other q n)
  refine ⟨s.r, ⟨s.sub, fun x hx => ?_, s.gd.ntb⟩, fun a o n e _ => s.fr a o n e (.inl rfl), fun a o n e v => ⟨(s.off a o n e (.inl rfl)).1, o, s.fr a o n e (.inl rfl), v⟩⟩
  obtain ⟨ps, e1, e2, e3⟩ := g.tabs x hx
  refine ⟨ps, same _ _ e1 (fun _ _ _ z => by cases z), e2, fun pos cv hc => ?_⟩
  obtain ⟨c, h1, h2⟩ := e3 pos cv hc
  exact ⟨c, h1, same _ _ h2 (fun _ _ _ z => by unfold LamX.CodeO at z; cases z)⟩
end
/-! ### the store -/
inductive Slot where
  | no | val (d : D) | own (ds : List D) | ins (c : Str) (fs : List (Str × D))
abbrev Sto := List Slot
def Slot.owned : Slot → Bool
  | .own _ => true
  | .ins _ _ => true
  | _ => false
section
variable (K : PySem.W.Frag) (mg : Str → Option Value)
/-- an instance's attributes, exactly -/
def Flds (F : Hp) (gs : List (Str × V)) (fs : List (Str × D)) : Prop := Paired (fun (p : Str × V) (q : Str × D) => p.1 = q.1 ∧ Rp K mg F p.2 q.2) gs fs
def SlotOk (F H : Hp) (ov : Option V) : Slot → Prop
  | .no => True
  | .val d => ∃ v, ov = some v ∧ Rp K mg F v d
  | .own ds => ∃ a vs, ov = some (.ref a) ∧ F a = none ∧ H a = some (.lst vs) ∧ RpL K mg F vs ds
  | .ins c fs => ∃ a C dx gs, ov = some (.ref a) ∧ F a = none ∧ F dx = none ∧ mg c = some (.ref C) ∧ H a = some (.ins C dx gs) ∧ H dx = some (.own a) ∧ Flds K mg F gs fs
structure Lcl (T : List (Addr × Str)) (F H : Hp) (σ : L2.St) (δ : Sto) : Prop where
  gd : Gd T F H
  len : σ.length = δ.length
  slot : ∀ (i : Nat) s, δ[i]? = some s → ∃ ov, σ[i]? = some ov ∧ SlotOk K mg F H ov s
  apart : ∀ (i j : Nat) s s' a, i ≠ j → δ[i]? = some s → δ[j]? = some s' → s.owned = true → s'.owned = true → σ[i]? = some (some (.ref a)) → σ[j]? = some (some (.ref a)) → False
end
section
variable {K : PySem.W.Frag} {mg : Str → Option Value} {T : List (Addr × Str)} {F H F' H' : Hp} {σ : L2.St} {δ : Sto}
theorem Flds.mono {gs : List (Str × V)} {fs : List (Str × D)} (h : Rel F F') (r : Flds K mg F gs fs) : Flds K mg F' gs fs := Paired.mono (fun _ _ x => ⟨x.1, x.2.mono h⟩) r
theorem SlotOk.step {ov : Option V} {s : Slot} (h : SlotOk K mg F H ov s) (st : Step T F H F' H') : SlotOk K mg F' H' ov s := by
  cases s with
  | no => trivial
  | val d =>
    obtain ⟨v, e, r⟩ := h
    exact ⟨v, e, r.mono st.r⟩
  | own ds =>
    obtain ⟨a, vs, e, n, q, r⟩ := h
    exact ⟨a, vs, e, (st.off a _ n q (.inr (.inl fun _ z => by cases z))).1, st.fr a _ n q (.inr fun _ z => by cases z), r.mono st.r⟩
  | ins c fs =>
    obtain ⟨a, C, dx, gs, e, n, n', hm, q, q', r⟩ := h
    exact ⟨a, C, dx, gs, e, (st.off a _ n q (.inr (.inl fun _ z => by cases z))).1, (st.off dx _ n' q' (.inr (.inl fun _ z => by cases z))).1, hm, st.fr a _ n q (.inr fun _ z => by cases z), st.fr dx _ n' q' (.inr fun _ z => by cases z), r.mono st.r⟩
theorem Lcl.step (L : Lcl K mg T F H σ δ) (st : Step T F H F' H') : Lcl K mg T F' H' σ δ :=
  ⟨st.gd, L.len, fun i s e => by
    obtain ⟨ov, e1, h⟩ := L.slot i s e
    exact ⟨ov, e1, h.step st⟩, L.apart⟩
theorem Lcl.sub (L : Lcl K mg T F H σ δ) : Sub F H := L.gd.sub
theorem Lcl.tabs (L : Lcl K mg T F H σ δ) : LamX.Tabs T H := L.gd.tabs
theorem Lcl.refl (L : Lcl K mg T F H σ δ) : Step T F H F H := .refl L.gd
end
/-! ### the readings -/
/-- a wish about exceptions: by the class's name -/
abbrev Wi := Str → Hp → Prop
abbrev WF : Wi := fun _ _ => False
section
variable (K : PySem.W.Frag) (mg : Str → Option Value) (T : List (Addr × Str))
def PostE (F H : Hp) (W : Wi) (Q : VK) : Res D → Prop
  | .ok d => ∀ v F' H', Step T F H F' H' → Rp K mg F' v d → Q v H'
  | .rs c => ∀ F' H', Step T F H F' H' → W c H'
  | .stuck => False
def PostT (F H : Hp) (W : Wi) (Q : Bool → Hp → Prop) : Res Bool → Prop
  | .ok b => ∀ F' H', Step T F H F' H' → Q b H'
  | .rs c => ∀ F' H', Step T F H F' H' → W c H'
  | .stuck => False
def PostA (F H : Hp) (W : Wi) (Q : List V → Hp → Prop) : Res (List D) → Prop
  | .ok ds => ∀ vs F' H', Step T F H F' H' → RpL K mg F' vs ds → Q vs H'
  | .rs c => ∀ F' H', Step T F H F' H' → W c H'
  | .stuck => False
/-- a new list, not yet frozen -/
def PostL (F H : Hp) (W : Wi) (Q : VK) : Res (List D) → Prop
  | .ok ds => ∀ p vs F' H', Fr0 T H p → Step T F H F' H' → F' p = none → H' p = some (.lst vs) → RpL K mg F' vs ds → Q (.ref p) H'
  | .rs c => ∀ F' H', Step T F H F' H' → W c H'
  | .stuck => False
def tD (W : Wi) (f : Sto → Res D) : TE := fun σ H Q => ∃ F δ, Lcl K mg T F H σ δ ∧ PostE K mg T F H W Q (f δ)
def tDT (W : Wi) (f : Sto → Res Bool) : TT := fun σ H Q => ∃ F δ, Lcl K mg T F H σ δ ∧ PostT T F H W Q (f δ)
def tDA (W : Wi) (f : Sto → Res (List D)) : TA := fun σ H Q => ∃ F δ, Lcl K mg T F H σ δ ∧ PostA K mg T F H W Q (f δ)
def tDL (W : Wi) (f : Sto → Res (List D)) : TE := fun σ H Q => ∃ F δ, Lcl K mg T F H σ δ ∧ PostL K mg T F H W Q (f δ)
end
section
variable {K : PySem.W.Frag} {mg : Str → Option Value} {T : List (Addr × Str)} {F H F' H' : Hp} {σ : L2.St} {δ : Sto} {W : Wi}
theorem PostE.shift {Q : VK} {r : Res D} (h : PostE K mg T F H W Q r) (st : Step T F H F' H') : PostE K mg T F' H' W Q r := by
  cases r with
  | ok d => exact fun v F2 H2 s2 => h v F2 H2 (st.trans s2)
  | rs c => exact fun F2 H2 s2 => h F2 H2 (st.trans s2)
  | stuck => exact h
theorem PostT.shift {Q : Bool → Hp → Prop} {r : Res Bool} (h : PostT T F H W Q r) (st : Step T F H F' H') : PostT T F' H' W Q r := by
  cases r with
  | ok d => exact fun F2 H2 s2 => h F2 H2 (st.trans s2)
  | rs c => exact fun F2 H2 s2 => h F2 H2 (st.trans s2)
  | stuck => exact h
theorem PostE.here {Q : VK} {d : D} {v : V} (h : PostE K mg T F H W Q (.ok d)) (g : Gd T F H) (r : Rp K mg F v d) : Q v H := h v F H (.refl g) r
/-- an expression, then the rest -/
theorem tD_bind {β : Type} {f : Sto → Res D} {k : D → Res β} {Q : VK} (L : Lcl K mg T F H σ δ)
    (hrs : ∀ c, f δ = .rs c → ∀ F' H', Step T F H F' H' → W c H') (hst : f δ ≠ .stuck) (hok : ∀ d, f δ = .ok d → ∀ v F' H', Step T F H F' H' → Lcl K mg T F' H' σ δ → Rp K mg F' v d → Q v H') : tD K mg T W f σ H Q := by
  refine ⟨F, δ, L, ?_⟩
  cases e : f δ with
  | ok d => exact fun v F' H' st r => hok d e v F' H' st (L.step st) r
  | rs c => exact fun F' H' st => hrs c e F' H' st
  | stuck => exact hst e
end
end Dn


set_option Elab.async false
set_option linter.all false
set_option maxRecDepth 100000
set_option maxHeartbeats 4000000
namespace Dn
open PySem PySem.Spec PyProof.Rows L2
/-! ### the judgements -/
abbrev DE (T : List (Addr × Str)) (X : Cx) (W : Wi) (e : Expr) (f : Sto → Res D) : Prop := PE X e (tD X.K X.mg T W f)
abbrev DT (T : List (Addr × Str)) (X : Cx) (W : Wi) (e : Expr) (f : Sto → Res Bool) : Prop := PT X e (tDT X.K X.mg T W f)
abbrev DW (T : List (Addr × Str)) (X : Cx) (W : Wi) (e : Expr) (f : Sto → Res Bool) : Prop := PW X e (tDT X.K X.mg T W f)
abbrev DA (T : List (Addr × Str)) (X : Cx) (W : Wi) (es : List Expr) (f : Sto → Res (List D)) : Prop := PA X es (tDA X.K X.mg T W f)
abbrev DL (T : List (Addr × Str)) (X : Cx) (W : Wi) (e : Expr) (f : Sto → Res (List D)) : Prop := PE X e (tDL X.K X.mg T W f)
theorem weakE {X : Cx} {e : Expr} {t t' : TE} (h : PE X e t) (hw : ∀ σ H Q, t' σ H Q → t σ H Q) : PE X e t' := ⟨fun pins s σ H Q I q => h.run pins s σ H Q I (hw σ H Q q)⟩
theorem weakT {X : Cx} {e : Expr} {t t' : TT} (h : PT X e t) (hw : ∀ σ H Q, t' σ H Q → t σ H Q) : PT X e t' := ⟨fun pins s σ H Q I q => h.run pins s σ H Q I (hw σ H Q q)⟩
theorem weakW {X : Cx} {e : Expr} {t t' : TT} (h : PW X e t) (hw : ∀ σ H Q, t' σ H Q → t σ H Q) : PW X e t' := ⟨fun wh pins s σ H Q I q => h.run wh pins s σ H Q I (hw σ H Q q)⟩
theorem weakA {X : Cx} {e : List Expr} {t t' : TA} (h : PA X e t) (hw : ∀ σ H Q, t' σ H Q → t σ H Q) : PA X e t' := ⟨fun pos pins s σ H Q I q => h.run pos pins s σ H Q I (hw σ H Q q)⟩
/-! ### one after the other -/
structure PP (T : List (Addr × Str)) (W : Wi) {β : Type} (P : Hp → Hp → Res β → Prop) : Prop where
  st : ∀ F H, ¬ P F H .stuck
  rs : ∀ F H c, P F H (.rs c) → ∀ F' H', Step T F H F' H' → W c H'
  sh : ∀ F H F' H' r, Gd T F H → Step T F H F' H' → P F H r → P F' H' r
theorem Step.back {T : List (Addr × Str)} {F H F' H' : Hp} {p : Addr} (st : Step T F H F' H') (sb : Sub F H) (h : Fr0 T H' p) : Fr0 T H p := fun o q v => by
  cases z : F p with
  | none =>
    obtain ⟨_, o', e, v'⟩ := st.off p o z q v
    exact h o' e v'
  | some u =>
    have e0 := sb p u z
    rw [q] at e0; cases e0
    obtain ⟨o', e, c⟩ := st.r p o z
    refine h o' (st.sub p o' e) (.inr (.inl fun ps y => ?_))
    subst y
    exact st.gd.ntb p ps e
section
variable {K : PySem.W.Frag} {mg : Str → Option Value} {T : List (Addr × Str)} {F H F' H' : Hp} {σ : L2.St} {δ : Sto} {W : Wi}
theorem ppE {Q : VK} : PP T W (fun F H r => PostE K mg T F H W Q r) := ⟨fun _ _ h => h, fun _ _ _ h => h, fun _ _ _ _ _ _ st h => h.shift st⟩
theorem ppT {Q : Bool → Hp → Prop} : PP T W (fun F H r => PostT T F H W Q r) := ⟨fun _ _ h => h, fun _ _ _ h => h, fun _ _ _ _ _ _ st h => h.shift st⟩
theorem ppA {Q : List V → Hp → Prop} : PP T W (fun F H r => PostA K mg T F H W Q r) := ⟨fun _ _ h => h, fun _ _ _ h => h, fun F H F' H' r _ st h => by
  cases r with
  | ok d => exact fun v F2 H2 s2 => h v F2 H2 (st.trans s2)
  | rs c => exact fun F2 H2 s2 => h F2 H2 (st.trans s2)
  | stuck => exact h⟩
theorem ppL {Q : VK} : PP T W (fun F H r => PostL K mg T F H W Q r) := ⟨fun _ _ h => h, fun _ _ _ h => h, fun F H F' H' r sb st h => by
  cases r with
  | ok d => exact fun p vs F2 H2 hp s2 => h p vs F2 H2 (st.back sb.sub hp) (st.trans s2)
  | rs c => exact fun F2 H2 s2 => h F2 H2 (st.trans s2)
  | stuck => exact h⟩
theorem bindE {β : Type} {P : Hp → Hp → Res β → Prop} {f : Sto → Res D} {k : D → Res β} {Q' : VK} (pp : PP T W P) (L : Lcl K mg T F H σ δ) (h : P F H ((f δ).bind k))
    (hk : ∀ d v F' H', Step T F H F' H' → Lcl K mg T F' H' σ δ → Rp K mg F' v d → P F' H' (k d) → Q' v H') : tD K mg T W f σ H Q' := by
  refine ⟨F, δ, L, ?_⟩
  cases e : f δ with
  | ok d => rw [e] at h; exact fun v F' H' st r => hk d v F' H' st (L.step st) r (pp.sh _ _ _ _ _ L.gd st h)
  | rs c => rw [e] at h; exact pp.rs _ _ _ h
  | stuck => rw [e] at h; exact (pp.st _ _ h).elim
theorem bindT {β : Type} {P : Hp → Hp → Res β → Prop} {f : Sto → Res Bool} {k : Bool → Res β} {Q' : Bool → Hp → Prop} (pp : PP T W P) (L : Lcl K mg T F H σ δ) (h : P F H ((f δ).bind k))
    (hk : ∀ b F' H', Step T F H F' H' → Lcl K mg T F' H' σ δ → P F' H' (k b) → Q' b H') : tDT K mg T W f σ H Q' := by
  refine ⟨F, δ, L, ?_⟩
  cases e : f δ with
  | ok d => rw [e] at h; exact fun F' H' st => hk d F' H' st (L.step st) (pp.sh _ _ _ _ _ L.gd st h)
  | rs c => rw [e] at h; exact pp.rs _ _ _ h
  | stuck => rw [e] at h; exact (pp.st _ _ h).elim
theorem bindA {β : Type} {P : Hp → Hp → Res β → Prop} {f : Sto → Res (List D)} {k : List D → Res β} {Q' : List V → Hp → Prop} (pp : PP T W P) (L : Lcl K mg T F H σ δ) (h : P F H ((f δ).bind k))
    (hk : ∀ ds vs F' H', Step T F H F' H' → Lcl K mg T F' H' σ δ → RpL K mg F' vs ds → P F' H' (k ds) → Q' vs H') : tDA K mg T W f σ H Q' := by
  refine ⟨F, δ, L, ?_⟩
  cases e : f δ with
  | ok d => rw [e] at h; exact fun v F' H' st r => hk d v F' H' st (L.step st) r (pp.sh _ _ _ _ _ L.gd st h)
  | rs c => rw [e] at h; exact pp.rs _ _ _ h
  | stuck => rw [e] at h; exact (pp.st _ _ h).elim
theorem PostE.ite {Q : VK} {c : Prop} [Decidable c] {x : Res D} (h : PostE K mg T F H W Q (if c then x else .stuck)) : c ∧ PostE K mg T F H W Q x := by
  by_cases hc : c
  · rw [if_pos hc] at h; exact ⟨hc, h⟩
  · rw [if_neg hc] at h; exact h.elim
/-- of an expression as it is -/
theorem asE {f : Sto → Res D} {Q Q' : VK} (L : Lcl K mg T F H σ δ) (h : PostE K mg T F H W Q (f δ)) (hk : ∀ v H', Q v H' → Q' v H') : tD K mg T W f σ H Q' := by
  refine ⟨F, δ, L, ?_⟩
  cases e : f δ with
  | ok d => rw [e] at h; exact fun v F' H' st r => hk v H' (h v F' H' st r)
  | rs c => rw [e] at h; exact h
  | stuck => rw [e] at h; exact h
end
/-! ### the combinators -/
def vr (i : Nat) : Sto → Res D := fun δ => match δ[i]? with
  | some (.val d) => .ok d
  | _ => .stuck
def cst (d : D) : Sto → Res D := fun _ => .ok d
def bin (g : D → D → Res D) (fa fb : Sto → Res D) : Sto → Res D := fun δ => (fa δ).bind fun x => (fb δ).bind fun y => g x y
def un (g : D → Res D) (fa : Sto → Res D) : Sto → Res D := fun δ => (fa δ).bind g
def nilA : Sto → Res (List D) := fun _ => .ok []
def consA (fa : Sto → Res D) (fr : Sto → Res (List D)) : Sto → Res (List D) := fun δ => (fa δ).bind fun x => (fr δ).bind fun xs => .ok (x :: xs)
def app (g : List D → Res D) (fa : Sto → Res (List D)) : Sto → Res D := fun δ => (fa δ).bind g
def asB : D → Res Bool
  | .bl b => .ok b
  | _ => .stuck
def tst (f : Sto → Res D) : Sto → Res Bool := fun δ => (f δ).bind asB
def andT (f g : Sto → Res Bool) : Sto → Res Bool := fun δ => (f δ).bind fun b => if b = true then g δ else .ok false
def orT (f g : Sto → Res Bool) : Sto → Res Bool := fun δ => (f δ).bind fun b => if b = true then .ok true else g δ
def notT (f : Sto → Res Bool) : Sto → Res Bool := fun δ => (f δ).bind fun b => .ok (!b)
def andV (f g : Sto → Res D) : Sto → Res D := fun δ => (f δ).bind fun x => match x with
  | .bl true => g δ
  | .bl false => .ok (.bl false)
  | _ => .stuck
def orV (f g : Sto → Res D) : Sto → Res D := fun δ => (f δ).bind fun x => match x with
  | .bl true => .ok (.bl true)
  | .bl false => g δ
  | _ => .stuck
def notD : D → Res D
  | .bl b => .ok (.bl (!b))
  | _ => .stuck
def ifE (t : Sto → Res Bool) (f g : Sto → Res D) : Sto → Res D := fun δ => (t δ).bind fun b => if b = true then f δ else g δ
/-- the size that texts and lists keep within here -/
abbrev line : Nat := 1000000
theorem line_le : line ≤ sizeLine := by rw [sizeLine_eq]; decide
/-! ### rules: names, constants -/
section
variable {T : List (Addr × Str)} {X : Cx} {W : Wi}
theorem de_var (i : Nat) {x : Str} {pos : Pos} (hN : X.N[i]? = some x := by rfl) (hv : Vis X.env.scope x := by first | exact Or.inl rfl | exact Or.inr (Or.inl rfl) | exact Or.inr (Or.inr rfl)) (hd : (x == ("__debug__" : Str)) = false := by decide)
    (hcd : (x == ("__classdict__" : Str)) = false := by decide) : DE T X W (.Name x pos) (vr i) := by
  refine weakE (pe_var (i := i) hN hv hd hcd) fun σ H Q ⟨F, δ, L, h⟩ => ?_
  unfold vr at h
  split at h
  · rename_i d e
    obtain ⟨ov, e1, v, e2, r⟩ := L.slot i _ e
    subst e2
    exact ⟨v, e1, h.here L.gd r⟩
  · exact h.elim
theorem de_c {e : Expr} {v : V} {d : D} (h : PE X e (tC v)) (r : ∀ F, Rp X.K X.mg F v d) : DE T X W e (cst d) := weakE h fun σ H Q ⟨F, δ, L, h⟩ => PostE.here h L.gd (r F)
theorem de_int {i : Int} {j pos} : DE T X W (.Constant (.int i) j pos) (cst (.int i)) := de_c pe_int fun _ => .int i
theorem de_bl {b : Bool} {j pos} : DE T X W (.Constant (.bool b) j pos) (cst (.bl b)) := de_c pe_bl fun _ => .bl b
theorem de_non {j pos} : DE T X W (.Constant .none j pos) (cst .non) := de_c pe_non fun _ => .non
theorem de_str {x : Str} {l : List Nat} {j pos} (h : TL.tl x = l := by rfl) : DE T X W (.Constant (.str x) j pos) (cst (.str l)) := de_c pe_str fun _ => .str h
/-- a module's constant int, text -/
theorem de_gint {x : Str} {i : Int} {t : Tok} {pos : Pos} (hm : X.mg x = some (.int i t)) (hg : Gl X x := by rfl) (hd : (x == ("__debug__" : Str)) = false := by decide) : DE T X W (.Name x pos) (cst (.int i)) := de_c (pe_glob (v := .int i) hg hm ⟨t, rfl⟩ hd) fun _ => .int i
theorem de_gstr {x s : Str} {l : List Nat} {t : Tok} {pos : Pos} (hm : X.mg x = some (.str s t)) (h : TL.tl s = l := by rfl) (hg : Gl X x := by rfl) (hd : (x == ("__debug__" : Str)) = false := by decide) : DE T X W (.Name x pos) (cst (.str l)) := de_c (pe_glob (v := .str s) hg hm ⟨t, rfl⟩ hd) fun _ => .str h
/-! ### operators -/
def R2D (K : PySem.W.Frag) (mg : Str → Option Value) (T : List (Addr × Str)) (r : R2) (g : D → D → Res D) : Prop :=
  ∀ F H v u x y (W : Wi) Q, Gd T F H → Rp K mg F v x → Rp K mg F u y → PostE K mg T F H W Q (g x y) → r v u H Q
def R1D (K : PySem.W.Frag) (mg : Str → Option Value) (T : List (Addr × Str)) (r : V → Hp → VK → Prop) (g : D → Res D) : Prop :=
  ∀ F H v x (W : Wi) Q, Gd T F H → Rp K mg F v x → PostE K mg T F H W Q (g x) → r v H Q
def RCD (K : PySem.W.Frag) (mg : Str → Option Value) (T : List (Addr × Str)) (r : List V → Hp → VK → Prop) (g : List D → Res D) : Prop :=
  ∀ F H vs ds (W : Wi) Q, Gd T F H → RpL K mg F vs ds → PostE K mg T F H W Q (g ds) → r vs H Q
section
variable {a b c : Expr} {fa fb fc : Sto → Res D} {pos : Pos} {r : R2} {g : D → D → Res D}
theorem de_op {op : Operator} (ho : OpR X (binaryOp op) r) (hr : R2D X.K X.mg T r g) (ha : DE T X W a fa) (hb : DE T X W b fb) : DE T X W (.BinOp a op b pos) (bin g fa fb) :=
  weakE (pe_op ho ha hb) fun σ H Q ⟨F, δ, L, h⟩ => bindE ppE L h fun x v F1 H1 s1 L1 r1 h1 => bindE ppE L1 h1 fun y u F2 H2 s2 L2 r2 h2 => hr F2 H2 v u x y W Q L2.gd (r1.mono s2.r) r2 h2
theorem de_un {op : UnaryOp} {r : V → Hp → VK → Prop} {g : D → Res D} (ho : UnR X (unaryOp op) r) (hr : R1D X.K X.mg T r g) (ha : DE T X W a fa) : DE T X W (.UnaryOp op a pos) (un g fa) :=
  weakE (pe_un ho ha) fun σ H Q ⟨F, δ, L, h⟩ => bindE ppE L h fun x v F1 H1 s1 L1 r1 h1 => hr F1 H1 v x W Q L1.gd r1 h1
theorem de_cmp {op : CmpOp} (ho : OpR X (compareOp op) r) (hr : R2D X.K X.mg T r g) (ha : DE T X W a fa) (hb : DE T X W b fb) (hm : behindInMarks op b = false) : DE T X W (.Compare a [op] [b] pos) (bin g fa fb) :=
  weakE (pe_cmpR ho ha hb hm) fun σ H Q ⟨F, δ, L, h⟩ => bindE ppE L h fun x v F1 H1 s1 L1 r1 h1 => bindE ppE L1 h1 fun y u F2 H2 s2 L2 r2 h2 => hr F2 H2 v u x y W Q L2.gd (r1.mono s2.r) r2 h2
/-- what a test wants of a value -/
theorem PostT.test {Q : Bool → Hp → Prop} {F H : Hp} {x : Res D} (h : PostT T F H W Q (x.bind asB)) : PostE X.K X.mg T F H W (fun v H' => ∃ k, v = .bl k ∧ Q k H') x := by
  cases x with
  | ok d =>
    cases d with
    | bl b => exact fun v F' H' st rv => by cases rv; exact ⟨b, rfl, h F' H' st⟩
    | _ => exact (show False from h).elim
  | rs c => exact h
  | stuck => exact h
theorem dt_cmp {op : CmpOp} (ho : OpR X (compareOp op) r) (hr : R2D X.K X.mg T r g) (ha : DE T X W a fa) (hb : DE T X W b fb) (hm : behindInMarks op b = false) : DT T X W (.Compare a [op] [b] pos) (tst (bin g fa fb)) := by
  refine weakT (pt_cmpR ho ha hb hm) fun σ H Q ⟨F, δ, L, h⟩ => ?_
  have h' := PostT.test (X := X) h
  exact bindE ppE L h' fun x v F1 H1 s1 L1 r1 h1 => bindE ppE L1 h1 fun y u F2 H2 s2 L2 r2 h2 => hr F2 H2 v u x y W _ L2.gd (r1.mono s2.r) r2 h2
theorem dt_val (ha : DE T X W a fa) (he : ∀ whole, isTrue a X.env whole = (do let v ← whole; standAt a.pos; holding [v] (truthy v)) := by intro _; rfl) : DT T X W a (tst fa) :=
  weakT (pt_val ha he) fun σ H Q ⟨F, δ, L, h⟩ => ⟨F, δ, L, PostT.test (X := X) h⟩
variable {ft fu : Sto → Res Bool} {rest : List Expr}
theorem dw_and1 (ha : DT T X W a ft) : DW T X W (.BoolOp .And [a] pos) ft := pw_and1 ha
theorem dw_or1 (ha : DT T X W a ft) : DW T X W (.BoolOp .Or [a] pos) ft := pw_or1 ha
theorem ifp {T : List (Addr × Str)} {W : Wi} {F H : Hp} {Q : Bool → Hp → Prop} {bb : Bool} {x : Res Bool} {y : Res Bool} {A B : Prop} (h : PostT T F H W Q (if bb = true then x else y)) (h1 : PostT T F H W Q x → A) (h2 : PostT T F H W Q y → B) : if bb = true then A else B := by
  cases bb with
  | true => rw [if_pos rfl] at h ⊢; exact h1 h
  | false => rw [if_neg Bool.false_ne_true] at h ⊢; exact h2 h
theorem dw_and (ha : DT T X W a ft) (hb : DW T X W (.BoolOp .And (b :: rest) pos) fu) : DW T X W (.BoolOp .And (a :: b :: rest) pos) (andT ft fu) :=
  weakW (pw_and ha hb) fun σ H Q ⟨F, δ, L, h⟩ => bindT ppT L h fun k F1 H1 s1 L1 h1 => ifp h1 (fun q => ⟨F1, δ, L1, q⟩) fun q => q F1 H1 L1.refl
theorem dw_or (ha : DT T X W a ft) (hb : DW T X W (.BoolOp .Or (b :: rest) pos) fu) : DW T X W (.BoolOp .Or (a :: b :: rest) pos) (orT ft fu) :=
  weakW (pw_or ha hb) fun σ H Q ⟨F, δ, L, h⟩ => bindT ppT L h fun k F1 H1 s1 L1 h1 => ifp h1 (fun q => q F1 H1 L1.refl) fun q => ⟨F1, δ, L1, q⟩
theorem dw_pt (h : DW T X W a ft) : DT T X W a ft := h.pt
theorem dt_not (ha : DT T X W a ft) : DT T X W (.UnaryOp .Not a pos) (notT ft) :=
  weakT (pt_not ha) fun σ H Q ⟨F, δ, L, h⟩ => bindT ppT L h fun k F1 H1 s1 L1 h1 => h1 F1 H1 L1.refl
theorem de_one {op} (ha : DE T X W a fa) : DE T X W (.BoolOp op [a] pos) fa := pe_one ha
theorem de_and (ha : DE T X W a fa) (hb : DE T X W (.BoolOp .And (b :: rest) pos) fb) : DE T X W (.BoolOp .And (a :: b :: rest) pos) (andV fa fb) :=
  weakE (pe_and ha hb) fun σ H Q ⟨F, δ, L, h⟩ => bindE ppE L h fun x v F1 H1 s1 L1 r1 h1 => by
    cases r1 with
    | bl k =>
      refine ⟨k, rfl, ?_⟩
      cases k with
      | true => rw [if_pos rfl]; exact ⟨F1, δ, L1, h1⟩
      | false => rw [if_neg Bool.false_ne_true]; exact PostE.here h1 L1.gd (.bl false)
    | _ => exact (show False from h1).elim
theorem de_or (ha : DE T X W a fa) (hb : DE T X W (.BoolOp .Or (b :: rest) pos) fb) : DE T X W (.BoolOp .Or (a :: b :: rest) pos) (orV fa fb) :=
  weakE (pe_or ha hb) fun σ H Q ⟨F, δ, L, h⟩ => bindE ppE L h fun x v F1 H1 s1 L1 r1 h1 => by
    cases r1 with
    | bl k =>
      refine ⟨k, rfl, ?_⟩
      cases k with
      | true => rw [if_pos rfl]; exact PostE.here h1 L1.gd (.bl true)
      | false => rw [if_neg Bool.false_ne_true]; exact ⟨F1, δ, L1, h1⟩
    | _ => exact (show False from h1).elim
theorem de_not (ha : DE T X W a fa) : DE T X W (.UnaryOp .Not a pos) (un notD fa) :=
  weakE (pe_not ha) fun σ H Q ⟨F, δ, L, h⟩ => bindE ppE L h fun x v F1 H1 s1 L1 r1 h1 => by
    cases r1 with
    | bl k => exact ⟨k, rfl, PostE.here h1 L1.gd (.bl (!k))⟩
    | _ => exact (show False from h1).elim
theorem de_ifexp (hc : DT T X W c ft) (ha : DE T X W a fa) (hb : DE T X W b fb) : DE T X W (.IfExp c a b pos) (ifE ft fa fb) :=
  weakE (pe_ifExp hc ha hb) fun σ H Q ⟨F, δ, L, h⟩ => bindT ppE L h fun k F1 H1 s1 L1 h1 => by
    cases k with
    | true => rw [if_pos rfl] at h1 ⊢; exact ⟨F1, δ, L1, h1⟩
    | false => rw [if_neg Bool.false_ne_true] at h1 ⊢; exact ⟨F1, δ, L1, h1⟩
end
/-! ### arguments, displays -/
section
variable {e : Expr} {es : List Expr} {fa : Sto → Res D} {fr : Sto → Res (List D)} {pos : Pos}
theorem da_nil : DA T X W [] nilA := weakA pa_nil fun σ H Q ⟨F, δ, L, h⟩ => h [] F H L.refl .nil
theorem da_cons (ha : DE T X W e fa) (hr : DA T X W es fr) (hs : starEach (e :: es) X.env = (false, eval e X.env) :: starEach es X.env := by rfl) : DA T X W (e :: es) (consA fa fr) :=
  weakA (pa_cons ha hr hs) fun σ H Q ⟨F, δ, L, h⟩ => bindE ppA L h fun x v F1 H1 s1 L1 r1 h1 => bindA ppA L1 h1 fun xs vs F2 H2 s2 L2 r2 h2 => h2 (v :: vs) F2 H2 L2.refl (.cons (r1.mono s2.r) r2)
def mkL (xs : List D) : Res D := if xs.length ≤ line then .ok (.lst xs) else .stuck
def mkT (xs : List D) : Res D := if xs.length ≤ line then .ok (.tup xs) else .stuck
def mkN (xs : List D) : Res (List D) := if xs.length ≤ line then .ok xs else .stuck
def newA (fr : Sto → Res (List D)) : Sto → Res (List D) := fun δ => (fr δ).bind mkN
def lstE (fr : Sto → Res (List D)) : Sto → Res D := fun δ => (fr δ).bind fun xs => .ok (.lst xs)
theorem de_lst (h : DA T X W es fr) : DE T X W (.List es pos) (app mkL fr) :=
  weakE (pe_lst h) fun σ H Q ⟨F, δ, L, h⟩ => bindA ppE L h fun xs vs F1 H1 s1 L1 r1 h1 => by
    unfold mkL at h1
    split at h1
    · rename_i hl
      refine ⟨by rw [r1.length]; exact Nat.le_trans hl line_le, fun p hp => ?_⟩
      have st := Step.new (o := .lst vs) L1.gd hp
      exact h1 _ _ _ st (RpL.lst upd_same (r1.mono st.r))
    · exact h1.elim
theorem de_tup {k} (h : DA T X W es fr) : DE T X W (.Tuple es k pos) (app mkT fr) :=
  weakE (pe_tup h) fun σ H Q ⟨F, δ, L, h⟩ => bindA ppE L h fun xs vs F1 H1 s1 L1 r1 h1 => by
    unfold mkT at h1
    split at h1
    · rename_i hl
      refine ⟨by rw [r1.length]; exact Nat.le_trans hl line_le, fun p hp => ?_⟩
      have st := Step.new (o := .tup vs) L1.gd hp
      exact h1 _ _ _ st (RpL.tup upd_same (r1.mono st.r))
    · exact h1.elim
theorem dl_lst (h : DA T X W es fr) : DL T X W (.List es pos) (newA fr) :=
  weakE (pe_lst h) fun σ H Q ⟨F, δ, L, h⟩ => bindA ppL L h fun xs vs F1 H1 s1 L1 r1 h1 => by
    unfold mkN at h1
    split at h1
    · rename_i hl
      refine ⟨by rw [r1.length]; exact Nat.le_trans hl line_le, fun p hp => ?_⟩
      exact h1 p vs F1 _ (.of hp) (Step.junk L1.gd hp) (L1.sub.none hp) upd_same r1
    · exact h1.elim
/-- a new list as a value -/
theorem dl_de (h : DL T X W e fr) : DE T X W e (lstE fr) :=
  weakE h fun σ H Q ⟨F, δ, L, h⟩ => ⟨F, δ, L, by
    unfold lstE at h
    cases e1 : fr δ with
    | ok ds =>
      rw [e1] at h
      intro p vs F' H' hp st hF hH rv
      have st' := st.freeze hp hF hH
      exact h _ _ _ st' (RpL.lst upd_same (rv.mono (fun a o q => ⟨o, by rw [upd_ne (ne_of_none q hF)]; exact q, .refl o⟩)))
    | rs c => rw [e1] at h; exact h
    | stuck => rw [e1] at h; exact h⟩
end
end
end Dn


set_option Elab.async false
set_option linter.all false
set_option maxRecDepth 100000
set_option maxHeartbeats 4000000
namespace Dn
open PySem PySem.Spec PyProof.Rows L2
/-! ### the operators on data -/
def addD : D → D → Res D
  | .int i, .int j => .ok (.int (i + j))
  | .str a, .str b => if a.length + b.length ≤ line then .ok (.str (a ++ b)) else .stuck
  | .lst a, .lst b => if a.length + b.length ≤ line then .ok (.lst (a ++ b)) else .stuck
  | _, _ => .stuck
def subD : D → D → Res D
  | .int i, .int j => .ok (.int (i - j))
  | _, _ => .stuck
/-- the sizes of a product's factors -/
def mulOk (i j : Int) : Bool := (decide (-(2 ^ 64) < i) && decide (i < 2 ^ 64)) || (decide (-(2 ^ 64) < j) && decide (j < 2 ^ 64)) || (decide (i.natAbs < 2 ^ 200) && decide (j.natAbs < 2 ^ 200))
def repL {α : Type} (n : Nat) (l : List α) : List α := (List.replicate n l).flatten
def mulD : D → D → Res D
  | .int i, .int j => if mulOk i j = true then .ok (.int (i * j)) else .stuck
  | .str a, .int n => if n < 2 ^ 40 ∧ -(2 ^ 40) < n ∧ a.length * n.toNat ≤ line then .ok (.str (repL n.toNat a)) else .stuck
  | .lst a, .int n => if n < 2 ^ 40 ∧ -(2 ^ 40) < n ∧ a.length * n.toNat ≤ line then .ok (.lst (repL n.toNat a)) else .stuck
  | _, _ => .stuck
def fdivD : D → D → Res D
  | .int i, .int j => if 0 < j ∧ j < 2 ^ 200 then .ok (.int (i / j)) else .stuck
  | _, _ => .stuck
def modD : D → D → Res D
  | .int i, .int j => if 0 < j then .ok (.int (i % j)) else .stuck
  | _, _ => .stuck
def powD : D → D → Res D
  | .int i, .int j => if 0 ≤ j ∧ j ≤ 1000 ∧ i.natAbs < 2 ^ 64 then .ok (.int (i ^ j.toNat)) else .stuck
  | _, _ => .stuck
def negD : D → Res D
  | .int i => .ok (.int (-i))
  | _ => .stuck
def ltD : D → D → Res D
  | .int i, .int j => .ok (.bl (decide (i < j)))
  | .str a, .str b => .ok (.bl (decide (a < b)))
  | _, _ => .stuck
def leD : D → D → Res D
  | .int i, .int j => .ok (.bl (decide (i ≤ j)))
  | _, _ => .stuck
def gtD : D → D → Res D
  | .int i, .int j => .ok (.bl (decide (j < i)))
  | _, _ => .stuck
def geD : D → D → Res D
  | .int i, .int j => .ok (.bl (decide (j ≤ i)))
  | _, _ => .stuck
mutual
def toPy : D → PyData
  | .non => .none
  | .bl b => .bool b
  | .int i => .int i
  | .str l => .str ⟨l.toArray⟩
  | .lst xs => .list (toPys xs)
  | .tup xs => .tuple (toPys xs)
  | .scr ns => .list (ns.map PyData.int)
  | .obj _ _ => .dict []
  | .opq _ => .dict []
  | .dct _ => .dict []
def toPys : List D → List PyData
  | [] => []
  | x :: xs => toPy x :: toPys xs
end
/-- data that == can be asked of -/
def pl (d : D) : Bool := SeqAt.shaped (toPy d)
def eqD : D → D → Res D
  | .int i, .int j => .ok (.bl (decide (i = j)))
  | .str a, .str b => .ok (.bl (decide (a = b)))
  | .bl a, .bl b => .ok (.bl (decide (a = b)))
  | .non, .non => .ok (.bl true)
  | .non, .int _ => .ok (.bl false)
  | .int _, .non => .ok (.bl false)
  | .str _, .int _ => .ok (.bl false)
  | .int _, .str _ => .ok (.bl false)
  | .str _, .non => .ok (.bl false)
  | .non, .str _ => .ok (.bl false)
  | x, y => if (pl x && pl y) = true then .ok (.bl (PyData.eqv (toPy x) (toPy y))) else .stuck
def neD (x y : D) : Res D := (eqD x y).bind notD
/-- one sign in a text -/
def inD : D → D → Res D
  | .str [c], .str z => .ok (.bl (decide (c ∈ z)))
  | _, _ => .stuck
def ninD : D → D → Res D
  | .str [c], .str z => .ok (.bl (!decide (c ∈ z)))
  | _, _ => .stuck
def isND : D → D → Res D
  | .non, .non => .ok (.bl true)
  | _, .non => .ok (.bl false)
  | _, _ => .stuck
def isntND : D → D → Res D
  | .non, .non => .ok (.bl false)
  | _, .non => .ok (.bl true)
  | _, _ => .stuck
section
variable {T : List (Addr × Str)} {X : Cx} {W : Wi} {K : PySem.W.Frag} {mg : Str → Option Value}
/-- where the answer is a value and the heap stays -/
theorem fin1 {F H : Hp} {Q : VK} {d : D} {v : V} (gd : Gd T F H) (h : PostE K mg T F H W Q (.ok d)) (r : Rp K mg F v d) : Q v H := h.here gd r
theorem op_addA : OpR X (binaryOp .Add) (fun x y H Q => (rI0 fun i j => .int (i + j)) x y H Q ∨ ((∃ i j, x = .str i ∧ y = .str j ∧ i.length + j.length ≤ sizeLine ∧ Q (.str (i ++ j)) H) ∨ rCat x y H Q)) := op_add.or (op_add_str.or op_cat)
theorem r_add : R2D K mg T (fun x y H Q => (rI0 fun i j => .int (i + j)) x y H Q ∨ ((∃ i j, x = .str i ∧ y = .str j ∧ i.length + j.length ≤ sizeLine ∧ Q (.str (i ++ j)) H) ∨ rCat x y H Q)) addD := by
  intro F H v u x y W Q gd rv ru h
  cases rv with
  | int i =>
    cases ru with
    | int j => exact .inl ⟨i, j, rfl, rfl, h.here gd (.int _)⟩
    | _ => exact (show False from h).elim
  | @str a l e =>
    cases ru with
    | @str b m e' =>
      obtain ⟨hl, h⟩ := PostE.ite h
      refine .inr (.inl ⟨a, b, rfl, rfl, ?_, h.here gd (.str (by rw [TL.tl_append, e, e']))⟩)
      rw [TL.len_tl, TL.len_tl, e, e']
      exact Nat.le_trans hl line_le
    | _ => exact (show False from h).elim
  | @lst p vs ds hp hl he =>
    cases ru with
    | @lst q us es hq hl' he' =>
      obtain ⟨hz, h⟩ := PostE.ite h
      refine .inr (.inr ⟨p, q, vs, us, rfl, rfl, gd.sub _ _ hp, gd.sub _ _ hq, by rw [hl, hl']; exact Nat.le_trans hz line_le, fun z hz => ?_⟩)
      have st := Step.new (o := .lst (vs ++ us)) gd hz
      exact h _ _ _ st (RpL.lst upd_same (((RpL.of hl he).append (RpL.of hl' he')).mono st.r))
    | _ => exact (show False from h).elim
  | _ => exact (show False from h).elim
/-- two ints -/
theorem r_I0 {g : Int → Int → V} {gd : Int → Int → D} {G : D → D → Res D} (h1 : ∀ i j, G (.int i) (.int j) = .ok (gd i j)) (h2 : ∀ x y, (∀ i j, ¬ (x = .int i ∧ y = .int j)) → G x y = .stuck) (h3 : ∀ i j F, Rp K mg F (g i j) (gd i j)) : R2D K mg T (rI0 g) G := by
  intro F H v u x y W Q gd rv ru h
  by_cases hx : ∃ i j, x = .int i ∧ y = .int j
  · obtain ⟨i, j, rfl, rfl⟩ := hx
    cases rv; cases ru
    rw [h1] at h
    exact ⟨i, j, rfl, rfl, h.here gd (h3 i j F)⟩
  · rw [h2 x y fun i j z => hx ⟨i, j, z.1, z.2⟩] at h
    exact h.elim
theorem r_I {C : Int → Int → Prop} {g : Int → Int → V} {gd : Int → Int → D} {cd : Int → Int → Prop} [∀ i j, Decidable (cd i j)] {G : D → D → Res D} (h1 : ∀ i j, G (.int i) (.int j) = if cd i j then .ok (gd i j) else .stuck) (h2 : ∀ x y, (∀ i j, ¬ (x = .int i ∧ y = .int j)) → G x y = .stuck) (h3 : ∀ i j F, Rp K mg F (g i j) (gd i j)) (h4 : ∀ i j, cd i j → C i j) : R2D K mg T (rI C g) G := by
  intro F H v u x y W Q gd rv ru h
  by_cases hx : ∃ i j, x = .int i ∧ y = .int j
  · obtain ⟨i, j, rfl, rfl⟩ := hx
    cases rv; cases ru
    rw [h1] at h
    split at h
    · rename_i hc
      exact ⟨i, j, rfl, rfl, h4 i j hc, h.here gd (h3 i j F)⟩
    · exact h.elim
  · rw [h2 x y fun i j z => hx ⟨i, j, z.1, z.2⟩] at h
    exact h.elim
theorem r_sub : R2D K mg T (rI0 fun i j => .int (i - j)) subD := r_I0 (gd := fun i j => .int (i - j)) (fun _ _ => rfl) (fun x y h => by cases x <;> cases y <;> first | rfl | exact (h _ _ ⟨rfl, rfl⟩).elim) fun i j F => .int _
theorem pow_200 {j : Int} (h0 : 0 < j) (h : j < 2 ^ 200) : j.natAbs < 2 ^ 200 := by
  have e : ((2 : Int) ^ 200) = ((2 ^ 200 : Nat) : Int) := by norm_cast
  rw [e] at h
  omega
theorem r_fdiv : R2D K mg T (rI CDivW fun i j => .int (i / j)) fdivD := r_I (gd := fun i j => .int (i / j)) (cd := fun i j => 0 < j ∧ j < 2 ^ 200) (fun _ _ => rfl) (fun x y h => by cases x <;> cases y <;> first | rfl | exact (h _ _ ⟨rfl, rfl⟩).elim) (fun i j F => .int _) fun i j h => wide_div h.1 (pow_200 h.1 h.2) (by decide) (by decide)
theorem r_mod : R2D K mg T (rI (fun _ j => 0 < j) fun i j => .int (i % j)) modD := r_I (gd := fun i j => .int (i % j)) (cd := fun i j => 0 < j) (fun _ _ => rfl) (fun x y h => by cases x <;> cases y <;> first | rfl | exact (h _ _ ⟨rfl, rfl⟩).elim) (fun i j F => .int _) fun i j h => h
theorem r_pow : R2D K mg T (rI CPow fun i j => .int (i ^ j.toNat)) powD := r_I (gd := fun i j => .int (i ^ j.toNat)) (cd := fun i j => 0 ≤ j ∧ j ≤ 1000 ∧ i.natAbs < 2 ^ 64) (fun _ _ => rfl) (fun x y h => by cases x <;> cases y <;> first | rfl | exact (h _ _ ⟨rfl, rfl⟩).elim) (fun i j F => .int _) fun i j h => ⟨h.1, Int.le_trans h.2.1 (by decide), h.2.2⟩
theorem r_neg : R1D K mg T (rU fun i => .int (-i)) negD := by
  intro F H v x W Q gd rv h
  cases rv with
  | int i => exact ⟨i, rfl, h.here gd (.int _)⟩
  | _ => exact (show False from h).elim
/-- products -/
def CMulA (i j : Int) : Prop := CMul i j ∨ CMulW i j
theorem op_mulI : OpR X (binaryOp .Mult) (rI CMulA fun i j => .int (i * j)) := opI fun _ _ _ _ _ _ _ hc q => mul_int q (hc.elim (fun h => h.ok) fun h => h.ok)
theorem mulOk_ok {i j : Int} (h : mulOk i j = true) : CMulA i j := by
  unfold mulOk at h
  simp only [Bool.or_eq_true, Bool.and_eq_true, decide_eq_true_eq] at h
  rcases h with (h | h) | h
  · exact .inl (.inl h)
  · exact .inl (.inr h)
  · exact .inr (wide_mul h.1 h.2 (by decide) (by decide) (by decide))
theorem foldl_app {α : Type} (l : List (Array α)) (acc : Array α) : (l.foldl (· ++ ·) acc).toList = acc.toList ++ (l.map Array.toList).flatten := by
  induction l generalizing acc with
  | nil => simp
  | cons x r ih => rw [List.foldl_cons, ih]; simp
theorem tl_mul (x : Str) (n : Int) : TL.tl (Txt.mul x n) = repL n.toNat (TL.tl x) := by
  unfold Txt.mul repL
  by_cases h1 : n < 1
  · rw [if_pos h1]
    have e : n.toNat = 0 := by omega
    rw [e]
    rfl
  · rw [if_neg h1]
    by_cases h2 : (n == 1 || x.length == 0) = true
    · rw [if_pos h2]
      simp only [Bool.or_eq_true, beq_iff_eq] at h2
      rcases h2 with h2 | h2
      · subst h2
        simp
      · have e : TL.tl x = [] := (TL.len0_tl x).mp h2
        rw [e]
        simp
    · rw [if_neg h2]
      show ((List.replicate n.toNat x.cps).foldl (· ++ ·) #[]).toList = _
      rw [foldl_app]
      simp
theorem op_mulS : OpR X (binaryOp .Mult) (fun x y H Q => ∃ (a : Str) (n : Int), x = .str a ∧ y = .int n ∧ MulOk a n ∧ Q (.str (Txt.mul a n)) H) := by
  intro pins s σ H x y v u Q I rx ry h
  obtain ⟨a, n, rfl, rfl, ok, q⟩ := h
  obtain ⟨t, rfl⟩ := rx
  obtain ⟨t', rfl⟩ := ry
  exact SB.mul ok fun t2 k => ⟨.str (Txt.mul a n), H, I.tok _, ⟨_, rfl⟩, q⟩
theorem op_mulA : OpR X (binaryOp .Mult) (fun x y H Q => (rI CMulA fun i j => .int (i * j)) x y H Q ∨ ((∃ (a : Str) (n : Int), x = .str a ∧ y = .int n ∧ MulOk a n ∧ Q (.str (Txt.mul a n)) H) ∨ rRep x y H Q)) := op_mulI.or (op_mulS.or op_rep)
theorem mulOk_s {a : Str} {n : Int} (h1 : n < 2 ^ 40) (h2 : -(2 ^ 40) < n) (h3 : a.length * n.toNat ≤ line) : MulOk a n := by
  refine ⟨?_, fun hn hc => ?_, fun hn hc => ?_⟩
  · rw [decide_eq_false (by omega), decide_eq_false (by omega)]; rfl
  · have hp : 0 < n := by omega
    have hk : (n.toNat : Int) = n := by omega
    intro hgt
    have q : (a.length : Int) * n > 2 ^ 63 - 1 := by
      have := Int.lt_mul_of_ediv_lt hp hgt
      omega
    have q2 : (a.length : Int) * n = ((a.length * n.toNat : Nat) : Int) := by rw [Int.natCast_mul, hk]
    rw [q2] at q
    generalize a.length * n.toNat = m at q h3
    have h4 : m ≤ 1000000 := h3
    omega
  · exact notLongL (Nat.le_trans h3 line_le)
theorem r_mul : R2D K mg T (fun x y H Q => (rI CMulA fun i j => .int (i * j)) x y H Q ∨ ((∃ (a : Str) (n : Int), x = .str a ∧ y = .int n ∧ MulOk a n ∧ Q (.str (Txt.mul a n)) H) ∨ rRep x y H Q)) mulD := by
  intro F H v u x y W Q gd rv ru h
  cases rv with
  | int i =>
    cases ru with
    | int j =>
      obtain ⟨hc, h⟩ := PostE.ite h
      exact .inl ⟨i, j, rfl, rfl, mulOk_ok hc, h.here gd (.int _)⟩
    | _ => exact (show False from h).elim
  | @str a l e =>
    cases ru with
    | int n =>
      obtain ⟨hc, h⟩ := PostE.ite h
      refine .inr (.inl ⟨a, n, rfl, rfl, mulOk_s hc.1 hc.2.1 ?_, h.here gd (.str (by rw [tl_mul, e]))⟩)
      rw [TL.len_tl, e]
      exact hc.2.2
    | _ => exact (show False from h).elim
  | @lst p vs ds hp hl he =>
    cases ru with
    | int n =>
      obtain ⟨hc, h⟩ := PostE.ite h
      refine .inr (.inr ⟨p, n, vs, rfl, rfl, gd.sub _ _ hp, by omega, by omega, by rw [hl]; exact Nat.le_trans hc.2.2 line_le, fun z hz => ?_⟩)
      have st := Step.new (o := .lst (List.replicate n.toNat vs).flatten) gd hz
      refine h _ _ _ st (RpL.lst upd_same (RpL.mono st.r ?_))
      have hr : ∀ k : Nat, RpL K mg F (List.replicate k vs).flatten (repL k ds) := fun k => by
        induction k with
        | zero => exact .nil
        | succ k ih =>
          unfold repL
          rw [List.replicate_succ, List.flatten_cons, List.replicate_succ, List.flatten_cons]
          exact (RpL.of hl he).append ih
      exact hr _
    | _ => exact (show False from h).elim
  | _ => exact (show False from h).elim
/-! ### comparisons -/
theorem op_ltA : OpR X (compareOp .Lt) (fun x y H Q => (rI0 fun i j => .bl (decide (i < j))) x y H Q ∨ (∃ i j, x = .str i ∧ y = .str j ∧ Q (.bl (decide (i.cps.toList < j.cps.toList))) H)) := op_lt.or op_lt_str
theorem r_lt : R2D K mg T (fun x y H Q => (rI0 fun i j => .bl (decide (i < j))) x y H Q ∨ (∃ i j, x = .str i ∧ y = .str j ∧ Q (.bl (decide (i.cps.toList < j.cps.toList))) H)) ltD := by
  intro F H v u x y W Q gd rv ru h
  cases rv with
  | int i =>
    cases ru with
    | int j => exact .inl ⟨i, j, rfl, rfl, h.here gd (.bl _)⟩
    | _ => exact (show False from h).elim
  | @str a l e =>
    cases ru with
    | @str b m e' =>
      subst e e'
      exact .inr ⟨a, b, rfl, rfl, h.here gd (.bl _)⟩
    | _ => exact (show False from h).elim
  | _ => exact (show False from h).elim
theorem r_le : R2D K mg T (rI0 fun i j => .bl (decide (i ≤ j))) leD := r_I0 (gd := fun i j => .bl (decide (i ≤ j))) (fun _ _ => rfl) (fun x y h => by cases x <;> cases y <;> first | rfl | exact (h _ _ ⟨rfl, rfl⟩).elim) fun i j F => .bl _
theorem r_gt : R2D K mg T (rI0 fun i j => .bl (decide (j < i))) gtD := r_I0 (gd := fun i j => .bl (decide (j < i))) (fun _ _ => rfl) (fun x y h => by cases x <;> cases y <;> first | rfl | exact (h _ _ ⟨rfl, rfl⟩).elim) fun i j F => .bl _
theorem r_ge : R2D K mg T (rI0 fun i j => .bl (decide (j ≤ i))) geD := r_I0 (gd := fun i j => .bl (decide (j ≤ i))) (fun _ _ => rfl) (fun x y h => by cases x <;> cases y <;> first | rfl | exact (h _ _ ⟨rfl, rfl⟩).elim) fun i j F => .bl _
/-- deep data as the layer's == sees it -/
theorem dpAll_of {H : Hp} : ∀ {vs : List V} {ps : List PyData}, Paired (Dp K H) vs ps → DpAll K H vs ps
  | _, _, .nil => .nil
  | _, _, .cons h t => .cons h (dpAll_of t)
theorem toPys_eq : ∀ xs : List D, toPys xs = xs.map toPy
  | [] => by rw [toPys]; rfl
  | x :: xs => by rw [toPys, toPys_eq xs]; rfl
theorem canLayAll_map : ∀ {l : List PyData}, PyData.canLayAll0 l = true → ∀ x ∈ l, x.canLay0 = true
  | [], _, x, hx => by cases hx
  | y :: l, h, x, hx => by
    have h' : y.canLay0 = true ∧ PyData.canLayAll0 l = true := by simpa [PyData.canLayAll0] using h
    rcases List.mem_cons.mp hx with e | e
    · rw [e]; exact h'.1
    · exact canLayAll_map h'.2 x e
theorem paired_of {α β : Type} {P : α → β → Prop} : ∀ {l : List α} {m : List β}, l.length = m.length → (∀ (i : Nat) a b, l[i]? = some a → m[i]? = some b → P a b) → Paired P l m
  | [], [], _, _ => .nil
  | [], _ :: _, e, _ => by simp at e
  | _ :: _, [], e, _ => by simp at e
  | a :: l, b :: m, e, h => .cons (h 0 a b rfl rfl) (paired_of (by simpa using e) fun i v d e1 e2 => h (i + 1) v d (by simpa using e1) (by simpa using e2))
theorem dp_of {T : List (Addr × Str)} {F H : Hp} (gd : Gd T F H) {v : V} {d : D} (r : Rp K mg F v d) (hc : (toPy d).canLay0 = true) : Dp K H v (toPy d) := by
  induction r with
  | non => exact .non
  | bl b => exact .bl b
  | int i => exact .int i
  | @str x l e =>
    subst e
    have z : toPy (.str (TL.tl x)) = .str x := by rw [toPy]
    rw [z]
    exact .str x
  | @lst a vs ds h hl he ih =>
    rw [toPy] at hc ⊢
    have hc' : PyData.canLayAll0 (toPys ds) = true := by simpa [PyData.canLay0] using hc
    rw [toPys_eq] at hc' ⊢
    refine .lst (.of (gd.sub _ _ h)) (dpAll_of (paired_of (by simpa using hl) fun i v p e1 e2 => ?_))
    rw [List.getElem?_map] at e2
    cases q : ds[i]? with
    | none => rw [q] at e2; cases e2
    | some d =>
      rw [q] at e2
      cases e2
      exact ih i v d e1 q (canLayAll_map hc' _ (List.mem_map.mpr ⟨d, List.mem_of_getElem? q, rfl⟩))
  | @tup a vs ds h hl he ih =>
    rw [toPy] at hc ⊢
    have hc' : PyData.canLayAll0 (toPys ds) = true := by simpa [PyData.canLay0] using hc
    rw [toPys_eq] at hc' ⊢
    refine .tup (.of (gd.sub _ _ h)) (dpAll_of (paired_of (by simpa using hl) fun i v p e1 e2 => ?_))
    rw [List.getElem?_map] at e2
    cases q : ds[i]? with
    | none => rw [q] at e2; cases e2
    | some d =>
      rw [q] at e2
      cases e2
      exact ih i v d e1 q (canLayAll_map hc' _ (List.mem_map.mpr ⟨d, List.mem_of_getElem? q, rfl⟩))
  | @scr a ns h =>
    rw [toPy]
    refine .lst (gd.sub.rel.seq h) (dpAll_of (paired_of (by simp) fun i v p e1 e2 => ?_))
    rw [List.getElem?_map] at e1 e2
    cases q : ns[i]? with
    | none => rw [q] at e2; cases e2
    | some n => rw [q] at e1 e2; cases e1; cases e2; exact .int n
  | obj vf hm h h0 h1 h2 h3 ih => rw [toPy] at hc; simp [PyData.canLay0] at hc
  | opq a => rw [toPy] at hc; simp [PyData.canLay0] at hc
  | dct e hk he ih => rw [toPy] at hc; simp [PyData.canLay0] at hc
theorem tl_inj_dec {a b : Str} : decide (TL.tl a = TL.tl b) = decide (V.str a = V.str b) := by
  by_cases h : a = b
  · subst h; simp
  · rw [decide_eq_false (fun z => h (TL.ext_tl z)), decide_eq_false (fun z => h (V.str.inj z))]
theorem deep_eq {F H : Hp} {v u : V} {x y : D} (gd : Gd T F H) (rv : Rp K mg F v x) (ru : Rp K mg F u y) (h : (pl x && pl y) = true) : ∃ d e, Dp K H v d ∧ Dp K H u e ∧ SeqAt.shaped d = true ∧ SeqAt.shaped e = true ∧ d = toPy x ∧ e = toPy y := by
  have h' := Bool.and_eq_true_iff.mp h
  exact ⟨toPy x, toPy y, dp_of gd rv (SeqAt.canLay_of_shaped h'.1), dp_of gd ru (SeqAt.canLay_of_shaped h'.2), h'.1, h'.2, rfl, rfl⟩
theorem op_eqA (hu : X.A.units + 64 < cLine) : OpR X (compareOp .Eq) (fun x y H Q => rEq x y H Q ∨ rEqD X.K x y H Q) := op_eq.or (op_eqD hu)
theorem op_neA (hu : X.A.units + 64 < cLine) : OpR X (compareOp .NotEq) (fun x y H Q => rNe x y H Q ∨ rNeD X.K x y H Q) := op_ne.or (op_neD hu)
/-- the two roads of == -/
theorem eq_road {F H : Hp} {v u : V} {x y : D} {b : Bool} (gd : Gd T F H) (rv : Rp K mg F v x) (ru : Rp K mg F u y) (h : eqD x y = .ok (.bl b)) :
    (scal v u = true ∧ decide (v = u) = b) ∨ ∃ d e, Dp K H v d ∧ Dp K H u e ∧ SeqAt.shaped d = true ∧ SeqAt.shaped e = true ∧ PyData.eqv d e = b := by
  have deep : (if (pl x && pl y) = true then (Res.ok (D.bl (PyData.eqv (toPy x) (toPy y)))) else .stuck) = .ok (.bl b) → ∃ d e, Dp K H v d ∧ Dp K H u e ∧ SeqAt.shaped d = true ∧ SeqAt.shaped e = true ∧ PyData.eqv d e = b := fun q => by
    split at q
    · rename_i hc
      obtain ⟨d, e, h1, h2, h3, h4, h5, h6⟩ := deep_eq gd rv ru hc
      refine ⟨d, e, h1, h2, h3, h4, ?_⟩
      rw [h5, h6]
      injection q with q; injection q
    · cases q
  have hb : ∀ {k : Bool}, Res.ok (D.bl k) = .ok (.bl b) → k = b := fun q => by injection q with q; injection q
  cases rv with
  | int i =>
    cases ru with
    | int j =>
      refine .inl ⟨rfl, ?_⟩
      have := hb h
      rw [← this]; simp
    | str e => exact .inl ⟨rfl, by rw [← hb h]; rfl⟩
    | non => exact .inl ⟨rfl, by rw [← hb h]; rfl⟩
    | _ => exact .inr (deep h)
  | @str a l e =>
    cases ru with
    | @str b' m e' =>
      subst e e'
      refine .inl ⟨rfl, ?_⟩
      rw [← hb h, tl_inj_dec]
    | int j => exact .inl ⟨rfl, by rw [← hb h]; rfl⟩
    | non => exact .inl ⟨rfl, by rw [← hb h]; rfl⟩
    | _ => exact .inr (deep h)
  | bl i =>
    cases ru with
    | bl j =>
      refine .inl ⟨rfl, ?_⟩
      rw [← hb h]; simp
    | _ => exact .inr (deep h)
  | non =>
    cases ru with
    | non => exact .inl ⟨rfl, by rw [← hb h]; rfl⟩
    | int j => exact .inl ⟨rfl, by rw [← hb h]; rfl⟩
    | str e => exact .inl ⟨rfl, by rw [← hb h]; rfl⟩
    | _ => exact .inr (deep h)
  | _ => exact .inr (deep h)
theorem eqD_bl (x y : D) : eqD x y = .stuck ∨ ∃ b, eqD x y = .ok (.bl b) := by
  have deep : (if (pl x && pl y) = true then (Res.ok (D.bl (PyData.eqv (toPy x) (toPy y)))) else .stuck) = .stuck ∨ ∃ b, (if (pl x && pl y) = true then (Res.ok (D.bl (PyData.eqv (toPy x) (toPy y)))) else .stuck) = .ok (.bl b) := by
    split
    · exact .inr ⟨_, rfl⟩
    · exact .inl rfl
  cases x <;> cases y <;> first | exact .inr ⟨_, rfl⟩ | exact deep
theorem r_eq : R2D K mg T (fun x y H Q => rEq x y H Q ∨ rEqD K x y H Q) eqD := by
  intro F H v u x y W Q gd rv ru h
  rcases eqD_bl x y with e | ⟨b, e⟩
  · rw [e] at h; exact h.elim
  · rw [e] at h
    rcases eq_road gd rv ru e with ⟨h1, h2⟩ | ⟨d, e', h1, h2, h3, h4, h5⟩
    · exact .inl ⟨h1, by rw [h2]; exact h.here gd (.bl b)⟩
    · exact .inr ⟨d, e', h1, h2, h3, h4, by rw [h5]; exact h.here gd (.bl b)⟩
theorem r_ne : R2D K mg T (fun x y H Q => rNe x y H Q ∨ rNeD K x y H Q) neD := by
  intro F H v u x y W Q gd rv ru h
  unfold neD at h
  rcases eqD_bl x y with e | ⟨b, e⟩
  · rw [e] at h; exact h.elim
  · rw [e] at h
    rcases eq_road gd rv ru e with ⟨h1, h2⟩ | ⟨d, e', h1, h2, h3, h4, h5⟩
    · exact .inl ⟨h1, by rw [h2]; exact PostE.here h gd (.bl (!b))⟩
    · exact .inr ⟨d, e', h1, h2, h3, h4, by rw [h5]; exact PostE.here h gd (.bl (!b))⟩
theorem one_sign {x : Str} {c : Nat} (h : TL.tl x = [c]) : x = ⟨#[c]⟩ := TL.ext_tl (by rw [h])
theorem r_in : R2D K mg T (fun x y H Q => ∃ (c : Nat) (z : Str), x = .str ⟨#[c]⟩ ∧ y = .str z ∧ Q (.bl (decide (c ∈ z.cps.toList))) H) inD := by
  intro F H v u x y W Q gd rv ru h
  unfold inD at h
  split at h
  · rename_i c z
    cases rv with
    | str e =>
      cases ru with
      | str e' =>
        have e2 := one_sign e
        subst e2 e'
        exact ⟨c, _, rfl, rfl, h.here gd (.bl _)⟩
  · exact h.elim
theorem r_nin : R2D K mg T (fun x y H Q => ∃ (c : Nat) (z : Str), x = .str ⟨#[c]⟩ ∧ y = .str z ∧ Q (.bl (!decide (c ∈ z.cps.toList))) H) ninD := by
  intro F H v u x y W Q gd rv ru h
  unfold ninD at h
  split at h
  · rename_i c z
    cases rv with
    | str e =>
      cases ru with
      | str e' =>
        have e2 := one_sign e
        subst e2 e'
        exact ⟨c, _, rfl, rfl, h.here gd (.bl _)⟩
  · exact h.elim
theorem r_isN : R2D K mg T (fun x y H Q => y = .non ∧ Q (.bl (decide (x = .non))) H) isND := by
  intro F H v u x y W Q gd rv ru h
  cases ru with
  | non =>
    refine ⟨rfl, ?_⟩
    cases rv <;> exact PostE.here h gd (.bl _)
  | _ => cases rv <;> exact (show False from h).elim
theorem r_isntN : R2D K mg T (fun x y H Q => y = .non ∧ Q (.bl (!decide (x = .non))) H) isntND := by
  intro F H v u x y W Q gd rv ru h
  cases ru with
  | non =>
    refine ⟨rfl, ?_⟩
    cases rv <;> exact PostE.here h gd (.bl _)
  | _ => cases rv <;> exact (show False from h).elim
end
end Dn


set_option Elab.async false
set_option linter.all false
set_option maxRecDepth 100000
set_option maxHeartbeats 4000000
namespace Dn
open PySem PySem.Spec PyProof.Rows L2
/-! ### built-ins on data -/
def intsO : List D → Option (List Int)
  | [] => some []
  | .int i :: r => (intsO r).map (i :: ·)
  | _ :: _ => none
def boolsO : List D → Option (List Bool)
  | [] => some []
  | .bl i :: r => (boolsO r).map (i :: ·)
  | _ :: _ => none
def textsO : List D → Option (List (List Nat))
  | [] => some []
  | .str i :: r => (textsO r).map (i :: ·)
  | _ :: _ => none
theorem ints_eq : ∀ {ds : List D} {ns : List Int}, intsO ds = some ns → ds = ns.map D.int
  | [], ns, h => by cases h; rfl
  | .int i :: r, ns, h => by
    cases e : intsO r with
    | none => rw [intsO, e] at h; cases h
    | some ms => rw [intsO, e] at h; cases h; rw [ints_eq e]; rfl
theorem ints_map : ∀ ns : List Int, intsO (ns.map D.int) = some ns
  | [] => rfl
  | n :: ns => by rw [List.map_cons, intsO, ints_map ns]; rfl
theorem bools_eq : ∀ {ds : List D} {ns : List Bool}, boolsO ds = some ns → ds = ns.map D.bl
  | [], ns, h => by cases h; rfl
  | .bl i :: r, ns, h => by
    cases e : boolsO r with
    | none => rw [boolsO, e] at h; cases h
    | some ms => rw [boolsO, e] at h; cases h; rw [bools_eq e]; rfl
theorem bools_map : ∀ ns : List Bool, boolsO (ns.map D.bl) = some ns
  | [] => rfl
  | n :: ns => by rw [List.map_cons, boolsO, bools_map ns]; rfl
theorem texts_eq : ∀ {ds : List D} {ns : List (List Nat)}, textsO ds = some ns → ds = ns.map D.str
  | [], ns, h => by cases h; rfl
  | .str i :: r, ns, h => by
    cases e : textsO r with
    | none => rw [textsO, e] at h; cases h
    | some ms => rw [textsO, e] at h; cases h; rw [texts_eq e]; rfl
theorem texts_map : ∀ ns : List (List Nat), textsO (ns.map D.str) = some ns
  | [] => rfl
  | n :: ns => by rw [List.map_cons, textsO, texts_map ns]; rfl
def lenD : List D → Res D
  | [.str a] => if a.length ≤ line then .ok (.int a.length) else .stuck
  | [.lst a] => .ok (.int a.length)
  | [.tup a] => .ok (.int a.length)
  | [.scr a] => .ok (.int a.length)
  | _ => .stuck
def intD : List D → Res D
  | [.int i] => .ok (.int i)
  | [.bl b] => .ok (.int (if b then 1 else 0))
  | [.str [c]] => if 48 ≤ c ∧ c < 58 then .ok (.int ((c - 48 : Nat) : Int)) else .stuck
  | _ => .stuck
def strD : List D → Res D
  | [.int i] => if 0 ≤ i ∧ i < 10 then .ok (.str [48 + i.toNat]) else .stuck
  | _ => .stuck
def max2D : List D → Res D
  | [.int i, .int j] => .ok (.int (max i j))
  | _ => .stuck
def min2D : List D → Res D
  | [.int i, .int j] => .ok (.int (min i j))
  | _ => .stuck
def maxD : List D → Res D
  | [.lst xs] => match intsO xs with
    | some (n :: ns) => .ok (.int (ns.foldl max n))
    | _ => .stuck
  | _ => .stuck
def minD : List D → Res D
  | [.lst xs] => match intsO xs with
    | some (n :: ns) => .ok (.int (ns.foldl min n))
    | _ => .stuck
  | _ => .stuck
def sumD : List D → Res D
  | [.lst xs] => match intsO xs with
    | some ns => .ok (.int ns.sum)
    | _ => .stuck
  | _ => .stuck
def allD : List D → Res D
  | [.lst xs] => match boolsO xs with
    | some ns => .ok (.bl (ns.all id))
    | _ => .stuck
  | _ => .stuck
def listD : List D → Res D
  | [.lst xs] => .ok (.lst xs)
  | [.tup xs] => .ok (.lst xs)
  | _ => .stuck
def ordD : List D → Res D
  | [.str [c]] => .ok (.int c)
  | _ => .stuck
section
variable {T : List (Addr × Str)} {X : Cx} {W : Wi} {K : PySem.W.Frag} {mg : Str → Option Value}
theorem de_callB {id : String} {x : Str} {e : Expr} {es : List Expr} {p pos : Pos} {r : List V → Hp → VK → Prop} {g : List D → Res D} {fa : Sto → Res (List D)} (hc : CallR X (.builtin id) r) (hr : RCD X.K X.mg T r g) (hm : X.mg x = none) (hv : bootBuiltins x = some (.builtin id)) (ha : DA T X W (e :: es) fa)
    (hg : Gl X x := by rfl) (hn : x ≠ "__name__" := by decide) (hdb : (x == ("__debug__" : Str)) = false := by decide) (he : starEach (e :: es) X.env = (false, eval e X.env) :: starEach es X.env := by rfl) (hpl : (backTo pos (starEach es X.env)).any (·.1) = false := by rfl) :
    DE T X W (.Call (.Name x p) (e :: es) [] pos) (app g fa) :=
  weakE (pe_callB hc hg hm hv ha hn hdb he hpl) fun σ H Q ⟨F, δ, L, h⟩ => bindA ppE L h fun ds vs F1 H1 s1 L1 r1 h1 => hr F1 H1 vs ds W Q L1.gd r1 h1
theorem de_callTy {id : String} {x : Str} {e : Expr} {es : List Expr} {p pos : Pos} {r : List V → Hp → VK → Prop} {g : List D → Res D} {fa : Sto → Res (List D)} (hc : CallR X (.type id) r) (hr : RCD X.K X.mg T r g) (hm : X.mg x = none) (hv : bootBuiltins x = some (.type id)) (ha : DA T X W (e :: es) fa)
    (hg : Gl X x := by rfl) (hn : x ≠ "__name__" := by decide) (hdb : (x == ("__debug__" : Str)) = false := by decide) (he : starEach (e :: es) X.env = (false, eval e X.env) :: starEach es X.env := by rfl) (hpl : (backTo pos (starEach es X.env)).any (·.1) = false := by rfl) :
    DE T X W (.Call (.Name x p) (e :: es) [] pos) (app g fa) :=
  weakE (pe_callTy hc hg hm hv ha hn hdb he hpl) fun σ H Q ⟨F, δ, L, h⟩ => bindA ppE L h fun ds vs F1 H1 s1 L1 r1 h1 => hr F1 H1 vs ds W Q L1.gd r1 h1
theorem RpL.one {F : Hp} {vs : List V} {d : D} (r : RpL K mg F vs [d]) : ∃ v, vs = [v] ∧ Rp K mg F v d := by
  cases r with
  | cons r t => cases t; exact ⟨_, rfl, r⟩
theorem RpL.two {F : Hp} {vs : List V} {d e : D} (r : RpL K mg F vs [d, e]) : ∃ v u, vs = [v, u] ∧ Rp K mg F v d ∧ Rp K mg F u e := by
  cases r with
  | cons r t =>
    obtain ⟨u, rfl, q⟩ := RpL.one t
    exact ⟨_, _, rfl, r, q⟩
theorem rc_len : RCD K mg T (fun xs H Q => ∃ x n, xs = [x] ∧ LenV K x H n ∧ Q (.int n) H) lenD := by
  intro F H vs ds W Q gd r h
  unfold lenD at h
  split at h
  · rename_i a
    obtain ⟨hl, h⟩ := PostE.ite h
    obtain ⟨v, rfl, rv⟩ := r.one
    cases rv with
    | str e =>
      rename_i x
      refine ⟨_, a.length, rfl, ⟨?_, ?_⟩, h.here gd (.int _)⟩
      · rw [TL.len_tl, e]; exact Nat.le_trans hl line_le
      · rw [TL.len_tl, e]
  · obtain ⟨v, rfl, rv⟩ := r.one
    obtain ⟨p, us, rfl, e, q⟩ := rv.lst_inv
    exact ⟨_, us.length, rfl, .inl ⟨us, .of (gd.sub _ _ e), rfl⟩, h.here gd (by rw [q.length]; exact .int _)⟩
  · obtain ⟨v, rfl, rv⟩ := r.one
    obtain ⟨p, us, rfl, e, q⟩ := rv.tup_inv
    exact ⟨_, us.length, rfl, .inr ⟨us, .of (gd.sub _ _ e), rfl⟩, h.here gd (by rw [q.length]; exact .int _)⟩
  · rename_i ns
    obtain ⟨v, rfl, rv⟩ := r.one
    cases rv with
    | scr e => exact ⟨_, _, rfl, .inl ⟨_, gd.sub.rel.seq e, rfl⟩, h.here gd (by rw [List.length_map]; exact .int _)⟩
  · exact h.elim
theorem digit_text {x : Str} {c : Nat} (h : TL.tl x = [c]) (h1 : 48 ≤ c) (h2 : c < 58) : PySem.intText? x = some ((c - 48 : Nat) : Int) := by
  have e : x = Str.ofString (toString (((c - 48 : Nat) : Nat) : Int)) := TL.ext_tl (by
    rw [h, TL.tl_num, TL.numL_lt (by omega), show 48 + (c - 48) = c by omega])
  rw [e]
  refine TL.int_num ?_
  rw [TL.numL_lt (by omega)]
  exact (by decide : 1 ≤ 4300)
theorem rc_int : RCD K mg T (fun xs H Q => ((∃ i, xs = [.int i] ∧ Q (.int i) H) ∨ ∃ k, xs = [.bl k] ∧ Q (.int (if k then 1 else 0)) H) ∨ ∃ a n, xs = [.str a] ∧ PySem.intText? a = some n ∧ a.length ≤ 640 ∧ Q (.int n) H) intD := by
  intro F H vs ds W Q gd r h
  unfold intD at h
  split at h
  · obtain ⟨v, rfl, rv⟩ := r.one
    cases rv
    exact .inl (.inl ⟨_, rfl, h.here gd (.int _)⟩)
  · obtain ⟨v, rfl, rv⟩ := r.one
    cases rv
    exact .inl (.inr ⟨_, rfl, h.here gd (.int _)⟩)
  · obtain ⟨hc, h⟩ := PostE.ite h
    obtain ⟨v, rfl, rv⟩ := r.one
    cases rv with
    | str e => exact .inr ⟨_, _, rfl, digit_text e hc.1 hc.2, by rw [TL.len_tl, e]; exact (by decide : 1 ≤ 640), h.here gd (.int _)⟩
  · exact h.elim
theorem call_intA : CallR X (.type "int") (fun xs H Q => ((∃ i, xs = [.int i] ∧ Q (.int i) H) ∨ ∃ k, xs = [.bl k] ∧ Q (.int (if k then 1 else 0)) H) ∨ ∃ a n, xs = [.str a] ∧ PySem.intText? a = some n ∧ a.length ≤ 640 ∧ Q (.int n) H) := call_int1.or call_int_str
theorem rc_str : RCD K mg T (fun xs H Q => ∃ i : Int, xs = [.int i] ∧ i.natAbs.log2 < 1920 ∧ Q (.str (toString i)) H) strD := by
  intro F H vs ds W Q gd r h
  unfold strD at h
  split at h
  · rename_i i
    obtain ⟨hc, h⟩ := PostE.ite h
    obtain ⟨v, rfl, rv⟩ := r.one
    cases rv
    refine ⟨i, rfl, ?_, h.here gd (.str ?_)⟩
    · have : i.natAbs < 10 := by omega
      exact Nat.lt_of_le_of_lt (Nat.log2_le_self _) (by omega)
    · obtain ⟨n, rfl⟩ : ∃ n : Nat, i = (n : Int) := ⟨i.toNat, by omega⟩
      rw [TL.tl_num, TL.numL_lt (by omega)]
      simp
  · exact h.elim
theorem rc_max2 : RCD K mg T (fun xs H Q => ∃ i j, xs = [.int i, .int j] ∧ Q (.int (if j > i then j else i)) H) max2D := by
  intro F H vs ds W Q gd r h
  unfold max2D at h
  split at h
  · rename_i i j
    obtain ⟨v, u, rfl, rv, ru⟩ := r.two
    cases rv; cases ru
    refine ⟨i, j, rfl, h.here gd ?_⟩
    have e : (if j > i then j else i) = max i j := by omega
    rw [e]
    exact .int _
  · exact h.elim
theorem rc_min2 : RCD K mg T (fun xs H Q => ∃ i j, xs = [.int i, .int j] ∧ Q (.int (if j < i then j else i)) H) min2D := by
  intro F H vs ds W Q gd r h
  unfold min2D at h
  split at h
  · rename_i i j
    obtain ⟨v, u, rfl, rv, ru⟩ := r.two
    cases rv; cases ru
    refine ⟨i, j, rfl, h.here gd ?_⟩
    have e : (if j < i then j else i) = min i j := by omega
    rw [e]
    exact .int _
  · exact h.elim
theorem foldl_max (ns : List Int) (n : Int) : n ≤ ns.foldl max n ∧ (∀ y ∈ ns, y ≤ ns.foldl max n) ∧ (ns.foldl max n = n ∨ ns.foldl max n ∈ ns) := by
  induction ns generalizing n with
  | nil => exact ⟨Int.le_refl _, by simp, .inl rfl⟩
  | cons a r ih =>
    obtain ⟨h1, h2, h3⟩ := ih (max n a)
    rw [List.foldl_cons]
    refine ⟨by omega, fun y hy => ?_, ?_⟩
    · rcases List.mem_cons.mp hy with e | e
      · subst e; omega
      · exact h2 y e
    · rcases h3 with e | e
      · rw [e]
        rcases (show max n a = n ∨ max n a = a by omega) with z | z
        · exact .inl z
        · exact .inr (by rw [z]; exact List.mem_cons_self)
      · exact .inr (List.mem_cons_of_mem _ e)
theorem foldl_min (ns : List Int) (n : Int) : ns.foldl min n ≤ n ∧ (∀ y ∈ ns, ns.foldl min n ≤ y) ∧ (ns.foldl min n = n ∨ ns.foldl min n ∈ ns) := by
  induction ns generalizing n with
  | nil => exact ⟨Int.le_refl _, by simp, .inl rfl⟩
  | cons a r ih =>
    obtain ⟨h1, h2, h3⟩ := ih (min n a)
    rw [List.foldl_cons]
    refine ⟨by omega, fun y hy => ?_, ?_⟩
    · rcases List.mem_cons.mp hy with e | e
      · subst e; omega
      · exact h2 y e
    · rcases h3 with e | e
      · rw [e]
        rcases (show min n a = n ∨ min n a = a by omega) with z | z
        · exact .inl z
        · exact .inr (by rw [z]; exact List.mem_cons_self)
      · exact .inr (List.mem_cons_of_mem _ e)
theorem max_uniq {ns : List Int} {m k : Int} (h1 : m ∈ ns) (h2 : ∀ y ∈ ns, y ≤ m) (h3 : k ∈ ns) (h4 : ∀ y ∈ ns, y ≤ k) : m = k := Int.le_antisymm (h4 m h1) (h2 k h3)
theorem rc_max : RCD K mg T (rMax K) maxD := by
  intro F H vs ds W Q gd r h
  unfold maxD at h
  split at h
  · rename_i xs
    split at h
    · rename_i n ns e
      obtain ⟨v, rfl, rv⟩ := r.one
      obtain ⟨p, us, rfl, e1, q⟩ := rv.lst_inv
      rw [ints_eq e] at q
      have eu := q.ints
      subst eu
      refine ⟨p, n :: ns, rfl, .of (gd.sub _ _ e1), by simp, fun m hm hle => ?_⟩
      obtain ⟨h1, h2, h3⟩ := foldl_max ns n
      have em : m = ns.foldl max n := max_uniq hm hle (h3.elim (fun z => by rw [z]; exact List.mem_cons_self) fun z => List.mem_cons_of_mem _ z) fun y hy => (List.mem_cons.mp hy).elim (fun z => by rw [z]; exact h1) (h2 y)
      rw [em]
      exact h.here gd (.int _)
    · exact h.elim
  · exact h.elim
theorem rc_min : RCD K mg T (rMin K) minD := by
  intro F H vs ds W Q gd r h
  unfold minD at h
  split at h
  · rename_i xs
    split at h
    · rename_i n ns e
      obtain ⟨v, rfl, rv⟩ := r.one
      obtain ⟨p, us, rfl, e1, q⟩ := rv.lst_inv
      rw [ints_eq e] at q
      have eu := q.ints
      subst eu
      refine ⟨p, n :: ns, rfl, .of (gd.sub _ _ e1), by simp, fun m hm hle => ?_⟩
      obtain ⟨h1, h2, h3⟩ := foldl_min ns n
      have em : m = ns.foldl min n := Int.le_antisymm (hle _ (h3.elim (fun z => by rw [z]; exact List.mem_cons_self) fun z => List.mem_cons_of_mem _ z)) ((List.mem_cons.mp hm).elim (fun z => by rw [z]; exact h1) (h2 m))
      rw [em]
      exact h.here gd (.int _)
    · exact h.elim
  · exact h.elim
theorem rc_sum : RCD K mg T (rSum K) sumD := by
  intro F H vs ds W Q gd r h
  unfold sumD at h
  split at h
  · rename_i xs
    split at h
    · rename_i ns e
      obtain ⟨v, rfl, rv⟩ := r.one
      obtain ⟨p, us, rfl, e1, q⟩ := rv.lst_inv
      rw [ints_eq e] at q
      have eu := q.ints
      subst eu
      exact ⟨p, ns, rfl, .of (gd.sub _ _ e1), h.here gd (.int _)⟩
    · exact h.elim
  · exact h.elim
theorem rc_all : RCD K mg T (rAll K) allD := by
  intro F H vs ds W Q gd r h
  unfold allD at h
  split at h
  · rename_i xs
    split at h
    · rename_i ns e
      obtain ⟨v, rfl, rv⟩ := r.one
      obtain ⟨p, us, rfl, e1, q⟩ := rv.lst_inv
      rw [bools_eq e] at q
      have eu := q.bls
      subst eu
      exact ⟨p, ns, rfl, .of (gd.sub _ _ e1), h.here gd (.bl _)⟩
    · exact h.elim
  · exact h.elim
theorem rc_list : RCD K mg T (fun xs H Q => ∃ p ys, xs = [.ref p] ∧ (SqL K H p ys ∨ SqT K H p ys) ∧ ∀ l, H l = none → Q (.ref l) (upd H l (.lst ys))) listD := by
  intro F H vs ds W Q gd r h
  unfold listD at h
  split at h
  · obtain ⟨v, rfl, rv⟩ := r.one
    obtain ⟨p, us, rfl, e1, q⟩ := rv.lst_inv
    refine ⟨p, us, rfl, .inl (.of (gd.sub _ _ e1)), fun l hl => ?_⟩
    have st := Step.new (o := .lst us) gd hl
    exact h _ _ _ st (RpL.lst upd_same (q.mono st.r))
  · obtain ⟨v, rfl, rv⟩ := r.one
    obtain ⟨p, us, rfl, e1, q⟩ := rv.tup_inv
    refine ⟨p, us, rfl, .inr (.of (gd.sub _ _ e1)), fun l hl => ?_⟩
    have st := Step.new (o := .lst us) gd hl
    exact h _ _ _ st (RpL.lst upd_same (q.mono st.r))
  · exact h.elim
theorem rc_ord : RCD K mg T (fun xs H Q => ∃ x, xs = [.str x] ∧ x.length = 1 ∧ Q (.int (x.cps.getD 0 0 : Nat)) H) ordD := by
  intro F H vs ds W Q gd r h
  unfold ordD at h
  split at h
  · rename_i c
    obtain ⟨v, rfl, rv⟩ := r.one
    cases rv with
    | str e =>
      have e2 := one_sign e
      subst e2
      exact ⟨_, rfl, rfl, h.here gd (.int _)⟩
  · exact h.elim
/-! ### subscripts, slices -/
def ixD : D → D → Res D
  | .lst xs, .int i => match atI xs i with
    | some d => .ok d
    | none => .stuck
  | .tup xs, .int i => match atI xs i with
    | some d => .ok d
    | none => .stuck
  | .str l, .int i => if l.length ≤ line then (match atI l i with
    | some c => .ok (.str [c])
    | none => .stuck) else .stuck
  | .scr ns, .int i => match atI ns i with
    | some n => .ok (.int n)
    | none => .stuck
  | _, _ => .stuck
theorem atI_rp {F : Hp} {vs : List V} {ds : List D} {i : Int} {d : D} (r : RpL K mg F vs ds) (h : atI ds i = some d) : ∃ v, atI vs i = some v ∧ Rp K mg F v d := by
  unfold atI at h ⊢
  rw [r.length]
  cases e : ixN ds.length i with
  | none => rw [e] at h; cases h
  | some j =>
    rw [e] at h
    exact r.get1 h
theorem atI_map {α β : Type} (f : α → β) (l : List α) (i : Int) : atI (l.map f) i = (atI l i).map f := by
  unfold atI
  rw [List.length_map]
  cases ixN l.length i with
  | none => rfl
  | some j => simp
theorem r_ix : R2D K mg T (rIx K) ixD := by
  intro F H v u x y W Q gd rv ru h
  unfold ixD at h
  split at h
  · rename_i xs i
    split at h
    · rename_i d e
      cases ru
      obtain ⟨p, us, rfl, e1, q⟩ := rv.lst_inv
      obtain ⟨w, e2, rw'⟩ := atI_rp q e
      exact .inl ⟨p, us, i, w, rfl, rfl, .of (gd.sub _ _ e1), e2, h.here gd rw'⟩
    · exact h.elim
  · rename_i xs i
    split at h
    · rename_i d e
      cases ru
      obtain ⟨p, us, rfl, e1, q⟩ := rv.tup_inv
      obtain ⟨w, e2, rw'⟩ := atI_rp q e
      exact .inr (.inl ⟨p, us, i, w, rfl, rfl, .of (gd.sub _ _ e1), e2, h.here gd rw'⟩)
    · exact h.elim
  · rename_i l i
    obtain ⟨hl, h'⟩ := PostE.ite h
    clear h
    split at h'
    · rename_i c e
      cases ru
      cases rv with
      | str ez =>
        subst ez
        have h := h'
        exact .inr (.inr ⟨_, i, c, rfl, rfl, by rw [TL.len_tl]; exact Nat.le_trans hl line_le, e, h.here gd (.str rfl)⟩)
    · exact h'.elim
  · rename_i ns i
    split at h
    · rename_i n e
      cases ru
      cases rv with
      | scr es => exact .inl ⟨_, _, i, .int n, rfl, rfl, gd.sub.rel.seq es, by rw [atI_map, e]; rfl, h.here gd (.int n)⟩
    · exact h.elim
  · exact h.elim
theorem de_ix {a b : Expr} {fa fb : Sto → Res D} {pos : Pos} (ha : DE T X W a fa) (hb : DE T X W b fb) (hs : PlainIx b := by exact fun _ _ => rfl) : DE T X W (.Subscript a b pos) (bin ixD fa fb) :=
  weakE (pe_ix ix_seq ha hb hs) fun σ H Q ⟨F, δ, L, h⟩ => bindE ppE L h fun x v F1 H1 s1 L1 r1 h1 => bindE ppE L1 h1 fun y u F2 H2 s2 L2 r2 h2 => r_ix F2 H2 v u x y W Q L2.gd (r1.mono s2.r) r2 h2
def cutL {α : Type} (xs : List α) (lo hi : Option Int) : List α := (xs.drop (HT.sIx xs.length 0 lo)).take (HT.sIx xs.length xs.length hi - HT.sIx xs.length 0 lo)
def slD (x : D) (lo hi : Option Int) : Res D := match x with
  | .str l => if l.length ≤ line then .ok (.str (cutL l lo hi)) else .stuck
  | .lst xs => .ok (.lst (cutL xs lo hi))
  | _ => .stuck
def noP : Sto → Res (Option Int) := fun _ => .ok none
def asP : D → Res (Option Int)
  | .int i => .ok (some i)
  | _ => .stuck
def part (f : Sto → Res D) : Sto → Res (Option Int) := fun δ => (f δ).bind asP
def slc (fa : Sto → Res D) (fl fh : Sto → Res (Option Int)) : Sto → Res D := fun δ => (fa δ).bind fun x => (fl δ).bind fun lo => (fh δ).bind fun hi => slD x lo hi
def PostO (T : List (Addr × Str)) (F H : Hp) (W : Wi) (Q : Option Int → Hp → Prop) : Res (Option Int) → Prop
  | .ok b => ∀ F' H', Step T F H F' H' → Q b H'
  | .rs c => ∀ F' H', Step T F H F' H' → W c H'
  | .stuck => False
def tDO (K : PySem.W.Frag) (mg : Str → Option Value) (T : List (Addr × Str)) (W : Wi) (f : Sto → Res (Option Int)) : TO := fun σ H Q => ∃ F δ, Lcl K mg T F H σ δ ∧ PostO T F H W Q (f δ)
abbrev DO (T : List (Addr × Str)) (X : Cx) (W : Wi) (e : Option Expr) (f : Sto → Res (Option Int)) : Prop := PO X e (tDO X.K X.mg T W f)
theorem weakO {X : Cx} {e : Option Expr} {t t' : TO} (h : PO X e t) (hw : ∀ σ H Q, t' σ H Q → t σ H Q) : PO X e t' := ⟨fun pins s σ H Q I q => h.run pins s σ H Q I (hw σ H Q q)⟩
theorem ppO {Q : Option Int → Hp → Prop} : PP T W (fun F H r => PostO T F H W Q r) := ⟨fun _ _ h => h, fun _ _ _ h => h, fun _ _ _ _ r _ st h => by
  cases r with
  | ok d => exact fun F2 H2 s2 => h F2 H2 (st.trans s2)
  | rs c => exact fun F2 H2 s2 => h F2 H2 (st.trans s2)
  | stuck => exact h⟩
theorem bindO {F H : Hp} {σ : L2.St} {δ : Sto} {β : Type} {P : Hp → Hp → Res β → Prop} {f : Sto → Res (Option Int)} {k : Option Int → Res β} {Q' : Option Int → Hp → Prop} (pp : PP T W P) (L : Lcl K mg T F H σ δ) (h : P F H ((f δ).bind k))
    (hk : ∀ b F' H', Step T F H F' H' → Lcl K mg T F' H' σ δ → P F' H' (k b) → Q' b H') : tDO K mg T W f σ H Q' := by
  refine ⟨F, δ, L, ?_⟩
  cases e : f δ with
  | ok d => rw [e] at h; exact fun F' H' st => hk d F' H' st (L.step st) (pp.sh _ _ _ _ _ L.gd st h)
  | rs c => rw [e] at h; exact pp.rs _ _ _ h
  | stuck => rw [e] at h; exact (pp.st _ _ h).elim
theorem do_none : DO T X W none noP := weakO po_none fun σ H Q ⟨F, δ, L, h⟩ => h F H L.refl
theorem do_some {e : Expr} {f : Sto → Res D} (he : DE T X W e f) : DO T X W (some e) (part f) :=
  weakO (po_some he) fun σ H Q ⟨F, δ, L, h⟩ => bindE ppO L h fun x v F1 H1 s1 L1 r1 h1 => by
    cases r1 with
    | int i => exact ⟨i, rfl, h1 F1 H1 L1.refl⟩
    | _ => exact (show False from h1).elim
theorem cutL_rp {F : Hp} {vs : List V} {ds : List D} (r : RpL K mg F vs ds) (lo hi : Option Int) : RpL K mg F (cutV vs lo hi) (cutL ds lo hi) := by
  unfold cutV cutL
  rw [r.length]
  exact (r.drop _).take _
theorem tl_cut (z : Str) (lo hi : Option Int) : TL.tl (cutS z lo hi) = cutL (TL.tl z) lo hi := by
  unfold cutS cutL
  rw [TL.len_tl]
theorem de_slice {e : Expr} {lo hi : Option Expr} {fa : Sto → Res D} {fl fh : Sto → Res (Option Int)} {p2 pos : Pos} (he : DE T X W e fa) (hl : DO T X W lo fl) (hh : DO T X W hi fh) : DE T X W (.Subscript e (.Slice lo hi none p2) pos) (slc fa fl fh) :=
  weakE (pe_slice (sl_list.or sl_str) he hl hh) fun σ H Q ⟨F, δ, L, h⟩ => bindE ppE L h fun x v F1 H1 s1 L1 r1 h1 => bindO ppE L1 h1 fun l F2 H2 s2 L2 h2 => bindO ppE L2 h2 fun u F3 H3 s3 L3 h3 => by
    have r3 := (r1.mono s2.r).mono s3.r
    unfold slD at h3
    split at h3
    · obtain ⟨hl, h3⟩ := PostE.ite h3
      cases r3 with
      | str e => exact .inr ⟨_, rfl, by rw [TL.len_tl, e]; exact Nat.le_trans hl line_le, h3.here L3.gd (.str (by rw [tl_cut, e]))⟩
    · obtain ⟨p, us, rfl, e1, q⟩ := r3.lst_inv
      refine .inl ⟨p, us, rfl, .of (L3.sub _ _ e1), fun z hz => ?_⟩
      have st := Step.new (o := .lst (cutV us l u)) L3.gd hz
      exact h3 _ _ _ st (RpL.lst upd_same ((cutL_rp q l u).mono st.r))
    · exact h3.elim
/-! ### methods of textsO and lists -/
def binS (g : List Nat → D → Res D) (fa fb : Sto → Res D) : Sto → Res D := fun δ => (fa δ).bind fun x => match x with
  | .str l => (fb δ).bind (g l)
  | _ => .stuck
def joinD (s : List Nat) : D → Res D
  | .lst xs => match textsO xs with
    | some ls => if (ls.map List.length).sum + ls.length * s.length ≤ line then .ok (.str (TL.joinL s ls)) else .stuck
    | none => .stuck
  | _ => .stuck
theorem sum_len (ys : List Str) : (ys.map (·.length)).sum = ((ys.map TL.tl).map List.length).sum := by
  induction ys with
  | nil => rfl
  | cons y r ih => rw [List.map_cons, List.sum_cons, ih, TL.len_tl]; rfl
theorem de_join {o e : Expr} {fo fe : Sto → Res D} {apos pos : Pos} (ho : DE T X W o fo) (he : DE T X W e fe) (hs : starEach [e] X.env = [(false, eval e X.env)] := by rfl) (hbase : attributeBase o "join" X.env (eval o X.env) = eval o X.env := by rfl) (hline : (apos.endLine == pos.line) = true := by rfl) :
    DE T X W (.Call (.Attribute o "join" apos) [e] [] pos) (binS joinD fo fe) :=
  weakE (pe_join ho he hs hbase hline) fun σ H Q ⟨F, δ, L, h⟩ => bindE ppE L h fun x v F1 H1 s1 L1 r1 h1 => by
    cases r1 with
    | @str a l e0 =>
      refine ⟨⟨_, rfl⟩, bindE ppE L1 h1 fun y u F2 H2 s2 L2 r2 h2 => ?_⟩
      unfold joinD at h2
      split at h2
      · split at h2
        · rename_i ls e1
          obtain ⟨hl, h2⟩ := PostE.ite h2
          obtain ⟨p, us, rfl, e2, q⟩ := r2.lst_inv
          rw [texts_eq e1] at q
          obtain ⟨ys, rfl, e3⟩ := q.strs
          refine ⟨a, p, ys, rfl, rfl, .inl (.of (L2.sub _ _ e2)), ?_, h2.here L2.gd (.str ?_)⟩
          · rw [sum_len, e3, TL.len_tl, e0, ← List.length_map (f := TL.tl) (as := ys), e3]
            exact Nat.le_trans hl (by decide)
          · rw [TL.join_eq, TL.tl_join, e0, e3]
        · exact h2.elim
      · exact h2.elim
    | _ => exact (show False from h1).elim
def countD (s : List Nat) : D → Res D
  | .str [c] => .ok (.int (s.count c : Nat))
  | _ => .stuck
theorem cnt_eq (c : Nat) (l : List Nat) : cnt c l = ((l.count c : Nat) : Int) := by
  induction l with
  | nil => rfl
  | cons x r ih =>
    unfold cnt at ih ⊢
    rw [List.map_cons, countIn, ih, List.count_cons]
    have e : same (PyData.str ⟨#[x]⟩) (PyData.str ⟨#[c]⟩) = ((⟨#[x]⟩ : Str) == ⟨#[c]⟩) := by simp only [same]
    rw [e]
    by_cases h : x = c
    · subst h
      rw [if_pos (beq_self_eq_true _), if_pos (beq_self_eq_true _)]
      omega
    · have h2 : ¬ ((⟨#[x]⟩ : Str) = ⟨#[c]⟩) := fun z => h (by have := congrArg TL.tl z; simpa using this)
      rw [if_neg (by simpa using h2), if_neg (by simpa using h)]
      omega
theorem de_count {o e : Expr} {fo fe : Sto → Res D} {apos pos : Pos} (ho : DE T X W o fo) (he : DE T X W e fe) (hs : starEach [e] X.env = [(false, eval e X.env)] := by rfl) (hbase : attributeBase o "count" X.env (eval o X.env) = eval o X.env := by rfl) (hline : (apos.endLine == pos.line) = true := by rfl) :
    DE T X W (.Call (.Attribute o "count" apos) [e] [] pos) (binS countD fo fe) :=
  weakE (pe_m1 F.slot_str_count F.type_str_count mt_count ho he hs hbase hline) fun σ H Q ⟨F, δ, L, h⟩ => bindE ppE L h fun x v F1 H1 s1 L1 r1 h1 => by
    cases r1 with
    | @str a l e0 =>
      refine ⟨⟨_, rfl⟩, bindE ppE L1 h1 fun y u F2 H2 s2 L2 r2 h2 => ?_⟩
      unfold countD at h2
      split at h2
      · rename_i c
        cases r2 with
        | str e1 =>
          have e2 := one_sign e1
          subst e2 e0
          refine ⟨a, _, rfl, rfl, h2.here L2.gd ?_⟩
          rw [count_cnt, cnt_eq]
          exact .int _
      · exact h2.elim
    | _ => exact (show False from h1).elim
end
end Dn


set_option Elab.async false
set_option linter.all false
set_option maxRecDepth 100000
set_option maxHeartbeats 4000000
namespace Dn
open PySem PySem.Spec PyProof.Rows L2
/-! ### statements: outcomes, the state against the entry -/
inductive Out where
  | nx (δ : Sto) | rt (d : D) | rs (c : Str) | bk (δ : Sto) | ct (δ : Sto) | stuck
def Res.out {α : Type} : Res α → (α → Out) → Out
  | .ok a, k => k a
  | .rs c, _ => .rs c
  | .stuck, _ => .stuck
@[simp] theorem out_ok {α : Type} (a : α) (k : α → Out) : (Res.ok a).out k = k a := nrfl rfl
@[simp] theorem out_rs {α : Type} (c : Str) (k : α → Out) : (Res.rs c : Res α).out k = .rs c := nrfl rfl
@[simp] theorem out_stuck {α : Type} (k : α → Out) : (Res.stuck : Res α).out k = .stuck := nrfl rfl
structure StR (K : PySem.W.Frag) (mg : Str → Option Value) (T : List (Addr × Str)) (F0 : Hp) (H0 : Hp × Addr) (F H : Hp) (σ : L2.St) (δ : Sto) : Prop where
  sub0 : Sub F0 H0.1
  st : Step T F0 H0.1 F H
  loc : Lcl K mg T F H σ δ
  fresh : ∀ (i : Nat) s a, δ[i]? = some s → s.owned = true → σ[i]? = some (some (.ref a)) → Fr0 T H0.1 a ∧ ∀ C dx gs, H a = some (.ins C dx gs) → Fr0 T H0.1 dx ∧ a = H0.2
section
variable (K : PySem.W.Frag) (mg : Str → Option Value) (T : List (Addr × Str))
def PostS (F0 : Hp) (H0 : Hp × Addr) (F : Hp) (W : Wi) (D' : Ends) : Out → Prop
  | .nx δ => ∀ σ F' H', Rel F F' → StR K mg T F0 H0 F' H' σ δ → D'.nx σ H'
  | .rt d => ∀ v F' H', Step T F0 H0.1 F' H' → Rp K mg F' v d → D'.rt v H'
  | .rs c => ∀ F' H', Step T F0 H0.1 F' H' → W c H'
  | .bk δ => ∀ σ F' H', Rel F F' → StR K mg T F0 H0 F' H' σ δ → D'.bk σ H'
  | .ct δ => ∀ σ F' H', Rel F F' → StR K mg T F0 H0 F' H' σ δ → D'.ct σ H'
  | .stuck => False
def sD (W : Wi) (f : Sto → Out) : TS := fun D' σ H => ∃ F0 H0 F δ, StR K mg T F0 H0 F H σ δ ∧ PostS K mg T F0 H0 F W D' (f δ)
end
abbrev DS (T : List (Addr × Str)) (X : Cx) (W : Wi) (st : Stmt) (f : Sto → Out) : Prop := PS X st (sD X.K X.mg T W f)
abbrev DSs (T : List (Addr × Str)) (X : Cx) (W : Wi) (st : List Stmt) (f : Sto → Out) : Prop := PSs X st (sD X.K X.mg T W f)
theorem weakS {X : Cx} {e : Stmt} {t t' : TS} (h : PS X e t) (hw : ∀ D' σ H, t' D' σ H → t D' σ H) : PS X e t' := ⟨fun pins s σ H D' I q => h.run pins s σ H D' I (hw D' σ H q)⟩
theorem weakSs {X : Cx} {e : List Stmt} {t t' : TS} (h : PSs X e t) (hw : ∀ D' σ H, t' D' σ H → t D' σ H) : PSs X e t' := ⟨fun pins s σ H D' I q => h.run pins s σ H D' I (hw D' σ H q)⟩
section
variable {K : PySem.W.Frag} {mg : Str → Option Value} {T : List (Addr × Str)} {F0 : Hp} {H0 : Hp × Addr} {F H F' H' : Hp} {σ : L2.St} {δ : Sto} {W : Wi} {D' : Ends}
theorem PostS.shift {o : Out} (h : PostS K mg T F0 H0 F W D' o) (r : Rel F F') : PostS K mg T F0 H0 F' W D' o := by
  cases o with
  | nx δ => exact fun σ F2 H2 r2 => h σ F2 H2 (r.trans r2)
  | bk δ => exact fun σ F2 H2 r2 => h σ F2 H2 (r.trans r2)
  | ct δ => exact fun σ F2 H2 r2 => h σ F2 H2 (r.trans r2)
  | rt d => exact h
  | rs c => exact h
  | stuck => exact h
theorem SlotOk.ins_same {ov : Option V} {s : Slot} (h : SlotOk K mg F H ov s) (hs : s.owned = true) (st : Step T F H F' H') {a : Addr} (e : ov = some (.ref a)) : H' a = H a := by
  cases s with
  | no => cases hs
  | val d => cases hs
  | own ds =>
    obtain ⟨b, vs, e1, n, q, r⟩ := h
    rw [e] at e1; cases e1
    rw [q]
    exact st.fr _ _ n q (.inr fun _ z => by cases z)
  | ins c fs =>
    obtain ⟨b, C, dx, gs, e1, n, n', hm, q, q', r⟩ := h
    rw [e] at e1; cases e1
    rw [q]
    exact st.fr _ _ n q (.inr fun _ z => by cases z)
theorem StR.step (S : StR K mg T F0 H0 F H σ δ) (st : Step T F H F' H') : StR K mg T F0 H0 F' H' σ δ :=
  ⟨S.sub0, S.st.trans st, S.loc.step st, fun i s a e o q => by
    obtain ⟨h1, h2⟩ := S.fresh i s a e o q
    refine ⟨h1, fun C dx gs z => h2 C dx gs ?_⟩
    obtain ⟨ov, q1, ok⟩ := S.loc.slot i s e
    rw [q] at q1; cases q1
    rw [← ok.ins_same o st rfl]
    exact z⟩
/-- an expression, then the rest of the statement -/
theorem outE {f : Sto → Res D} {k : D → Out} {Q : VK} (S : StR K mg T F0 H0 F H σ δ) (h : PostS K mg T F0 H0 F W D' ((f δ).out k))
    (hk : ∀ d v F' H', Rel F F' → StR K mg T F0 H0 F' H' σ δ → Rp K mg F' v d → PostS K mg T F0 H0 F' W D' (k d) → Q v H') : tD K mg T W f σ H Q := by
  refine ⟨F, δ, S.loc, ?_⟩
  cases e : f δ with
  | ok d => rw [e] at h; exact fun v F' H' st r => hk d v F' H' st.r (S.step st) r (h.shift st.r)
  | rs c => rw [e] at h; exact fun F' H' st => h F' H' (S.st.trans st)
  | stuck => rw [e] at h; exact h
theorem outT {f : Sto → Res Bool} {k : Bool → Out} {Q : Bool → Hp → Prop} (S : StR K mg T F0 H0 F H σ δ) (h : PostS K mg T F0 H0 F W D' ((f δ).out k))
    (hk : ∀ b F' H', Rel F F' → StR K mg T F0 H0 F' H' σ δ → PostS K mg T F0 H0 F' W D' (k b) → Q b H') : tDT K mg T W f σ H Q := by
  refine ⟨F, δ, S.loc, ?_⟩
  cases e : f δ with
  | ok d => rw [e] at h; exact fun F' H' st => hk d F' H' st.r (S.step st) (h.shift st.r)
  | rs c => rw [e] at h; exact fun F' H' st => h F' H' (S.st.trans st)
  | stuck => rw [e] at h; exact h
theorem outL {f : Sto → Res (List D)} {k : List D → Out} {Q : VK} (S : StR K mg T F0 H0 F H σ δ) (h : PostS K mg T F0 H0 F W D' ((f δ).out k))
    (hk : ∀ ds p vs F' H', Fr0 T H p → Rel F F' → StR K mg T F0 H0 F' H' σ δ → F' p = none → H' p = some (.lst vs) → RpL K mg F' vs ds → PostS K mg T F0 H0 F' W D' (k ds) → Q (.ref p) H') : tDL K mg T W f σ H Q := by
  refine ⟨F, δ, S.loc, ?_⟩
  cases e : f δ with
  | ok d => rw [e] at h; exact fun p vs F' H' hp st hF hH r => hk d p vs F' H' hp st.r (S.step st) hF hH r (h.shift st.r)
  | rs c => rw [e] at h; exact fun F' H' st => h F' H' (S.st.trans st)
  | stuck => rw [e] at h; exact h
theorem set_cases {α : Type} {l : List α} {i j : Nat} {x y : α} (h : (l.set i x)[j]? = some y) : (j = i ∧ y = x ∧ i < l.length) ∨ (j ≠ i ∧ l[j]? = some y) := by
  by_cases e : j = i
  · subst e
    have hl : j < l.length := by have := (List.getElem?_eq_some_iff.mp h).1; simpa using this
    rw [List.getElem?_set_self hl] at h
    cases h
    exact .inl ⟨rfl, rfl, hl⟩
  · rw [List.getElem?_set_ne (Ne.symm e)] at h
    exact .inr ⟨e, h⟩
theorem Lcl.set (L : Lcl K mg T F H σ δ) {i : Nat} {ov : Option V} {s : Slot} (hs : i < δ.length → SlotOk K mg F H ov s) (ha : s.owned = true → ∀ (j : Nat) s' a, j ≠ i → δ[j]? = some s' → s'.owned = true → ov = some (.ref a) → σ[j]? = some (some (.ref a)) → False) : Lcl K mg T F H (σ.set i ov) (δ.set i s) := by
  refine ⟨L.gd, by rw [List.length_set, List.length_set]; exact L.len, fun j s' e => ?_, fun j k s1 s2 a hjk e1 e2 o1 o2 q1 q2 => ?_⟩
  · rcases set_cases e with ⟨rfl, rfl, hl⟩ | ⟨hj, e⟩
    · exact ⟨ov, List.getElem?_set_self (by rw [L.len]; exact hl), hs hl⟩
    · obtain ⟨ov', q, ok⟩ := L.slot j s' e
      exact ⟨ov', by rw [List.getElem?_set_ne (Ne.symm hj)]; exact q, ok⟩
  · rcases set_cases e1 with ⟨rfl, rfl, hl⟩ | ⟨hj, e1'⟩
    · rcases set_cases e2 with ⟨rfl, _, _⟩ | ⟨hk, e2⟩
      · exact hjk rfl
      · rw [List.getElem?_set_self (by rw [L.len]; exact hl)] at q1
        rw [List.getElem?_set_ne (Ne.symm hk)] at q2
        exact ha o1 k s2 a hk e2 o2 (Option.some.inj q1) q2
    · rw [List.getElem?_set_ne (Ne.symm hj)] at q1
      rcases set_cases e2 with ⟨hk, rfl, hl⟩ | ⟨hk, e3⟩
      · rw [hk, List.getElem?_set_self (by rw [L.len]; exact hl)] at q2
        exact ha o2 j s1 a hj e1' o1 (Option.some.inj q2) q1
      · rw [List.getElem?_set_ne (Ne.symm hk)] at q2
        exact L.apart j k s1 s2 a hjk e1' e3 o1 o2 q1 q2
theorem StR.set (S : StR K mg T F0 H0 F H σ δ) {i : Nat} {ov : Option V} {s : Slot} (hs : i < δ.length → SlotOk K mg F H ov s) (ha : s.owned = true → ∀ (j : Nat) s' a, j ≠ i → δ[j]? = some s' → s'.owned = true → ov = some (.ref a) → σ[j]? = some (some (.ref a)) → False)
    (hf : s.owned = true → ∀ a, ov = some (.ref a) → Fr0 T H0.1 a ∧ ∀ C dx gs, H a = some (.ins C dx gs) → Fr0 T H0.1 dx ∧ a = H0.2) : StR K mg T F0 H0 F H (σ.set i ov) (δ.set i s) := by
  refine ⟨S.sub0, S.st, S.loc.set hs ha, fun j s' a e o q => ?_⟩
  rcases set_cases e with ⟨rfl, rfl, hl⟩ | ⟨hj, e⟩
  · rw [List.getElem?_set_self (by rw [S.loc.len]; exact hl)] at q
    exact hf o a (Option.some.inj q)
  · rw [List.getElem?_set_ne (Ne.symm hj)] at q
    exact S.fresh j s' a e o q
theorem StR.setVal (S : StR K mg T F0 H0 F H σ δ) {i : Nat} {v : V} {d : D} (r : Rp K mg F v d) : StR K mg T F0 H0 F H (σ.set i (some v)) (δ.set i (.val d)) :=
  S.set (fun _ => ⟨v, rfl, r⟩) (fun z => by cases z) (fun z => by cases z)
/-- an owned address is known to the heap -/
theorem SlotOk.there {s : Slot} {a : Addr} (h : SlotOk K mg F H (some (.ref a)) s) (hs : s.owned = true) : ∃ o, H a = some o ∧ (∀ ps, o ≠ .tbl ps) ∧ (∀ φ, o ≠ .ext φ) := by
  cases s with
  | no => cases hs
  | val d => cases hs
  | own ds =>
    obtain ⟨b, vs, e1, n, q, r⟩ := h
    cases e1
    exact ⟨_, q, fun _ z => by (cases z), fun _ z => by (cases z)⟩
  | ins c fs =>
    obtain ⟨b, C, dx, gs, e1, n, n', hm, q, q', r⟩ := h
    cases e1
    exact ⟨_, q, fun _ z => by (cases z), fun _ z => by (cases z)⟩
theorem Lcl.ne (L : Lcl K mg T F H σ δ) {p : Addr} (hp : Fr0 T H p) {j : Nat} {s : Slot} {a : Addr} (e : δ[j]? = some s) (o : s.owned = true) (q : σ[j]? = some (some (.ref a))) : a ≠ p := by
  obtain ⟨ov, q1, ok⟩ := L.slot j s e
  rw [q] at q1; cases q1
  obtain ⟨o', h1, h2, _⟩ := ok.there o
  exact hp.ne h1 (.inr (.inl h2))
end
/-! ### the statements' combinators -/
def seqS (f g : Sto → Out) : Sto → Out := fun δ => match f δ with
  | .nx δ' => g δ'
  | o => o
def nopS : Sto → Out := fun δ => .nx δ
def asg (i : Nat) (f : Sto → Res D) : Sto → Out := fun δ => (f δ).out fun d => .nx (δ.set i (.val d))
def asgN (i : Nat) (f : Sto → Res (List D)) : Sto → Out := fun δ => (f δ).out fun ds => .nx (δ.set i (.own ds))
def drp (f : Sto → Res D) : Sto → Out := fun δ => (f δ).out fun _ => .nx δ
def retS (f : Sto → Res D) : Sto → Out := fun δ => (f δ).out .rt
def retN : Sto → Out := fun _ => .rt .non
def rais (c : Str) : Sto → Out := fun _ => .rs c
def ifS (t : Sto → Res Bool) (f g : Sto → Out) : Sto → Out := fun δ => (t δ).out fun b => if b = true then f δ else g δ
/-- a list of one's own is let go: it is read from now on -/
def frzS (i : Nat) (f : Sto → Out) : Sto → Out := fun δ => match δ[i]? with
  | some (.own ds) => f (δ.set i (.val (.lst ds)))
  | _ => .stuck
def appS (i : Nat) (f : Sto → Res D) : Sto → Out := fun δ => match δ[i]? with
  | some (.own ds) => (f δ).out fun d => if ds.length < line then .nx (δ.set i (.own (ds ++ [d]))) else .stuck
  | _ => .stuck
def extS (i : Nat) (f : Sto → Res D) : Sto → Out := fun δ => match δ[i]? with
  | some (.own ds) => (f δ).out fun d => match d with
    | .lst es => if ds.length + es.length ≤ line then .nx (δ.set i (.own (ds ++ es))) else .stuck
    | _ => .stuck
  | _ => .stuck
def whS (t : Sto → Res Bool) (b : Sto → Out) : Nat → Sto → Out
  | 0, _ => .stuck
  | n + 1, δ => (t δ).out fun c => if c = true then (match b δ with
      | .nx δ' => whS t b n δ'
      | .ct δ' => whS t b n δ'
      | .bk δ' => .nx δ'
      | o => o) else .nx δ
def forS (g : D → Sto → Option Sto) (b : Sto → Out) : List D → Sto → Out
  | [], δ => .nx δ
  | x :: xs, δ => match g x δ with
    | some δ1 => (match b δ1 with
      | .nx δ' => forS g b xs δ'
      | .ct δ' => forS g b xs δ'
      | .bk δ' => .nx δ'
      | o => o)
    | none => .stuck
def tgN (i : Nat) : D → Sto → Option Sto := fun d δ => some (δ.set i (.val d))
def tgP (i j : Nat) : D → Sto → Option Sto := fun d δ => match d with
  | .tup [a, b] => some ((δ.set i (.val a)).set j (.val b))
  | _ => none
def forF (fi : Sto → Res (List D)) (g : D → Sto → Option Sto) (b : Sto → Out) : Sto → Out := fun δ => (fi δ).out fun xs => forS g b xs δ
/-! ### rules -/
section
variable {T : List (Addr × Str)} {X : Cx} {W : Wi} {st : Stmt} {rest a b : List Stmt} {f g : Sto → Out} {e : Expr} {fe : Sto → Res D} {pos pos' : Pos}
theorem dss_nil : DSs T X W [] nopS := weakSs pss_nil fun D' σ H ⟨F0, H0, F, δ, S, h⟩ => h σ F H (.refl F) S
theorem dss_one (h : DS T X W st f) : DSs T X W [st] f := pss_one h
theorem dss_cons (h1 : DS T X W st f) (h2 : DSs T X W rest g) : DSs T X W (st :: rest) (seqS f g) :=
  weakSs (pss_cons h1 h2) fun D' σ H ⟨F0, H0, F, δ, S, h⟩ => ⟨F0, H0, F, δ, S, by
    unfold seqS at h
    cases e : f δ with
    | nx δ' => rw [e] at h; exact fun σ' F' H' r S' => ⟨F0, H0, F', δ', S', h.shift r⟩
    | rt d => rw [e] at h; exact h
    | rs c => rw [e] at h; exact h
    | bk δ' => rw [e] at h; exact h
    | ct δ' => rw [e] at h; exact h
    | stuck => rw [e] at h; exact h⟩
theorem ds_pass : DS T X W (.Pass pos) nopS := weakS ps_pass fun D' σ H ⟨F0, H0, F, δ, S, h⟩ => h σ F H (.refl F) S
theorem ds_set {x : Str} (i : Nat) (hN : X.N.Nodup) (he : DE T X W e fe) (hi : X.N[i]? = some x := by rfl) (hx : L2.Loc X.env.scope x := by first | exact Or.inl rfl | exact Or.inr rfl) (hs : swapsWith e (some (.Name x pos')) pos.line X.env = pure false := by rfl) (hf : X.fn x = true ∨ X.env.scope.names.lookup x = some .local := by first | exact .inl rfl | exact .inr rfl | assumption) :
    DS T X W (.Assign [.Name x pos'] e pos) (asg i fe) :=
  weakS (ps_set hN hi hx he hs hf) fun D' σ H ⟨F0, H0, F, δ, S, h⟩ => outE S h fun d v F1 H1 r1 S1 rv h1 => h1 _ F1 H1 (.refl F1) (S1.setVal rv)
theorem ds_setN {x : Str} {fl : Sto → Res (List D)} (i : Nat) (hN : X.N.Nodup) (he : DL T X W e fl) (hi : X.N[i]? = some x := by rfl) (hx : L2.Loc X.env.scope x := by first | exact Or.inl rfl | exact Or.inr rfl) (hs : swapsWith e (some (.Name x pos')) pos.line X.env = pure false := by rfl) (hf : X.fn x = true ∨ X.env.scope.names.lookup x = some .local := by first | exact .inl rfl | exact .inr rfl | assumption) :
    DS T X W (.Assign [.Name x pos'] e pos) (asgN i fl) :=
  weakS (ps_set hN hi hx he hs hf) fun D' σ H ⟨F0, H0, F, δ, S, h⟩ => outL S h fun ds p vs F1 H1 hp r1 S1 hF hH rv h1 => h1 _ F1 H1 (.refl F1) (S1.set (fun _ => ⟨p, vs, rfl, hF, hH, rv⟩) (fun _ j s' a hj e1 o1 q1 q2 => by cases q1; exact S.loc.ne hp e1 o1 q2 rfl)
    (fun _ a q => by cases q; exact ⟨S.st.back S.sub0 hp, fun C dx gs z => by rw [hH] at z; cases z⟩))
end
end Dn


set_option Elab.async false
set_option linter.all false
set_option maxRecDepth 100000
set_option maxHeartbeats 4000000
namespace Dn
open PySem PySem.Spec PyProof.Rows L2
section
variable {T : List (Addr × Str)} {X : Cx} {W : Wi} {st : Stmt} {rest a b : List Stmt} {f g : Sto → Out} {e c : Expr} {fe : Sto → Res D} {ft : Sto → Res Bool} {pos pos' : Pos}
theorem ds_expr (he : DE T X W e fe) (hs : swapsWith e none pos.line X.env = pure false := by rfl) : DS T X W (.Expr e pos) (drp fe) :=
  weakS (ps_expr he hs) fun D' σ H ⟨F0, H0, F, δ, S, h⟩ => outE S h fun d v F1 H1 r1 S1 rv h1 => h1 σ F1 H1 (.refl F1) S1
theorem ds_ret (he : DE T X W e fe) : DS T X W (.Return (some e) pos) (retS fe) :=
  weakS (ps_ret he) fun D' σ H ⟨F0, H0, F, δ, S, h⟩ => outE S h fun d v F1 H1 r1 S1 rv h1 => h1 v F1 H1 S1.st rv
theorem ds_retN : DS T X W (.Return none pos) retN := weakS ps_retN fun D' σ H ⟨F0, H0, F, δ, S, h⟩ => h .non F H S.st .non
theorem ds_if (hc : DT T X W c ft) (ha : DSs T X W a f) (hb : DSs T X W b g) : DS T X W (.If c a b pos) (ifS ft f g) :=
  weakS (ps_if hc ha hb) fun D' σ H ⟨F0, H0, F, δ, S, h⟩ => outT S h fun k F1 H1 r1 S1 h1 => by
    cases k with
    | true => rw [if_pos rfl] at h1 ⊢; exact ⟨F0, H0, F1, δ, S1, h1⟩
    | false => rw [if_neg Bool.false_ne_true] at h1 ⊢; exact ⟨F0, H0, F1, δ, S1, h1⟩
theorem ds_brk : DS T X W (.Break pos) (fun δ => .bk δ) := weakS ps_break fun D' σ H ⟨F0, H0, F, δ, S, h⟩ => h σ F H (.refl F) S
theorem ds_cont : DS T X W (.Continue pos) (fun δ => .ct δ) := weakS ps_continue fun D' σ H ⟨F0, H0, F, δ, S, h⟩ => h σ F H (.refl F) S
/-- the class that a name of the module holds -/
def clsOf (mg : Str → Option Value) (c : Str) : Value := (mg c).getD .none
/-- a wish by names as a wish -/
def wx (mg : Str → Option Value) (W : Wi) : WX := fun cls d _ H => d = none ∧ ∃ c, cls = clsOf mg c ∧ W c H
theorem ds_raise {x m : Str} {C : Addr} {bmB : List Value} {B newId initId : String} {j : Nat} {p p2 p3 : Pos} (hc : X.calm = true) (tk : L2N.Takes X (wx X.mg W)) (Fb : ExcBaseFacts B newId initId bmB) (q : PySem.W.excIn X.K C bmB newId = true) (gC : X.mg x = some (.ref C)) (kC : PySem.W.keepIn X.K (.ref C) = true)
    (h1 : PySem.W.subIn X.K (.ref C) (.type "BaseException") = some true) (h2 : PySem.W.typeIn X.K (.ref C) = some (.type "type")) (hg : Gl X x := by rfl) (hdb : (x == ("__debug__" : Str)) = false := by decide) :
    DS T X W (.Raise (some (.Call (.Name x p) [.Constant (.str m) j p2] [] p3)) none pos) (rais x) :=
  weakS (L2N.ps_raise hc tk (L2N.pmk_own Fb q gC kC (raises_own h1 h2) hg hdb)) fun D' σ H ⟨F0, H0, F, δ, S, h⟩ => ⟨rfl, x, by unfold clsOf; rw [gC]; rfl, h F H S.st⟩
/-! ### lists of one's own -/
theorem StR.freeze {K : PySem.W.Frag} {mg : Str → Option Value} {F0 : Hp} {H0 : Hp × Addr} {F H : Hp} {σ : L2.St} {δ : Sto} (S : StR K mg T F0 H0 F H σ δ) {i : Nat} {ds : List D} (e : δ[i]? = some (.own ds)) : ∃ F', Rel F F' ∧ StR K mg T F0 H0 F' H σ (δ.set i (.val (.lst ds))) := by
  obtain ⟨ov, q, p, vs, rfl, nF, hH, rv⟩ := S.loc.slot i _ e
  obtain ⟨n0, _⟩ := S.fresh i _ p e rfl q
  have st := S.st.freeze n0 nF hH
  have rel : Rel F (upd F p (.lst vs)) := fun a o z => ⟨o, by rw [upd_ne (ne_of_none z nF)]; exact z, .refl o⟩
  refine ⟨upd F p (.lst vs), rel, S.sub0, st, ⟨st.gd, by rw [List.length_set]; exact S.loc.len, fun j s z => ?_, fun j k s1 s2 a hjk e1 e2 o1 o2 q1 q2 => ?_⟩, fun j s a z o q' => ?_⟩
  · rcases set_cases z with ⟨rfl, rfl, _⟩ | ⟨hj, z⟩
    · exact ⟨_, q, .ref p, rfl, RpL.lst upd_same (rv.mono rel)⟩
    · obtain ⟨ov, q', ok⟩ := S.loc.slot j s z
      refine ⟨ov, q', ?_⟩
      cases s with
      | no => trivial
      | val d =>
        obtain ⟨v, e1, r⟩ := ok
        exact ⟨v, e1, r.mono rel⟩
      | own es =>
        obtain ⟨b, us, rfl, n, h, r⟩ := ok
        have hb : b ≠ p := fun zz => S.loc.apart j i _ _ b hj z e rfl rfl q' (by rw [zz]; exact q)
        exact ⟨b, us, rfl, by rw [upd_ne hb]; exact n, h, r.mono rel⟩
      | ins c fs =>
        obtain ⟨b, C, dx, gs, rfl, n, n', hm, h, h', r⟩ := ok
        have hb : b ≠ p := fun zz => S.loc.apart j i _ _ b hj z e rfl rfl q' (by rw [zz]; exact q)
        have hd : dx ≠ p := fun zz => by rw [zz, hH] at h'; cases h'
        exact ⟨b, C, dx, gs, rfl, by rw [upd_ne hb]; exact n, by rw [upd_ne hd]; exact n', hm, h, h', r.mono rel⟩
  · rcases set_cases e1 with ⟨rfl, rfl, _⟩ | ⟨_, e1⟩
    · cases o1
    · rcases set_cases e2 with ⟨rfl, rfl, _⟩ | ⟨_, e2⟩
      · cases o2
      · exact S.loc.apart j k s1 s2 a hjk e1 e2 o1 o2 q1 q2
  · rcases set_cases z with ⟨rfl, rfl, _⟩ | ⟨_, z⟩
    · cases o
    · exact S.fresh j s a z o q'
theorem dss_frz (i : Nat) (h : DSs T X W rest f) : DSs T X W rest (frzS i f) :=
  weakSs h fun D' σ H ⟨F0, H0, F, δ, S, h⟩ => by
    unfold frzS at h
    split at h
    · rename_i ds e
      obtain ⟨F', r, S'⟩ := S.freeze e
      exact ⟨F0, H0, F', _, S', h.shift r⟩
    · exact h.elim
theorem ds_frz (i : Nat) (h : DS T X W st f) : DS T X W st (frzS i f) :=
  weakS h fun D' σ H ⟨F0, H0, F, δ, S, h⟩ => by
    unfold frzS at h
    split at h
    · rename_i ds e
      obtain ⟨F', r, S'⟩ := S.freeze e
      exact ⟨F0, H0, F', _, S', h.shift r⟩
    · exact h.elim
/-- an owned list is turned -/
theorem StR.turn {K : PySem.W.Frag} {mg : Str → Option Value} {F0 : Hp} {H0 : Hp × Addr} {F H : Hp} {σ : L2.St} {δ : Sto} (S : StR K mg T F0 H0 F H σ δ) {i : Nat} {ds : List D} {p : Addr} {us : List V} {es : List D} (e : δ[i]? = some (.own ds)) (q : σ[i]? = some (some (.ref p))) (r : RpL K mg F us es) :
    StR K mg T F0 H0 F (upd H p (.lst us)) σ (δ.set i (.own es)) := by
  obtain ⟨ov, q1, p', vs, rfl, nF, hH, rv⟩ := S.loc.slot i _ e
  rw [q] at q1; cases q1
  obtain ⟨n0, _⟩ := S.fresh i _ p e rfl q
  have st : Step T F0 H0.1 F (upd H p (.lst us)) := S.st.turn n0 nF (fun ps z => by rw [hH] at z; cases z) (fun φ z => by rw [hH] at z; cases z)
  refine ⟨S.sub0, st, ⟨st.gd, by rw [List.length_set]; exact S.loc.len, fun j s z => ?_, fun j k s1 s2 a hjk e1 e2 o1 o2 q1 q2 => ?_⟩, fun j s a z o q' => ?_⟩
  · rcases set_cases z with ⟨rfl, rfl, _⟩ | ⟨hj, z⟩
    · exact ⟨_, q, p, us, rfl, nF, upd_same, r⟩
    · obtain ⟨ov, q', ok⟩ := S.loc.slot j s z
      refine ⟨ov, q', ?_⟩
      cases s with
      | no => trivial
      | val d => exact ok
      | own es =>
        obtain ⟨b, us, rfl, n, h, r⟩ := ok
        have hb : b ≠ p := fun zz => S.loc.apart j i _ _ b hj z e rfl rfl q' (by rw [zz]; exact q)
        exact ⟨b, us, rfl, n, by rw [upd_ne hb]; exact h, r⟩
      | ins c fs =>
        obtain ⟨b, C, dx, gs, rfl, n, n', hm, h, h', r⟩ := ok
        have hb : b ≠ p := fun zz => S.loc.apart j i _ _ b hj z e rfl rfl q' (by rw [zz]; exact q)
        have hd : dx ≠ p := fun zz => by rw [zz, hH] at h'; cases h'
        exact ⟨b, C, dx, gs, rfl, n, n', hm, by rw [upd_ne hb]; exact h, by rw [upd_ne hd]; exact h', r⟩
  · have own : ∀ {j : Nat} {s : Slot}, (δ.set i (.own es))[j]? = some s → s.owned = true → ∃ s' : Slot, δ[j]? = some s' ∧ s'.owned = true := fun {j s} z o => by
      rcases set_cases z with ⟨rfl, rfl, _⟩ | ⟨_, z⟩
      · exact ⟨_, e, rfl⟩
      · exact ⟨s, z, o⟩
    obtain ⟨t1, f1, g1⟩ := own e1 o1
    obtain ⟨t2, f2, g2⟩ := own e2 o2
    exact S.loc.apart j k t1 t2 a hjk f1 f2 g1 g2 q1 q2
  · rcases set_cases z with ⟨rfl, rfl, _⟩ | ⟨hj, z⟩
    · rw [q] at q'; cases q'
      exact ⟨n0, fun C dx gs zz => by rw [upd_same] at zz; cases zz⟩
    · obtain ⟨h1, h2⟩ := S.fresh j s a z o q'
      have ha : a ≠ p := fun zz => S.loc.apart j i _ _ a hj z e o rfl q' (by rw [zz]; exact q)
      exact ⟨h1, fun C dx gs zz => h2 C dx gs (by rw [upd_ne ha] at zz; exact zz)⟩
/-- x.append(e) -/
theorem ds_app {x : Str} {px pa pc : Pos} (i : Nat) (he : DE T X W e fe) (hN : X.N[i]? = some x := by rfl) (hv : Vis X.env.scope x := by first | exact Or.inl rfl | exact Or.inr (Or.inl rfl) | exact Or.inr (Or.inr rfl)) (hd : (x == ("__debug__" : Str)) = false := by decide) (hcd : (x == ("__classdict__" : Str)) = false := by decide)
    (hsw : swapsWith (.Call (.Attribute (.Name x px) "append" pa) [e] [] pc) none pos.line X.env = pure false := by rfl) (hse : starEach (e :: []) X.env = (false, eval e X.env) :: starEach [] X.env := by rfl)
    (hbase : attributeBase (.Name x px) "append" X.env (eval (.Name x px) X.env) = eval (.Name x px) X.env := by rfl)
    (hfew : ((backTo pc (starEach (e :: []) X.env)).all (fun x => !x.1) && (backToKw pc (keywordEach [] X.env)).all (fun x => x.1.isSome) && decide ((e :: []).length + ([] : List Keyword).length + (if ([] : List Keyword).isEmpty then 0 else 1) < 30)) = true := by rfl)
    (hline : (pa.endLine == pc.line) = true := by rfl) (hplain : (backTo pc (starEach [] X.env)).any (·.1) = false := by rfl) :
    DS T X W (.Expr (.Call (.Attribute (.Name x px) "append" pa) [e] [] pc) pos) (appS i fe) :=
  weakS (ps_expr (pe_bm PySem.F.plainAttrs_list PySem.F.slot_list_append PySem.F.type_list_append mt_append (pe_var (i := i) hN hv hd hcd) (pa_cons he pa_nil hse) hbase hfew hline hse hplain) hsw) fun D' σ H ⟨F0, H0, F, δ, S, h⟩ => by
    unfold appS at h
    split at h
    · rename_i ds e1
      obtain ⟨ov, q, p, vs, rfl, nF, hH, rv⟩ := S.loc.slot i _ e1
      refine ⟨.ref p, q, .inl ⟨rfl, vs, .of hH⟩, ?_⟩
      refine outE S h fun d v F1 H1 r1 S1 rd h1 => ?_
      obtain ⟨ov, q', p', vs', ev, nF', hH', rv'⟩ := S1.loc.slot i _ e1
      rw [q] at q'; cases q'; cases ev
      by_cases hl : ds.length < line
      · rw [if_pos hl] at h1
        refine ⟨p, vs', v, rfl, rfl, hH', by rw [rv'.length]; exact Nat.lt_of_lt_of_le hl line_le, ?_⟩
        exact h1 σ F1 _ (.refl F1) (S1.turn e1 q (rv'.append (.cons rd .nil)))
      · rw [if_neg hl] at h1; exact h1.elim
    · exact h.elim
/-- x.extend(e) -/
theorem ds_ext {x : Str} {px pa pc : Pos} (i : Nat) (he : DE T X W e fe) (hN : X.N[i]? = some x := by rfl) (hv : Vis X.env.scope x := by first | exact Or.inl rfl | exact Or.inr (Or.inl rfl) | exact Or.inr (Or.inr rfl)) (hd : (x == ("__debug__" : Str)) = false := by decide) (hcd : (x == ("__classdict__" : Str)) = false := by decide)
    (hsw : swapsWith (.Call (.Attribute (.Name x px) "extend" pa) [e] [] pc) none pos.line X.env = pure false := by rfl) (hse : starEach (e :: []) X.env = (false, eval e X.env) :: starEach [] X.env := by rfl)
    (hbase : attributeBase (.Name x px) "extend" X.env (eval (.Name x px) X.env) = eval (.Name x px) X.env := by rfl)
    (hfew : ((backTo pc (starEach (e :: []) X.env)).all (fun x => !x.1) && (backToKw pc (keywordEach [] X.env)).all (fun x => x.1.isSome) && decide ((e :: []).length + ([] : List Keyword).length + (if ([] : List Keyword).isEmpty then 0 else 1) < 30)) = true := by rfl)
    (hline : (pa.endLine == pc.line) = true := by rfl) (hplain : (backTo pc (starEach [] X.env)).any (·.1) = false := by rfl) :
    DS T X W (.Expr (.Call (.Attribute (.Name x px) "extend" pa) [e] [] pc) pos) (extS i fe) :=
  weakS (ps_expr (pe_bm PySem.F.plainAttrs_list PySem.F.slot_list_extend PySem.F.type_list_extend mt_extend (pe_var (i := i) hN hv hd hcd) (pa_cons he pa_nil hse) hbase hfew hline hse hplain) hsw) fun D' σ H ⟨F0, H0, F, δ, S, h⟩ => by
    unfold extS at h
    split at h
    · rename_i ds e1
      obtain ⟨ov, q, p, vs, rfl, nF, hH, rv⟩ := S.loc.slot i _ e1
      refine ⟨.ref p, q, .inl ⟨rfl, vs, .of hH⟩, ?_⟩
      refine outE S h fun d v F1 H1 r1 S1 rd h1 => ?_
      obtain ⟨ov, q', p', vs', ev, nF', hH', rv'⟩ := S1.loc.slot i _ e1
      rw [q] at q'; cases q'; cases ev
      split at h1
      · rename_i es
        obtain ⟨b, zs, rfl, hb, rz⟩ := rd.lst_inv
        by_cases hl : ds.length + es.length ≤ line
        · rw [if_pos hl] at h1
          refine ⟨p, b, vs', zs, rfl, rfl, hH', S1.loc.sub _ _ hb, by rw [rv'.length, rz.length]; exact Nat.le_trans hl line_le, ?_⟩
          exact h1 σ F1 _ (.refl F1) (S1.turn e1 q (rv'.append rz))
        · rw [if_neg hl] at h1; exact h1.elim
      · exact h1.elim
    · exact h.elim
/-! ### while -/
theorem ds_while {bd : List Stmt} (n : Nat) (hp : PassesOwn (model X.prog X.w) X.A X.env X.xe) (hc : DT T X W c ft) (hb : DSs T X W bd f) : DS T X W (.While c bd [] pos) (whS ft f n) :=
  weakS (ps_while hp hc hb) fun D' σ H ⟨F0, H0, F, δ, S, h⟩ => by
    refine ⟨fun m σ H => ∃ F δ, StR X.K X.mg T F0 H0 F H σ δ ∧ PostS X.K X.mg T F0 H0 F W D' (whS ft f m δ), ⟨n, F, δ, S, h⟩, ?_⟩
    rintro m σ H ⟨F, δ, S, h⟩
    cases m with
    | zero => exact (show False from h).elim
    | succ m =>
      refine outT (D' := D') S (k := fun c => if c = true then (match f δ with
      | .nx δ' => whS ft f m δ'
      | .ct δ' => whS ft f m δ'
      | .bk δ' => .nx δ'
      | o => o) else .nx δ) h fun k F1 H1 r1 S1 h1 => ?_
      cases k with
      | false =>
        rw [if_neg Bool.false_ne_true] at h1 ⊢
        exact h1 σ F1 H1 (.refl F1) S1
      | true =>
        rw [if_pos rfl] at h1 ⊢
        refine ⟨fun σ' H' => ∃ F' δ', StR X.K X.mg T F0 H0 F' H' σ' δ' ∧ PostS X.K X.mg T F0 H0 F' W D' (whS ft f m δ'), fun σ' H' ⟨F', δ', S', h'⟩ => ⟨m, Nat.lt_succ_self m, F', δ', S', h'⟩, ?_⟩
        refine ⟨F0, H0, F1, δ, S1, ?_⟩
        cases e : f δ with
        | nx δ' => rw [e] at h1; exact fun σ' F' H' r S' => ⟨F', δ', S', h1.shift r⟩
        | ct δ' => rw [e] at h1; exact fun σ' F' H' r S' => ⟨F', δ', S', h1.shift r⟩
        | bk δ' => rw [e] at h1; exact h1
        | rt d => rw [e] at h1; exact h1
        | rs c => rw [e] at h1; exact h1
        | stuck => rw [e] at h1; exact h1
/-! ### what is walked -/
/-- the walk gives the items ds -/
def WalkD (K : PySem.W.Frag) (mg : Str → Option Value) (T : List (Addr × Str)) (J : It) (F : Hp) (ds : List D) : Prop :=
  ∀ (i : Nat) F' H', Rel F F' → Gd T F' H' → (∀ d, ds[i]? = some d → J.go i H' ∧ ∀ x H'', J.yld i H' x H'' → ∃ F'', Step T F' H' F'' H'' ∧ Rp K mg F'' x d) ∧ (ds.length ≤ i → J.stop i H')
def PostI (K : PySem.W.Frag) (mg : Str → Option Value) (T : List (Addr × Str)) (F H : Hp) (W : Wi) (R : It → Hp → Prop) : Res (List D) → Prop
  | .ok ds => ∀ J F' H', Step T F H F' H' → WalkD K mg T J F' ds → R J H'
  | .rs c => ∀ F' H', Step T F H F' H' → W c H'
  | .stuck => False
def tI (K : PySem.W.Frag) (mg : Str → Option Value) (T : List (Addr × Str)) (W : Wi) (f : Sto → Res (List D)) : TI := fun σ H R => ∃ F δ, Lcl K mg T F H σ δ ∧ PostI K mg T F H W R (f δ)
abbrev DI (T : List (Addr × Str)) (X : Cx) (W : Wi) (tg e : Expr) (f : Sto → Res (List D)) : Prop := PI X tg e (tI X.K X.mg T W f)
theorem weakI {X : Cx} {tg e : Expr} {t t' : TI} (h : PI X tg e t) (hw : ∀ σ H Q, t' σ H Q → t σ H Q) : PI X tg e t' := ⟨fun pins s σ H Q I q => h.run pins s σ H Q I (hw σ H Q q)⟩
/-- a target of a for -/
def gDr (K : PySem.W.Frag) (mg : Str → Option Value) (T : List (Addr × Str)) (g : D → Sto → Option Sto) : TG := fun v σ H Q => ∃ F0 H0 F δ d, StR K mg T F0 H0 F H σ δ ∧ Rp K mg F v d ∧ (match g d δ with
  | some δ' => ∀ σ' F' H', Rel F F' → StR K mg T F0 H0 F' H' σ' δ' → Q σ' H'
  | none => False)
abbrev DG (T : List (Addr × Str)) (X : Cx) (tg : Expr) (g : D → Sto → Option Sto) : Prop := PG X tg (gDr X.K X.mg T g)
theorem weakG {X : Cx} {tg : Expr} {t t' : TG} (h : PG X tg t) (hw : ∀ v σ H Q, t' v σ H Q → t v σ H Q) : PG X tg t' := ⟨fun pins s σ H v u Q I r q => h.run pins s σ H v u Q I r (hw v σ H Q q)⟩
theorem dg_name {x : Str} (i : Nat) (hN : X.N.Nodup) (hi : X.N[i]? = some x := by rfl) (hx : L2.Loc X.env.scope x := by first | exact Or.inl rfl | exact Or.inr rfl) (hf : X.fn x = true ∨ X.env.scope.names.lookup x = some .local := by first | exact .inl rfl | exact .inr rfl | assumption) : DG T X (.Name x pos) (tgN i) :=
  weakG (pg_name hN hi hx hf) fun v σ H Q ⟨F0, H0, F, δ, d, S, r, h⟩ => h _ F H (.refl F) (S.setVal r)
theorem dg_pair {x y : Str} {k : Nat} {p1 p2 : Pos} (i j : Nat) (hN : X.N.Nodup) (hc : X.calm = true) (hi : X.N[i]? = some x := by rfl) (hx : L2.Loc X.env.scope x := by first | exact Or.inl rfl | exact Or.inr rfl) (hj : X.N[j]? = some y := by rfl) (hy : L2.Loc X.env.scope y := by first | exact Or.inl rfl | exact Or.inr rfl)
    (hf : X.fn x = true ∨ X.env.scope.names.lookup x = some .local := by first | exact .inl rfl | exact .inr rfl | assumption) (hf2 : X.fn y = true ∨ X.env.scope.names.lookup y = some .local := by first | exact .inl rfl | exact .inr rfl | assumption)
    (hs : (assignEach ((.Name x p1) :: [.Name y p2]) X.env).map (·.2) = assign (.Name x p1) X.env :: (assignEach [.Name y p2] X.env).map (·.2) := by rfl) (hs2 : (assignEach ((.Name y p2) :: []) X.env).map (·.2) = assign (.Name y p2) X.env :: (assignEach [] X.env).map (·.2) := by rfl)
    (hn : (assignEach [.Name x p1, .Name y p2] X.env).length = 2 := by rfl) (hst : (assignEach [.Name x p1, .Name y p2] X.env).findIdx? (·.1) = none := by rfl) : DG T X (.Tuple [.Name x p1, .Name y p2] k pos) (tgP i j) :=
  weakG (pg_tup hc (pgs_cons (pg_name (i := i) hN hi hx hf) (pgs_cons (pg_name (i := j) hN hj hy hf2) pgs_nil hs2) hs) hn hst) fun v σ H Q ⟨F0, H0, F, δ, d, S, r, h⟩ => by
    unfold tgP at h
    split at h
    · rename_i a z
      split at z
      · cases z
        obtain ⟨p, vs, rfl, e1, q⟩ := r.tup_inv
        obtain ⟨v1, v2, rfl, r1, r2⟩ := q.two
        exact ⟨p, [v1, v2], rfl, .of (S.loc.sub _ _ e1), rfl, v1, [v2], rfl, v2, [], rfl, rfl, h _ F H (.refl F) ((S.setVal r1).setVal r2)⟩
      · cases z
    · exact h.elim
/-! ### for -/
theorem ds_for {tg iter : Expr} {bd : List Stmt} {fi : Sto → Res (List D)} {gt : D → Sto → Option Sto} (hp : PassesOwn (model X.prog X.w) X.A X.env X.xe) (hc : X.calm = true) (hi : DI T X W tg iter fi) (hg : DG T X tg gt) (hb : DSs T X W bd f)
    (hs : ∀ x, foldedSetIterable iter X.env x = pure x := by intro _; rfl) : DS T X W (.For tg iter bd [] pos) (forF fi gt f) :=
  weakS (ps_for hp hc hi hg hb hs) fun D' σ H ⟨F0, H0, F, δ, S, h⟩ => by
    refine ⟨F, δ, S.loc, ?_⟩
    unfold forF at h
    cases e : fi δ with
    | rs c => rw [e] at h; exact fun F' H' st => h F' H' (S.st.trans st)
    | stuck => rw [e] at h; exact h
    | ok ds =>
      rw [e] at h
      intro J F1 H1 st1 wk
      have S1 := S.step st1
      have h1 : PostS X.K X.mg T F0 H0 F1 W D' (forS gt f ds δ) := PostS.shift h st1.r
      refine ⟨fun i m σ H => m = ds.length - i ∧ i ≤ ds.length ∧ ∃ F δ, Rel F1 F ∧ StR X.K X.mg T F0 H0 F H σ δ ∧ PostS X.K X.mg T F0 H0 F W D' (forS gt f (ds.drop i) δ), ⟨ds.length, by simp, Nat.zero_le _, F1, δ, .refl F1, S1, h1⟩, ?_⟩
      rintro i m σ H ⟨rfl, hi, F, δ, rel, S, h⟩
      by_cases hlt : i < ds.length
      · have ed : ds[i]? = some ds[i] := List.getElem?_eq_getElem hlt
        obtain ⟨go, yl⟩ := (wk i F H rel S.loc.gd).1 ds[i] ed
        rw [List.drop_eq_getElem_cons hlt] at h
        refine .inr ⟨go, fun σ' H' => ∃ F' δ', Rel F1 F' ∧ StR X.K X.mg T F0 H0 F' H' σ' δ' ∧ PostS X.K X.mg T F0 H0 F' W D' (forS gt f (ds.drop (i + 1)) δ'), fun σ' H' ⟨F', δ', r', S', h'⟩ => ⟨ds.length - (i + 1), by omega, rfl, hlt, F', δ', r', S', h'⟩, fun x H' y => ?_⟩
        obtain ⟨F2, st2, rx⟩ := yl x H' y
        refine ⟨F0, H0, F2, δ, ds[i], S.step st2, rx, ?_⟩
        have h2 : PostS X.K X.mg T F0 H0 F2 W D' (forS gt f (ds[i] :: ds.drop (i + 1)) δ) := h.shift st2.r
        unfold forS at h2
        cases eg : gt ds[i] δ with
        | none => rw [eg] at h2; exact h2
        | some δ2 =>
          rw [eg] at h2
          intro σ3 F3 H3 r3 S3
          refine ⟨F0, H0, F3, δ2, S3, ?_⟩
          have h3 := PostS.shift h2 r3
          dsimp only at h3
          have rel3 := (rel.trans st2.r).trans r3
          cases eb : f δ2 with
          | nx δ' => rw [eb] at h3; exact fun σ' F' H' r S' => ⟨F', δ', rel3.trans r, S', h3.shift r⟩
          | ct δ' => rw [eb] at h3; exact fun σ' F' H' r S' => ⟨F', δ', rel3.trans r, S', h3.shift r⟩
          | bk δ' => rw [eb] at h3; exact h3
          | rt d => rw [eb] at h3; exact h3
          | rs c => rw [eb] at h3; exact h3
          | stuck => rw [eb] at h3; exact h3
      · have e : i = ds.length := by omega
        subst e
        rw [List.drop_length] at h
        exact .inl ⟨(wk _ F H rel S.loc.gd).2 (Nat.le_refl _), h σ F H (.refl F) S⟩
end
end Dn


set_option Elab.async false
set_option linter.all false
set_option maxRecDepth 100000
set_option maxHeartbeats 4000000
namespace Dn
open PySem PySem.Spec PyProof.Rows L2
/-! ### what is walked, by its data -/
def asSeq : D → Res (List D)
  | .lst ds => .ok ds
  | .tup ds => .ok ds
  | .str l => .ok (l.map fun c => .str [c])
  | _ => .stuck
def itS (f : Sto → Res D) : Sto → Res (List D) := fun δ => (f δ).bind asSeq
def upTo (lo : Int) (n : Nat) : List D := (List.range n).map fun (k : Nat) => .int (lo + (k : Int))
def okI (j : Int) : Prop := -(2 ^ 60) ≤ j ∧ j ≤ 2 ^ 60
instance (j : Int) : Decidable (okI j) := by unfold okI; exact inferInstance
def asRng1 : List D → Res (List D)
  | [.int j] => if okI j then .ok (upTo 0 j.toNat) else .stuck
  | _ => .stuck
def asRng2 : List D → Res (List D)
  | [.int i, .int j] => if okI i ∧ okI j then .ok (upTo i (j - i).toNat) else .stuck
  | _ => .stuck
def asRng3 : List D → Res (List D)
  | [.int i, .int j, .int c] => if okI i ∧ okI j ∧ 0 < c ∧ c < 1000000 then .ok ((List.range (Builtin.Range.rangeSize i j c).toNat).map fun (k : Nat) => .int (i + (k : Int) * c)) else .stuck
  | _ => .stuck
def rngA (g : List D → Res (List D)) (fa : Sto → Res (List D)) : Sto → Res (List D) := fun δ => (fa δ).bind g
section
variable {T : List (Addr × Str)} {X : Cx} {W : Wi} {K : PySem.W.Frag} {mg : Str → Option Value} {tg e : Expr} {fe : Sto → Res D}
theorem PI.or {wi wj : TI} (h : PI X tg e wi) (k : PI X tg e wj) : PI X tg e (fun σ H R => wi σ H R ∨ wj σ H R) := ⟨fun pins s σ H R I q => q.elim (h.run pins s σ H R I) (k.run pins s σ H R I)⟩
theorem walk_l {F : Hp} {a : Addr} {vs : List V} {ds : List D} (h : F a = some (.lst vs)) (r : RpL K mg F vs ds) : WalkD K mg T (Itl K a) F ds := by
  intro i F' H' rel gd
  have hq : SqL K H' a vs := .of (gd.sub _ _ (rel.lst h))
  refine ⟨fun d ed => ?_, fun hl => ⟨vs, hq, by rw [r.length]; exact hl⟩⟩
  obtain ⟨v, ev, rv⟩ := r.get1 ed
  refine ⟨⟨vs, v, hq, ev⟩, fun x H'' y => ?_⟩
  obtain ⟨rfl, y⟩ := y
  have ex := y vs hq
  rw [ev] at ex; cases ex
  exact ⟨F', .refl gd, rv.mono rel⟩
theorem walk_t {F : Hp} {a : Addr} {vs : List V} {ds : List D} (h : F a = some (.tup vs)) (r : RpL K mg F vs ds) : WalkD K mg T (Itt K a) F ds := by
  intro i F' H' rel gd
  have hq : SqT K H' a vs := .of (gd.sub _ _ (rel.tup h))
  refine ⟨fun d ed => ?_, fun hl => ⟨vs, hq, by rw [r.length]; exact hl⟩⟩
  obtain ⟨v, ev, rv⟩ := r.get1 ed
  refine ⟨⟨vs, v, hq, ev⟩, fun x H'' y => ?_⟩
  obtain ⟨rfl, y⟩ := y
  have ex := y vs hq
  rw [ev] at ex; cases ex
  exact ⟨F', .refl gd, rv.mono rel⟩
theorem walk_s {F : Hp} {z : Str} {l : List Nat} (h : TL.tl z = l) : WalkD K mg T (Its z) F (l.map fun c => .str [c]) := by
  subst h
  intro i F' H' rel gd
  have hz : z.cps.size = (TL.tl z).length := by simp [TL.tl]
  refine ⟨fun d ed => ?_, fun hl => by show z.cps.size ≤ i; rw [hz]; simpa using hl⟩
  rw [List.getElem?_map] at ed
  cases q : (TL.tl z)[i]? with
  | none => rw [q] at ed; cases ed
  | some c =>
    rw [q] at ed
    cases ed
    refine ⟨by show i < z.cps.size; rw [hz]; exact (List.getElem?_eq_some_iff.mp q).1, fun x H'' y => ?_⟩
    obtain ⟨rfl, c', e1, rfl⟩ := y
    have : c' = c := by
      have e2 : (TL.tl z)[i]? = some c' := by simpa [TL.tl] using e1
      rw [q] at e2; cases e2; rfl
    subst this
    exact ⟨F', .refl gd, .str rfl⟩
theorem walk_r {F : Hp} {lo : Int} {n : Nat} : WalkD K mg T (Itr lo n) F (upTo lo n) := by
  intro i F' H' rel gd
  have hl : (upTo lo n).length = n := by simp [upTo]
  refine ⟨fun d ed => ?_, fun h => by rw [hl] at h; exact h⟩
  have hi : i < n := by rw [← hl]; exact (List.getElem?_eq_some_iff.mp ed).1
  have e1 : (upTo lo n)[i]? = some (.int (lo + (i : Int))) := by simp [upTo, hi]
  rw [e1] at ed; cases ed
  refine ⟨hi, fun x H'' y => ?_⟩
  obtain ⟨rfl, rfl⟩ := y
  exact ⟨F', .refl gd, .int _⟩
theorem walk_c {F : Hp} {lo c : Int} {n : Nat} : WalkD K mg T (Itc lo c n) F ((List.range n).map fun (k : Nat) => .int (lo + (k : Int) * c)) := by
  intro i F' H' rel gd
  have hl : ((List.range n).map fun (k : Nat) => D.int (lo + (k : Int) * c)).length = n := by simp
  refine ⟨fun d ed => ?_, fun h => by rw [hl] at h; exact h⟩
  have hi : i < n := by rw [← hl]; exact (List.getElem?_eq_some_iff.mp ed).1
  have e1 : ((List.range n).map fun (k : Nat) => D.int (lo + (k : Int) * c))[i]? = some (.int (lo + (i : Int) * c)) := by simp [hi]
  rw [e1] at ed; cases ed
  refine ⟨hi, fun x H'' y => ?_⟩
  obtain ⟨rfl, rfl⟩ := y
  exact ⟨F', .refl gd, .int _⟩
theorem ppI {R : It → Hp → Prop} : PP T W (fun F H r => PostI K mg T F H W R r) := ⟨fun _ _ h => h, fun _ _ _ h => h, fun _ _ _ _ r _ st h => by
  cases r with
  | ok d => exact fun J F2 H2 s2 => h J F2 H2 (st.trans s2)
  | rs c => exact fun F2 H2 s2 => h F2 H2 (st.trans s2)
  | stuck => exact h⟩
/-- a list, a tuple, a text -/
theorem di_seq (he : DE T X W e fe) : DI T X W tg e (itS fe) :=
  weakI (PI.or (PI.or (pi_list he) (pi_tup he)) (pi_str he)) fun σ H R ⟨F, δ, L, h⟩ => by
    unfold itS at h
    cases ef : fe δ with
    | stuck => rw [ef] at h; exact (show False from h).elim
    | rs c => rw [ef] at h; exact .inr ⟨F, δ, L, by rw [ef]; exact h⟩
    | ok d =>
      rw [ef] at h
      cases d with
      | lst ds =>
        refine .inl (.inl ⟨F, δ, L, ?_⟩)
        rw [ef]
        intro v F1 H1 s1 r1
        obtain ⟨p, us, rfl, e1, q⟩ := r1.lst_inv
        exact ⟨p, rfl, ⟨us, .of (s1.sub _ _ e1)⟩, h _ F1 H1 s1 (walk_l e1 q)⟩
      | tup ds =>
        refine .inl (.inr ⟨F, δ, L, ?_⟩)
        rw [ef]
        intro v F1 H1 s1 r1
        obtain ⟨p, us, rfl, e1, q⟩ := r1.tup_inv
        exact ⟨p, rfl, ⟨us, .of (s1.sub _ _ e1)⟩, h _ F1 H1 s1 (walk_t e1 q)⟩
      | str l =>
        refine .inr ⟨F, δ, L, ?_⟩
        rw [ef]
        intro v F1 H1 s1 r1
        cases r1 with
        | str e1 => exact ⟨_, rfl, h _ F1 H1 s1 (walk_s e1)⟩
      | _ => exact (show False from h).elim
variable {a b c : Expr} {fa : Sto → Res (List D)} {p pos : Pos}
theorem di_range1 (hm : X.mg "range" = none) (ha : DA T X W [a] fa) (hg : Gl X "range" := by rfl) (hs : starEach [a] X.env = [(false, eval a X.env)] := by rfl) : DI T X W tg (.Call (.Name "range" p) [a] [] pos) (rngA asRng1 fa) :=
  weakI (pi_range1 hg hm ha hs) fun σ H R ⟨F, δ, L, h⟩ => bindA ppI L h fun ds vs F1 H1 s1 L1 r1 h1 => by
    unfold asRng1 at h1
    split at h1
    · rename_i j
      split at h1
      · rename_i hj
        unfold okI at hj
        obtain ⟨v, rfl, rv⟩ := r1.one
        cases rv
        exact ⟨j, rfl, by omega, by omega, h1 _ F1 H1 L1.refl walk_r⟩
      · exact h1.elim
    · exact h1.elim
theorem di_range2 (hm : X.mg "range" = none) (ha : DA T X W [a, b] fa) (hg : Gl X "range" := by rfl) (hs : starEach [a, b] X.env = [(false, eval a X.env), (false, eval b X.env)] := by rfl) (hs2 : starEach [b] X.env = [(false, eval b X.env)] := by rfl) : DI T X W tg (.Call (.Name "range" p) [a, b] [] pos) (rngA asRng2 fa) :=
  weakI (pi_range2 hg hm ha hs hs2) fun σ H R ⟨F, δ, L, h⟩ => bindA ppI L h fun ds vs F1 H1 s1 L1 r1 h1 => by
    unfold asRng2 at h1
    split at h1
    · rename_i i j
      split at h1
      · rename_i hj
        unfold okI at hj
        obtain ⟨v, u, rfl, rv, ru⟩ := r1.two
        cases rv; cases ru
        exact ⟨i, j, rfl, ⟨by omega, by omega, by omega, by omega⟩, h1 _ F1 H1 L1.refl walk_r⟩
      · exact h1.elim
    · exact h1.elim
theorem RpL.three {F : Hp} {vs : List V} {d e f : D} (r : RpL K mg F vs [d, e, f]) : ∃ v u w, vs = [v, u, w] ∧ Rp K mg F v d ∧ Rp K mg F u e ∧ Rp K mg F w f := by
  cases r with
  | cons r t =>
    obtain ⟨u, w, rfl, q1, q2⟩ := RpL.two t
    exact ⟨_, _, _, rfl, r, q1, q2⟩
theorem rg_up {i j c : Int} (hi : okI i) (hj : okI j) (h0 : 0 < c) (h1 : c < 1000000) : RgC i j c (Builtin.Range.rangeSize i j c).toNat := by
  unfold okI at hi hj
  have hsz : 0 ≤ Builtin.Range.rangeSize i j c ∧ Builtin.Range.rangeSize i j c ≤ 2 ^ 62 := by
    unfold Builtin.Range.rangeSize
    rw [if_pos h0]
    split
    · have q1 : 0 ≤ (j - i - 1) / c := Int.ediv_nonneg (by omega) (by omega)
      have q2 : (j - i - 1) / c ≤ j - i - 1 := Int.ediv_le_self _ (by omega)
      omega
    · omega
  refine ⟨by omega, by omega, ?_, by omega⟩
  have fl : ∀ z : Int, -(2 ^ 62) ≤ z → z ≤ 2 ^ 62 → Builtin.Range.rangeFitsLong z = true := fun z h1 h2 => by
    unfold Builtin.Range.rangeFitsLong
    simp only [Bool.and_eq_true, decide_eq_true_eq]
    omega
  unfold Builtin.Range.small
  rw [fl i (by omega) (by omega), fl j (by omega) (by omega), fl c (by omega) (by omega), fl _ (by omega) hsz.2, if_pos h0, fl (j + (c - 1)) (by omega) (by omega), Bool.or_true]
  rfl
theorem di_range3 (hm : X.mg "range" = none) (ha : DA T X W [a, b, c] fa) (hg : Gl X "range" := by rfl) (hs : starEach [a, b, c] X.env = (false, eval a X.env) :: starEach [b, c] X.env := by rfl) (hs2 : (backTo pos (starEach [b, c] X.env)).any (·.1) = false := by rfl) : DI T X W tg (.Call (.Name "range" p) [a, b, c] [] pos) (rngA asRng3 fa) :=
  weakI (pi_range3 hg hm ha hs hs2) fun σ H R ⟨F, δ, L, h⟩ => bindA ppI L h fun ds vs F1 H1 s1 L1 r1 h1 => by
    unfold asRng3 at h1
    split at h1
    · rename_i i j c
      split at h1
      · rename_i hj
        obtain ⟨v, u, w, rfl, rv, ru, rw'⟩ := r1.three
        cases rv; cases ru; cases rw'
        exact ⟨i, j, c, _, rfl, rg_up hj.1 hj.2.1 hj.2.2.1 hj.2.2.2, h1 _ F1 H1 L1.refl walk_c⟩
      · exact h1.elim
    · exact h1.elim
end
/-! ### comprehensions -/
def wipeS (δ : Sto) : List Nat → Sto
  | [] => δ
  | v :: vs => (wipeS δ vs).set v .no
def lcS (gt : D → Sto → Option Sto) (vs : List Nat) (ft : Sto → Res Bool) (fe : Sto → Res D) : List D → Sto → Res (List D)
  | [], _ => .ok []
  | x :: xs, δ => match gt x (wipeS δ vs) with
    | none => .stuck
    | some δ1 => match ft δ1 with
      | .ok true => (match fe δ1 with
        | .ok y => (lcS gt vs ft fe xs δ).bind fun ys => .ok (y :: ys)
        | _ => .stuck)
      | .ok false => lcS gt vs ft fe xs δ
      | _ => .stuck
def lcF (fi : Sto → Res (List D)) (gt : D → Sto → Option Sto) (vs : List Nat) (ft : Sto → Res Bool) (fe : Sto → Res D) : Sto → Res (List D) := fun δ => (fi δ).bind fun ds => if ds.length ≤ line then lcS gt vs ft fe ds δ else .stuck
def yes : Sto → Res Bool := fun _ => .ok true
section
variable {T : List (Addr × Str)} {X : Cx} {W : Wi} {K : PySem.W.Frag} {mg : Str → Option Value}
theorem Lcl.wipe {F H : Hp} {σ : L2.St} {δ : Sto} (L : Lcl K mg T F H σ δ) : ∀ vs : List Nat, Lcl K mg T F H (L2.wipe σ vs) (wipeS δ vs)
  | [] => L
  | v :: vs => (L.wipe vs).set (fun _ => trivial) fun z => by cases z
/-- a comprehension's target, by slots -/
def TgOk (K : PySem.W.Frag) (mg : Str → Option Value) (T : List (Addr × Str)) (g : TG) (gt : D → Sto → Option Sto) (vs : List Nat) : Prop :=
  ∀ F H σ δ v d δ', Lcl K mg T F H (L2.wipe σ vs) (wipeS δ vs) → Rp K mg F v d → gt d (wipeS δ vs) = some δ' → ∀ Q : L2.St → Hp → Prop, (∀ σ2, L2.wipe σ2 vs = L2.wipe σ vs → Lcl K mg T F H σ2 δ' → Q σ2 H) → g v (L2.wipe σ vs) H Q
theorem Lcl.setVal {F H : Hp} {σ : L2.St} {δ : Sto} (L : Lcl K mg T F H σ δ) {i : Nat} {v : V} {d : D} (r : Rp K mg F v d) : Lcl K mg T F H (σ.set i (some v)) (δ.set i (.val d)) := L.set (fun _ => ⟨v, rfl, r⟩) fun z => by cases z
theorem tgok_name (j : Nat) : TgOk K mg T (gName j) (tgN j) [j] := by
  intro F H σ δ v d δ' L r e Q h
  cases e
  refine h _ ?_ (L.set (fun _ => ⟨v, rfl, r⟩) fun z => by cases z)
  show ((σ.set j none).set j (some v)).set j none = σ.set j none
  rw [List.set_set, List.set_set]
theorem tgok_pair {i j : Nat} (hij : i ≠ j) : TgOk K mg T (gTup K 2 (gCons (gName i) (gCons (gName j) gNil))) (tgP i j) [i, j] := by
  intro F H σ δ v d δ' L r e Q h
  unfold tgP at e
  split at e
  · cases e
    obtain ⟨p, vs, rfl, e1, q⟩ := r.tup_inv
    obtain ⟨v1, v2, rfl, r1, r2⟩ := q.two
    refine ⟨p, [v1, v2], rfl, .of (L.sub _ _ e1), rfl, v1, [v2], rfl, v2, [], rfl, rfl, h _ ?_ ((L.setVal r1).setVal r2)⟩
    show (((((σ.set j none).set i none).set i (some v1)).set j (some v2)).set j none).set i none = (σ.set j none).set i none
    rw [List.set_set, List.set_set, List.set_comm _ _ (Ne.symm hij), List.set_set, List.set_comm _ _ hij, List.set_set]
  · cases e
theorem lc_read {g : TG} {vs : List Nat} {fi : Sto → Res (List D)} {gt : D → Sto → Option Sto} {ft : Sto → Res Bool} {fe : Sto → Res D} (hg : TgOk K mg T g gt vs) {σ : L2.St} {H : Hp} {Q : VK} (h : tDL K mg T W (lcF fi gt vs ft fe) σ H Q) :
    tLc (tI K mg T W fi) g (tDT K mg T WF ft) (tD K mg T WF fe) vs σ H Q := by
  obtain ⟨F, δ, L, h⟩ := h
  refine ⟨F, δ, L, ?_⟩
  unfold lcF at h
  cases ei : fi δ with
  | rs c => rw [ei] at h; exact h
  | stuck => rw [ei] at h; exact h
  | ok ds =>
    rw [ei, bind_ok] at h
    by_cases hz : ds.length ≤ line
    · rw [if_pos hz] at h
      intro J F1 H1 st1 wk Dl hD
      cases el : lcS gt vs ft fe ds δ with
      | rs c =>
        exfalso
        have no : ∀ xs : List D, lcS gt vs ft fe xs δ ≠ .rs c := by
          intro xs
          induction xs with
          | nil => intro z; cases z
          | cons x xs ih =>
            intro z
            unfold lcS at z
            split at z
            · cases z
            · split at z
              · split at z
                · cases eb : lcS gt vs ft fe xs δ with
                  | ok ys => rw [eb] at z; cases z
                  | rs c' => rw [eb] at z ih; cases z; exact ih rfl
                  | stuck => rw [eb] at z; cases z
                · cases z
              · exact ih z
              · cases z
        exact no ds el
      | stuck => rw [el] at h; exact (show False from h).elim
      | ok tot =>
        rw [el] at h
        have hF1 : F1 Dl = none := st1.sub.none hD
        refine ⟨fun i m H' => m = ds.length - i ∧ i ≤ ds.length ∧ ∃ F' acc ys zs, Step T F1 H1 F' H' ∧ F' Dl = none ∧ H' Dl = some (.lst acc) ∧ RpL K mg F' acc ys ∧ acc.length ≤ i ∧ lcS gt vs ft fe (ds.drop i) δ = .ok zs ∧ tot = ys ++ zs,
          ⟨ds.length, by simp, Nat.zero_le _, F1, [], [], tot, Step.junk st1.gd hD, hF1, upd_same, .nil, Nat.zero_le _, el, rfl⟩, ?_⟩
        rintro i m H' ⟨rfl, hi, F', acc, ys, zs, st, nD, eD, rv, hacc, ez, et⟩
        by_cases hlt : i < ds.length
        · have ed : ds[i]? = some ds[i] := List.getElem?_eq_getElem hlt
          obtain ⟨go, yl⟩ := (wk i F' H' st.r st.gd).1 ds[i] ed
          rw [List.drop_eq_getElem_cons hlt] at ez
          refine .inr ⟨go, fun H2 => ∃ F' acc ys zs, Step T F1 H1 F' H2 ∧ F' Dl = none ∧ H2 Dl = some (.lst acc) ∧ RpL K mg F' acc ys ∧ acc.length ≤ i + 1 ∧ lcS gt vs ft fe (ds.drop (i + 1)) δ = .ok zs ∧ tot = ys ++ zs, fun H2 q => ⟨ds.length - (i + 1), by omega, rfl, hlt, q⟩, fun x H2 y => ?_⟩
          obtain ⟨F2, st2, rx⟩ := yl x H2 y
          have L2' : Lcl K mg T F2 H2 (L2.wipe σ vs) (wipeS δ vs) := (L.step (st1.trans (st.trans st2))).wipe vs
          unfold lcS at ez
          cases eg : gt ds[i] (wipeS δ vs) with
          | none => rw [eg] at ez; try dsimp only at ez; cases ez
          | some δ1 =>
            rw [eg] at ez; try dsimp only at ez
            refine hg F2 H2 σ δ x ds[i] δ1 L2' rx eg _ fun σ2 hw L3 => ⟨hw, F2, δ1, L3, ?_⟩
            have keep : ∀ {F3 H3 : Hp}, Step T F2 H2 F3 H3 → F3 Dl = none ∧ H3 Dl = some (.lst acc) ∧ Step T F1 H1 F3 H3 := fun {F3 H3} s3 => by
              have s23 := st2.trans s3
              exact ⟨(s23.off Dl _ nD eD (.inr (.inl fun _ z => by cases z))).1, s23.fr Dl _ nD eD (.inr fun _ z => by cases z), st.trans s23⟩
            cases eft : ft δ1 with
            | rs c => rw [eft] at ez; try dsimp only at ez; cases ez
            | stuck => rw [eft] at ez; try dsimp only at ez; cases ez
            | ok k =>
              rw [eft] at ez; try dsimp only at ez
              intro F3 H3 s3
              cases k with
              | false =>
                dsimp only at ez
                rw [if_neg Bool.false_ne_true]
                obtain ⟨k1, k2, k3⟩ := keep s3
                exact ⟨F3, acc, ys, zs, k3, k1, k2, rv.mono (st2.trans s3).r, Nat.le_succ_of_le hacc, ez, et⟩
              | true =>
                dsimp only at ez
                rw [if_pos rfl]
                refine ⟨F3, δ1, L3.step s3, ?_⟩
                cases efe : fe δ1 with
                | rs c => rw [efe] at ez; try dsimp only at ez; cases ez
                | stuck => rw [efe] at ez; try dsimp only at ez; cases ez
                | ok d =>
                  rw [efe] at ez; try dsimp only at ez
                  intro v F4 H4 s4 rv4
                  obtain ⟨k1, k2, k3⟩ := keep (s3.trans s4)
                  cases eb : lcS gt vs ft fe (ds.drop (i + 1)) δ with
                  | rs c => rw [eb] at ez; cases ez
                  | stuck => rw [eb] at ez; cases ez
                  | ok zs' =>
                    rw [eb] at ez
                    cases ez
                    refine ⟨acc, k2, Nat.lt_of_lt_of_le (Nat.lt_of_le_of_lt hacc (Nat.lt_of_lt_of_le hlt hz)) line_le, F4, acc ++ [v], ys ++ [d], zs', ?_, k1, upd_same, ?_, ?_, rfl, ?_⟩
                    · exact k3.turn (.of hD) k1 (fun ps z => by rw [k2] at z; cases z) (fun φ z => by rw [k2] at z; cases z)
                    · exact (rv.mono (st2.trans (s3.trans s4)).r).append (.cons rv4 .nil)
                    · rw [List.length_append]; exact Nat.add_le_add_right hacc 1
                    · rw [et, List.append_assoc]; rfl
        · have e : i = ds.length := by omega
          subst e
          rw [List.drop_length] at ez
          cases ez
          rw [List.append_nil] at et
          subst et
          exact .inl ⟨(wk _ F' H' st.r st.gd).2 (Nat.le_refl _), h Dl acc F' H' (st1.back L.sub (.of hD)) (st1.trans st) nD eD rv⟩
    · rw [if_neg hz] at h; exact h.elim
variable {elt tg iter : Expr} {ifs : List Expr} {scope : Scope} {own : List (Str × Nat)} {pos : Pos} {g : TG} {fi : Sto → Res (List D)} {gt : D → Sto → Option Sto} {vs : List Nat} {ft : Sto → Res Bool} {fe : Sto → Res D}
/-- a clause's tests -/
abbrev DTs (T : List (Addr × Str)) (X : Cx) (ifs : List Expr) (f : Sto → Res Bool) : Prop := PTs X ifs (tDT X.K X.mg T WF f)
theorem dts_nil : DTs T X [] yes := ⟨fun pins s σ H Q I ⟨F, δ, L, h⟩ => pts_nil.run pins s σ H Q I (h F H L.refl)⟩
theorem dts_one {c : Expr} (h : DT T X WF c ft) : DTs T X [c] ft := pts_one h
theorem dl_lc (hc : X.calm = true) (hN : X.N.Nodup) (hi : DI T X W tg iter fi) (ok : BlkOk X.N X.env.scope scope own) (tgk : TgOk X.K X.mg T g gt (own.map (·.2)))
    (hg : ∀ (s : Shared) (H : Hp) (C : Addr) (cl : List (Str × Addr)) (fp : List Addr), PG (X.blk s H scope (compEnvC scope cl C X.env) fp) tg g) (ht : ∀ (s : Shared) (H : Hp) (C : Addr) (cl : List (Str × Addr)) (fp : List Addr), DTs T (X.blk s H scope (compEnvC scope cl C X.env) fp) ifs ft)
    (he : ∀ (s : Shared) (H : Hp) (C : Addr) (cl : List (Str × Addr)) (fp : List Addr), DE T (X.blk s H scope (compEnvC scope cl C X.env) fp) WF elt fe) (hs : ∀ x, foldedSetIterable iter X.env x = pure x := by intro _; rfl) :
    DL T X W (.ListComp elt [⟨tg, iter, ifs, 0⟩] scope pos) (lcF fi gt (own.map (·.2)) ft fe) :=
  weakE (pe_lc (te := tD X.K X.mg T WF fe) (tt := tDT X.K X.mg T WF ft) hc hN hi ok hg ht he hs) fun σ H Q h => lc_read tgk h
theorem lst_read {fr : Sto → Res (List D)} {σ : L2.St} {H : Hp} {Q : VK} (h : tD K mg T W (lstE fr) σ H Q) : tDL K mg T W fr σ H Q := by
  obtain ⟨F, δ, L, h⟩ := h
  refine ⟨F, δ, L, ?_⟩
  unfold lstE at h
  cases e1 : fr δ with
  | ok ds =>
    rw [e1] at h
    intro p vs F' H' hp st hF hH rv
    have st' := st.freeze hp hF hH
    exact h _ _ _ st' (RpL.lst upd_same (rv.mono (fun a o q => ⟨o, by rw [upd_ne (ne_of_none q hF)]; exact q, .refl o⟩)))
  | rs c => rw [e1] at h; exact h
  | stuck => rw [e1] at h; exact h
/-- x = [..], x a local: read from now on -/
theorem ds_setLc {x : Str} {py spos : Pos} (i : Nat) (hc : X.calm = true) (hN : X.N.Nodup) (hi : DI T X W tg iter fi) (ok : BlkOk X.N X.env.scope scope own) (tgk : TgOk X.K X.mg T g gt (own.map (·.2)))
    (hg : ∀ (s : Shared) (H : Hp) (C : Addr) (cl : List (Str × Addr)) (fp : List Addr), PG (X.blk s H scope (compEnvC scope cl C X.env) fp) tg g) (ht : ∀ (s : Shared) (H : Hp) (C : Addr) (cl : List (Str × Addr)) (fp : List Addr), DTs T (X.blk s H scope (compEnvC scope cl C X.env) fp) ifs ft)
    (he : ∀ (s : Shared) (H : Hp) (C : Addr) (cl : List (Str × Addr)) (fp : List Addr), DE T (X.blk s H scope (compEnvC scope cl C X.env) fp) WF elt fe)
    (hsw : swapsWith (.ListComp elt [⟨tg, iter, ifs, 0⟩] scope pos) (some (.Name x py)) spos.line X.env = pure true) (hy : X.N[i]? = some x := by rfl) (hyl : X.env.scope.names.lookup x = some .local := by rfl) (hs : ∀ x, foldedSetIterable iter X.env x = pure x := by intro _; rfl) :
    DS T X W (.Assign [.Name x py] (.ListComp elt [⟨tg, iter, ifs, 0⟩] scope pos) spos) (asg i (lstE (lcF fi gt (own.map (·.2)) ft fe))) :=
  weakS (ps_setLc (te := tD X.K X.mg T WF fe) (tt := tDT X.K X.mg T WF ft) hc hN hy hyl hsw hi ok hg ht he hs) fun D' σ H ⟨F0, H0, F, δ, S, h⟩ => lc_read tgk (lst_read (outE S h fun d v F1 H1 r1 S1 rv h1 => h1 _ F1 H1 (.refl F1) (S1.setVal rv)))
/-- x = [..], x a local, a list of one's own -/
theorem ds_setLcN {x : Str} {py spos : Pos} (i : Nat) (hc : X.calm = true) (hN : X.N.Nodup) (hi : DI T X W tg iter fi) (ok : BlkOk X.N X.env.scope scope own) (tgk : TgOk X.K X.mg T g gt (own.map (·.2)))
    (hg : ∀ (s : Shared) (H : Hp) (C : Addr) (cl : List (Str × Addr)) (fp : List Addr), PG (X.blk s H scope (compEnvC scope cl C X.env) fp) tg g) (ht : ∀ (s : Shared) (H : Hp) (C : Addr) (cl : List (Str × Addr)) (fp : List Addr), DTs T (X.blk s H scope (compEnvC scope cl C X.env) fp) ifs ft)
    (he : ∀ (s : Shared) (H : Hp) (C : Addr) (cl : List (Str × Addr)) (fp : List Addr), DE T (X.blk s H scope (compEnvC scope cl C X.env) fp) WF elt fe)
    (hsw : swapsWith (.ListComp elt [⟨tg, iter, ifs, 0⟩] scope pos) (some (.Name x py)) spos.line X.env = pure true) (hy : X.N[i]? = some x := by rfl) (hyl : X.env.scope.names.lookup x = some .local := by rfl) (hs : ∀ x, foldedSetIterable iter X.env x = pure x := by intro _; rfl) :
    DS T X W (.Assign [.Name x py] (.ListComp elt [⟨tg, iter, ifs, 0⟩] scope pos) spos) (asgN i (lcF fi gt (own.map (·.2)) ft fe)) :=
  weakS (ps_setLc (te := tD X.K X.mg T WF fe) (tt := tDT X.K X.mg T WF ft) hc hN hy hyl hsw hi ok hg ht he hs) fun D' σ H ⟨F0, H0, F, δ, S, h⟩ => lc_read tgk (outL S h fun ds p vs F1 H1 hp r1 S1 hF hH rv h1 => h1 _ F1 H1 (.refl F1) (S1.set (fun _ => ⟨p, vs, rfl, hF, hH, rv⟩) (fun _ j s' a hj e1 o1 q1 q2 => by cases q1; exact S.loc.ne hp e1 o1 q2 rfl)
    (fun _ a q => by cases q; exact ⟨S.st.back S.sub0 hp, fun C dx gs z => by rw [hH] at z; cases z⟩)))
end
/-! ### defs -/
section
variable {T : List (Addr × Str)} {X : Cx} {W : Wi} {K : PySem.W.Frag} {mg : Str → Option Value}
def PostF (K : PySem.W.Frag) (mg : Str → Option Value) (F H : Hp) (Q : VK) (E : XK) : Res D → Prop
  | .ok d => ∀ v F' H', Step [] F H F' H' → Rp K mg F' v d → Q v H'
  | .rs c => ∀ F' H', Step [] F H F' H' → E (clsOf mg c) none H'
  | .stuck => False
/-- the promise: it does what the pure function tells -/
def spD (K : PySem.W.Frag) (mg : Str → Option Value) (f : List D → Res D) : Sp := fun vs H Q E => ∃ F ds, Gd [] F H ∧ RpL K mg F vs ds ∧ PostF K mg F H Q E (f ds)
/-- a def of n parameters and m other names, by its body -/
def runF (n m : Nat) (b : Sto → Out) (ds : List D) : Res D := if ds.length = n then (match b (ds.map Slot.val ++ List.replicate m .no) with
  | .nx _ => .ok .non
  | .rt d => .ok d
  | .rs c => .rs c
  | _ => .stuck) else .stuck
theorem start_slots {N : List Str} {vs : List V} {ds : List D} {F H : Hp} (r : RpL K mg F vs ds) (gd : Gd [] F H) {n m : Nat} (hn : ds.length = n) (hN : N.length = n + m) : StR K mg [] F (H, 0) F H (L2.start N vs) (ds.map Slot.val ++ List.replicate m .no) := by
  have hl := r.length
  have hm : N.length - vs.length = m := by omega
  have no : ∀ (i : Nat) s, (ds.map Slot.val ++ List.replicate m .no)[i]? = some s → s.owned = true → False := fun i s e o => by
    by_cases hi : i < (ds.map Slot.val).length
    · rw [List.getElem?_append_left hi, List.getElem?_map] at e
      cases q : ds[i]? with
      | none => rw [q] at e; cases e
      | some d => rw [q] at e; cases e; cases o
    · rw [List.getElem?_append_right (by omega)] at e
      have := (List.mem_replicate.mp (List.mem_of_getElem? e)).2
      rw [this] at o; cases o
  refine ⟨gd.sub, .refl gd, ⟨gd, ?_, fun i s e => ?_, fun i j s s' a _ e _ o _ _ _ => no i s e o⟩, fun i s a e o _ => (no i s e o).elim⟩
  · unfold L2.start
    rw [hm]
    simp [hl]
  · unfold L2.start
    rw [hm]
    by_cases hi : i < ds.length
    · rw [List.getElem?_append_left (by simpa using hi), List.getElem?_map, List.getElem?_eq_getElem hi] at e
      cases e
      obtain ⟨v, ev, rv⟩ := r.get1 (List.getElem?_eq_getElem hi)
      refine ⟨some v, ?_, v, rfl, rv⟩
      rw [List.getElem?_append_left (by simp; omega), List.getElem?_map, ev]
      rfl
    · rw [List.getElem?_append_right (by simpa using hi)] at e
      have es := (List.mem_replicate.mp (List.mem_of_getElem? e)).2
      subst es
      have hlt : i - ds.length < m := by
        have := (List.getElem?_eq_some_iff.mp e).1
        simpa using this
      refine ⟨none, ?_, trivial⟩
      rw [List.getElem?_append_right (by rw [List.length_map]; omega), List.length_map, hl, List.getElem?_replicate, if_pos hlt]
/-- THE RULE of a def -/
theorem fnD {P : Program} {w : World} {base : Heap} {x qual : Str} {st : Stmt} {f : Addr} {fd : FuncData} {N ps : List Str} {k : Nat} {fb : Sto → Out} (n m : Nat) (Fn : Fun K x qual st f fd) (S : FnScope N ps (defScope st)) (hps : ps.length = n) (hN : N.length = n + m)
    (hbody : ∀ (cdv : Value) (A : Around) (outer : List Env) (s : Shared) (H : Hp) (E : XK), Room k (A.deeper (envOfC qual (defScope st) s.heap.objs.size f cdv)) →
      DSs [] (cxOf (L2N.CX P w) P w K mg base N qual (defScope st) f cdv A outer s H E) (fun c H => E (clsOf mg c) none H) (defBody st) fb) : FnOk P w K mg base (L2N.CX P w) (k + 1) f fd ps (spD K mg (runF n m fb)) := by
  obtain ⟨oc, od, kV, doc, pm, an, cdv, ct, osl, rfl, lk, hcd⟩ := Fn.ex
  refine fn_of lk hcd S (fun vs H Q E h => ?_) (fun A outer s H vs Q E hr h => ⟨_, hbody cdv A outer s H E hr, ?_⟩)
  · obtain ⟨F, ds, gd, r, h⟩ := h
    unfold runF at h
    by_cases hl : ds.length = n
    · rw [hps, r.length, hl]
    · rw [if_neg hl] at h; exact h.elim
  · obtain ⟨F, ds, gd, r, h⟩ := h
    unfold runF at h
    by_cases hl : ds.length = n
    · rw [if_pos hl] at h
      refine ⟨F, (H, 0), F, _, start_slots r gd hl hN, ?_⟩
      cases e : fb (ds.map Slot.val ++ List.replicate m .no) with
      | nx δ => rw [e] at h; exact fun σ F' H' _ S' => h .non F' H' S'.st .non
      | rt d => rw [e] at h; exact h
      | rs c => rw [e] at h; exact h
      | bk δ => rw [e] at h; exact (show False from h).elim
      | ct δ => rw [e] at h; exact (show False from h).elim
      | stuck => rw [e] at h; exact h
    · rw [if_neg hl] at h; exact h.elim
/-- a def's own wishes -/
theorem tk_def {E : XK} {E1 : Value → Shared → Prop} (hs : X.stack = X.env :: X.outer := by rfl) (hf : X.env.frame = some X.env.locals := by rfl) (hex : X.ex = [] := by rfl) (hx : X.xe = fun e s' => wpAny (model X.prog X.w) X.A (leaving X.env e) (fun _ s'' => L2N.CX X.prog X.w X.outer X.H_0 X.s_0 E e s'') E1 s' := by rfl) :
    L2N.Takes X (wx X.mg fun c H => E (clsOf X.mg c) none H) := (L2N.takes_of hs hf hex hx).imp fun cls d σ H ⟨hd, c, hc, h⟩ => by rw [hd, hc]; exact h
theorem tk_none {X : Cx} {mg : Str → Option Value} : L2N.Takes X (wx mg WF) := fun _ _ x => by
  obtain ⟨_, _, _, _, _, _, _, _, _, _, _, _, _, _, _, _, _, _, _, z⟩ := x
  exact z.elim
/-- a call of a def -/
theorem spD_call {f : List D → Res D} {F H : Hp} {vs : List V} {ds : List D} {Q : VK} {σ : L2.St} (gd : Gd T F H) (r : RpL K mg F vs ds) (h : PostE K mg T F H W Q (f ds)) : spD K mg f vs H Q (WE (wx mg W) σ) := by
  refine ⟨F, ds, ⟨gd.sub, (fun p hp => by cases hp), gd.ntb⟩, r, ?_⟩
  cases e : f ds with
  | ok d => rw [e] at h; exact fun v F' H' st rv => h v F' H' (st.lift gd) rv
  | rs c => rw [e] at h; exact fun F' H' st => ⟨rfl, c, rfl, h F' H' (st.lift gd)⟩
  | stuck => rw [e] at h; exact h
theorem de_call {k : Nat} {f : Addr} {fd : FuncData} {ps : List Str} {g : List D → Res D} {x : Str} {e : Expr} {es : List Expr} {p pos : Pos} {fa : Sto → Res (List D)} (Fn : FnOk X.prog X.w X.K X.mg X.base (L2N.CX X.prog X.w) k f fd ps (spD X.K X.mg g)) (hr : Room k X.A) (hm : X.mg x = some (.ref f)) (hk : PySem.W.keepIn X.K (.ref f) = true) (hb : Binds X.K fd ps []) (tk : L2N.Takes X (wx X.mg W)) (ha : DA T X W (e :: es) fa)
    (hg : Gl X x := by rfl) (hdb : (x == ("__debug__" : Str)) = false := by decide) (he : starEach (e :: es) X.env = (false, eval e X.env) :: starEach es X.env := by rfl) (hpl : (backTo pos (starEach es X.env)).any (·.1) = false := by rfl) :
    DE T X W (.Call (.Name x p) (e :: es) [] pos) (app g fa) :=
  weakE (pe_callS Fn hr hg hm hk hb (fun σ => L2N.passAt tk σ) ha hdb he hpl) fun σ H Q ⟨F, δ, L, h⟩ => bindA ppE L h fun ds vs F1 H1 s1 L1 r1 h1 => spD_call L1.gd r1 h1
end
end Dn


set_option Elab.async false
set_option linter.all false
set_option maxRecDepth 100000
set_option maxHeartbeats 4000000
namespace Dn
open PySem PySem.Spec PyProof.Rows L2
/-! ### lists walked while an error is handled -/
section
variable {prog : Program} {w : World} {A : Around} {E : Value → Shared → Prop} {s : Shared}
/-- the error that is handled stands there, without a context -/
def Plain0 (x1 : Addr) (h : Heap) : Prop := ∃ (o : Obj) (vs : Array Value), h.get? x1 = some o ∧ o.data = .fields vs ∧ vs[2]? = some .none
theorem next_end_hot {it l x1 : Addr} {i : Nat} {items : Array Value} {Q : Option Value → Shared → Prop} (hh : A.handled = some (.ref x1)) (hp : Plain0 x1 s.heap) (hne : x1 ≠ it) (hit : s.heap.IsListIter it l i) (hl : s.heap.IsList l items) (hx : items[i]? = none)
    (hQ : ∀ h', Heap.ExtBut it s.heap h' → Q none { s with heap := h' }) : wpAny (model prog w) A (pyNext (.ref it)) Q E s := by
  obtain ⟨o, ho, hc, hd⟩ := id hit
  obtain ⟨ol, hol, _, nl, hdl⟩ := hl
  obtain ⟨o1, vs1, h1, d1, c1⟩ := hp
  unfold pyNext
  refine wpAny_bind (wpAny_attempt (wpAny_callSpecial?_slot (name := Str.ofString "__next__") hit.typeIs slot_listiter_next
    (wpAny_call_entry slot_listiter_next hit.typeIs entry_listiter_next ?_ (args_listiter_next _))))
  show wpAny _ _ (field (.ref it) 0 >>= _) _ _ s
  refine wpAny_bind (wpAny_field ho hd (x := .ref l) rfl ?_)
  show wpAny _ _ (if (Value.ref l == Value.none) = true then _ else _) _ _ s
  rw [if_neg (show ¬ ((Value.ref l == Value.none) = true) from Bool.false_ne_true)]
  show wpAny _ _ (field (.ref it) 1 >>= _) _ _ s
  refine wpAny_bind (wpAny_field ho hd (x := .int i 0) rfl ?_)
  show wpAny _ _ (seqItems? (.ref l) >>= _) _ _ s
  refine wpAny_bind (wpAny_seqItems hol hdl ?_)
  simp only [Int.toNat_natCast, hx]
  refine wpAny_bind (wpAny_rule (wpAny_bind (wpAny_setField ho hd (by simp) ?_)))
  show wpAny _ _ (newExc (.type "StopIteration") [] >>= _) _ _ _
  refine wpAny_bind ?_
  simp only [newExc, newTuple]
  refine wpAny_bind (wpAny_newObj_type ?_ (by size_fits))
  refine wpAny_bind (m := firstArgMember _ _) (wpAny_of_eq (a := Value.none) (by first | rfl | (simp only [firstArgMember]; rfl)) ?_)
  refine wpAny_newObj_type ?_ (by size_fits)
  have k1 : ∀ b ob, b ≠ it → s.heap.get? b = some ob → (s.heap.update it (Obj.mapFields (·.setIfInBounds 0 .none))).get? b = some ob := fun b ob hb e => by
    rw [Heap.get?_update_other _ _ (Ne.symm hb)]; exact e
  refine HotX.raiseNew_hot (x1 := x1) ⟨hh, o1, vs1, Heap.get?_push_of_some _ (Heap.get?_push_of_some _ (k1 _ _ hne h1)), d1, c1⟩ (Nat.ne_of_lt (Heap.lt_size (Heap.get?_push_of_some _ (k1 _ _ hne h1)))) (Heap.get?_push_size _ rfl) rfl (by first | (simp; done) | (simp; omega)) ?_
  refine wpAny_bind (wpAny_isInstance (T := "StopIteration") (b := true) ⟨_, Heap.get?_update_self _ (Heap.get?_push_size _ rfl) rfl, rfl⟩ isSubtype_stop ?_)
  refine wpAny_pure (hQ _ fun b ob hb e => ?_)
  rw [Heap.get?_update_other _ _ (Nat.ne_of_gt (Heap.lt_size (Heap.get?_push_of_some _ (k1 _ _ hb e))))]
  exact Heap.get?_push_of_some _ (Heap.get?_push_of_some _ (k1 _ _ hb e))
theorem walks_hot {x1 : Addr} (hh : A.handled = some (.ref x1)) (I ax : Addr) (hne : ax ≠ I) (hn1 : x1 ≠ I) (items : Array Value) :
    Walks prog w A I [I, ax, x1] [I] items.size (fun i v => items[i]? = some v) (fun i h => h.IsListIter I ax i ∧ h.IsList ax items ∧ Plain0 x1 h) where
  sub := fun b hb => by simp at hb; simp [hb]
  frame := fun _ _ _ st hk => ⟨st.1.at fun o e => hk I (by simp) o e, st.2.1.at fun o e => hk ax (by simp) o e, by
    obtain ⟨o, vs, e, d, c⟩ := st.2.2
    exact ⟨o, vs, hk x1 (by simp) o e, d, c⟩⟩
  item := fun i s Q E hi st hQ => by
    refine wpAny_pyNext_list_item st.1 st.2.1 (x := items[i]) (by simp [hi]) fun h' hit' hs' => ?_
    refine hQ _ h' s.toks (by simp [hi]) ⟨hit', st.2.1.extBut hs'.extBut hne, ?_⟩ fun b o hb e => hs'.extBut b o (fun h => hb (by simp [h])) e
    obtain ⟨o, vs, e, d, c⟩ := st.2.2
    exact ⟨o, vs, hs'.extBut x1 o hn1 e, d, c⟩
  done := fun s Q E st hQ => next_end_hot hh st.2.2 hn1 st.1 st.2.1 (by simp) fun h' he' => hQ h' s.toks fun b o hb e => he' b o (fun h => hb (by simp [h])) e
  self := fun _ _ _ _ st hQ => wpAny_pyIter_listiter st.1 hQ
/-- sum of a list of ints -/
theorem sum_hot {x1 l : Addr} {xs : Array (Int × Tok)} {Q : Value → Shared → Prop} (hh : A.handled = some (.ref x1)) (hp : Plain0 x1 s.heap) (hl : s.heap.IsList l (intItems xs))
    (h : ∀ h' tk t', (∀ b o, s.heap.get? b = some o → h'.get? b = some o) → Q (.int (preSum (numAt xs) xs.size) t') { s with heap := h', toks := tk }) : wpAny (model prog w) A (call (.builtin "sum") [.ref l]) Q E s := by
  refine call_sum_walkG (iter_intList hl fun s2 e st hfp hlI => ?_)
  subst e
  obtain ⟨o1, vs1, h1, d1, c1⟩ := hp
  have hx1 : x1 < s.heap.objs.size := Heap.lt_size h1
  refine ⟨_, _, _, _, _, _, numAt xs, rfl, walks_hot (A := A.in1) hh _ l hlI (Nat.ne_of_lt hx1) (intItems xs), ⟨st.1, st.2, o1, vs1, Heap.get?_push_of_some _ h1, d1, c1⟩, fun b hb => ?_, (fun _ _ => intItems_at), fun h' tk t' hk => ?_⟩
  · rcases List.mem_cons.mp hb with e | hb
    · exact hfp b (by simp [e])
    · rcases List.mem_cons.mp hb with e | hb
      · exact hfp b (by simp [e])
      · have e : b = x1 := by simpa using hb
        rw [e]
        show x1 < (s.heap.push _).objs.size
        rw [Heap.size_push]
        exact Nat.lt_succ_of_lt hx1
  · have := h h' tk t' (old_kept hk)
    simpa [intItems] using this
end
end Dn


set_option Elab.async false
set_option linter.all false
set_option maxRecDepth 100000
set_option maxHeartbeats 4000000
namespace Dn
open PySem PySem.Spec PyProof.Rows L2
/-! ### list.index -/
def flatD : D → Bool
  | .non => true
  | .bl _ => true
  | .int _ => true
  | .str _ => true
  | _ => false
def eqFD : D → D → Bool
  | .non, .non => true
  | .bl a, .bl b => a == b
  | .bl a, .int b => (if a then 1 else 0) == b
  | .int a, .bl b => a == (if b then 1 else 0)
  | .int a, .int b => a == b
  | .str a, .str b => a == b
  | _, _ => false
def idxD (ds : List D) (y : D) : Res D := if flatD y = true ∧ ds.all flatD = true then (match ds.findIdx? (fun z => eqFD z y) with
  | some j => .ok (.int (j : Nat))
  | none => .stuck) else .stuck
def binL (g : List D → D → Res D) (fa fb : Sto → Res D) : Sto → Res D := fun δ => (fa δ).bind fun x => match x with
  | .lst l => (fb δ).bind (g l)
  | _ => .stuck
section
variable {T : List (Addr × Str)} {X : Cx} {W : Wi} {K : PySem.W.Frag} {mg : Str → Option Value}
theorem flat_rp {F : Hp} {v : V} {d : D} (r : Rp K mg F v d) : flatD d = true → flatV v = true := by
  cases r <;> intro h <;> first | rfl | cases h
theorem eqF_rp {F : Hp} {v u : V} {d e : D} (r : Rp K mg F v d) (q : Rp K mg F u e) (hd : flatD d = true) (he : flatD e = true) : eqV v u = eqFD d e := by
  cases r with
  | non => cases q <;> first | rfl | cases he
  | bl b => cases q <;> first | rfl | cases he
  | int i => cases q <;> first | rfl | cases he
  | @str x l h =>
    cases q with
    | @str y m h' =>
      subst h h'
      show (x == y) = (TL.tl x == TL.tl y)
      by_cases e : x = y
      · subst e; simp
      · have : ¬ TL.tl x = TL.tl y := fun z => e (TL.ext_tl z)
        rw [beq_eq_false_iff_ne.mpr e, beq_eq_false_iff_ne.mpr this]
    | _ => first | rfl | cases he
  | _ => cases hd
theorem all_flat {F : Hp} : ∀ {vs : List V} {ds : List D}, RpL K mg F vs ds → ds.all flatD = true → vs.all flatV = true
  | _, _, .nil, _ => rfl
  | _, _, .cons r t, h => by
    rw [List.all_cons, Bool.and_eq_true] at h ⊢
    exact ⟨flat_rp r h.1, all_flat t h.2⟩
theorem de_index {o e : Expr} {fo fe : Sto → Res D} {apos cpos : Pos} (ho : DE T X W o fo) (he : DE T X W e fe) (hbase : attributeBase o "index" X.env (eval o X.env) = eval o X.env := by rfl)
    (hfew : ((backTo cpos (starEach (e :: []) X.env)).all (fun x => !x.1) && (backToKw cpos (keywordEach [] X.env)).all (fun x => x.1.isSome) && decide ((e :: []).length + ([] : List Keyword).length + (if ([] : List Keyword).isEmpty then 0 else 1) < 30)) = true := by rfl)
    (hline : (apos.endLine == cpos.line) = true := by rfl) (hse : starEach (e :: []) X.env = (false, eval e X.env) :: starEach [] X.env := by rfl) (hplain : (backTo cpos (starEach [] X.env)).any (·.1) = false := by rfl) :
    DE T X W (.Call (.Attribute o "index" apos) [e] [] cpos) (binL idxD fo fe) :=
  weakE (pe_bm PySem.F.plainAttrs_list PySem.F.slot_list_index PySem.F.type_list_index mt_index ho (pa_cons he pa_nil hse) hbase hfew hline hse hplain) fun σ H Q ⟨F, δ, L, h⟩ => bindE ppE L h fun x v F1 H1 s1 L1 r1 h1 => by
    cases x with
    | lst ds =>
      obtain ⟨p, us, rfl, e1, q⟩ := r1.lst_inv
      refine ⟨.inl ⟨rfl, us, .of (L1.sub _ _ e1)⟩, bindE ppE L1 h1 fun y u F2 H2 s2 L2 r2 h2 => ?_⟩
      unfold idxD at h2
      obtain ⟨⟨hf, ha⟩, h2'⟩ := PostE.ite h2
      clear h2
      split at h2'
      · rename_i j ej
        have e2 := s2.r.lst e1
        have q2 := q.mono s2.r
        have hj : j < ds.length := List.findIdx?_eq_some_iff_findIdx_eq.mp ej |>.1
        obtain ⟨w, ew, rw'⟩ := q2.get1 (List.getElem?_eq_getElem hj)
        have fl : ∀ {m : Nat} {d : D}, ds[m]? = some d → flatD d = true := fun {m d} z => List.all_eq_true.mp ha d (List.mem_of_getElem? z)
        obtain ⟨hjl, hjt, hjn⟩ := List.findIdx?_eq_some_iff_getElem.mp ej
        refine ⟨p, us, u, j, w, rfl, rfl, .of (L2.sub _ _ e2), flat_rp r2 hf, all_flat q2 ha, ew, ?_, fun m z' hm hz => ?_, h2'.here L2.gd (.int _)⟩
        · rw [eqF_rp rw' r2 (fl (List.getElem?_eq_getElem hj)) hf]
          exact hjt
        · have hml : m < ds.length := by omega
          have rz := q2.get hz (List.getElem?_eq_getElem hml)
          rw [eqF_rp rz r2 (fl (List.getElem?_eq_getElem hml)) hf]
          have := hjn m hm
          simpa using this
      · exact h2'.elim
    | _ => exact (show False from h1).elim
/-! ### while an error is handled -/
structure HotE (X : Cx) (a C : Addr) (oe : Obj) : Prop where
  hd : X.A.handled = some (.ref a)
  pin : (a, oe) ∈ X.pn
  zn : L2N.Zn (.ref C) none oe
  fld : ∃ vs, oe.data = .fields vs
variable {a C : Addr} {oe : Obj}
theorem HotE.get (h : HotE X a C oe) {pins : List (Addr × Obj)} {σ : L2.St} {H : Hp} {s : Shared} (I : Inv X pins σ H s) : s.heap.get? a = some oe := (I.pin (a, oe) (List.mem_append_left _ h.pin)).1
theorem HotE.plain (h : HotE X a C oe) {pins : List (Addr × Obj)} {σ : L2.St} {H : Hp} {s : Shared} (I : Inv X pins σ H s) : Plain0 a s.heap := by
  obtain ⟨vs, e⟩ := h.fld
  exact ⟨oe, vs, h.get I, e, h.zn.2.2 vs e⟩
theorem call_isH (hx : HotE X a C oe) (c : ExcC X.K C) : CallR X (.builtin "isinstance") (rIsE X.K C a) := by
  intro pins s σ H xs us Q I r h
  obtain ⟨v, cv, b, rfl, hcv, e, q⟩ := h
  obtain ⟨u1, u2, rfl, r1, r2⟩ := vals2 r
  cases r1
  have ec := hcv _ r2
  subst ec
  obtain ⟨vs, hv⟩ := hx.fld
  have J : PySem.W.InstAt s.heap a oe C none := by
    have hg := hx.get I
    have h1 := hx.zn.1
    have h2 := hx.zn.2.1
    clear hx
    obtain ⟨oc, od, oda, osl⟩ := oe
    dsimp only at h1 h2 hv
    subst h1 h2 hv
    exact ⟨hg, rfl, rfl, trivial⟩
  exact PySem.W.kia_one (PySem.W.handS_kitx_exc c.hg c.hk c.hs c.hd c.ha c.hn c.ht c.hm) I.kIn J e (fun z => nomatch z) fun tk => ⟨.bl b, H, I.kept (t' := tk) fun _ _ z => z, rfl, q⟩
theorem cr_sumH (hx : HotE X a C oe) : CallR X (.builtin "sum") (rSum X.K) := by
  intro pins s σ H vs us Q I r h
  obtain ⟨l, ns, rfl, hs, q⟩ := h
  obtain ⟨its, rv, hl, _⟩ := I.list hs
  have e := Vals.ref1 r
  subst e
  have hi : IntsAre its ns := intsAre_of rv
  obtain ⟨xs, e⟩ := hi.allInts.items
  have hn : numsOf (intItems xs).toList = ns := by rw [← e]; exact hi.numsOf
  rw [nums_intItems] at hn
  have hl' : s.heap.IsList l (intItems xs) := by rw [← e]; exact hl.isList
  refine sum_hot hx.hd (hx.plain I) hl' fun h' tk t' hk => ?_
  rw [preSum_eq, List.take_of_length_le (by simp), hn]
  exact ⟨.int ns.sum, H, I.kept hk, ⟨t', rfl⟩, q⟩
def isH (i : Nat) (a : Addr) (b : Bool) : Sto → Res D := fun δ => match δ[i]? with
  | some (.val (.opq a')) => if a' = a then .ok (.bl b) else .stuck
  | _ => .stuck
theorem isH_read {i : Nat} {b : Bool} {v : V} {cv : Value} {σ : L2.St} {H : Hp} {Q : VK} (hcv : ∀ u, RelV v u → u = cv) (e : PySem.W.kitOne K (.ref C) cv = some b) (h : tD K mg T W (isH i a b) σ H Q) : tCB (rIsE K C a) (tCons (tVar i) (tCons (tC v) tNil)) σ H Q := by
  obtain ⟨F, δ, L, h⟩ := h
  unfold isH at h
  split at h
  · rename_i a' ea
    obtain ⟨hc, h'⟩ := PostE.ite h
    clear h
    obtain ⟨ov, q, w, rfl, r⟩ := L.slot i _ ea
    cases r
    subst hc
    exact ⟨_, q, v, cv, b, rfl, hcv, e, h'.here L.gd (.bl b)⟩
  · exact h.elim
/-- isinstance(e, C2), C2 a class of the module's -/
theorem de_isO {x y : Str} {i : Nat} {b : Bool} {C2 : Addr} {p p1 p2 pos : Pos} (hx : HotE X a C oe) (c : ExcC X.K C) (hm : X.mg "isinstance" = none) (hy : X.mg y = some (.ref C2)) (e : PySem.W.kitOne X.K (.ref C) (.ref C2) = some b)
    (hN : X.N[i]? = some x := by rfl) (hv : Vis X.env.scope x := by first | exact Or.inl rfl | exact Or.inr (Or.inl rfl) | exact Or.inr (Or.inr rfl)) (hg : Gl X "isinstance" := by rfl) (hgy : Gl X y := by rfl) (hd : (x == ("__debug__" : Str)) = false := by decide) (hcd : (x == ("__classdict__" : Str)) = false := by decide) (hdy : (y == ("__debug__" : Str)) = false := by decide) :
    DE T X W (.Call (.Name "isinstance" p) [.Name x p1, .Name y p2] [] pos) (isH i a b) :=
  weakE (pe_callB (call_isH hx c) hg hm (by decide +kernel) (pa_cons (pe_var (i := i) hN hv hd hcd) (pa_cons (pe_glob (v := .ref C2) hgy hy rfl hdy) pa_nil))) fun σ H Q h => isH_read (cv := .ref C2) (fun u r => r) e h
/-- isinstance(e, T), T a built-in class -/
theorem de_isB {x y : Str} {i : Nat} {b : Bool} {n : String} {p p1 p2 pos : Pos} (hx : HotE X a C oe) (c : ExcC X.K C) (hm : X.mg "isinstance" = none) (hy : X.mg y = none) (hb : bootBuiltins y = some (.type n)) (e : PySem.W.kitOne X.K (.ref C) (.type n) = some b)
    (hN : X.N[i]? = some x := by rfl) (hv : Vis X.env.scope x := by first | exact Or.inl rfl | exact Or.inr (Or.inl rfl) | exact Or.inr (Or.inr rfl)) (hg : Gl X "isinstance" := by rfl) (hgy : Gl X y := by rfl) (hd : (x == ("__debug__" : Str)) = false := by decide) (hcd : (x == ("__classdict__" : Str)) = false := by decide) (hdy : (y == ("__debug__" : Str)) = false := by decide) (hny : y ≠ "__name__" := by decide) :
    DE T X W (.Call (.Name "isinstance" p) [.Name x p1, .Name y p2] [] pos) (isH i a b) :=
  weakE (pe_callB (call_isH hx c) hg hm (by decide +kernel) (pa_cons (pe_var (i := i) hN hv hd hcd) (pa_cons (pe_bltn (v := .ty n) hgy hy hb rfl hny hdy) pa_nil))) fun σ H Q h => isH_read (cv := .type n) (fun u r => r) e h
/-- a new object, its place free -/
theorem inv_laid {pins : List (Addr × Obj)} {σ : L2.St} {H : Hp} {s : Shared} {h' : Heap} {p : Addr} {o : HO} {t' : Nat} (I : Inv X pins σ H s) (k : ∀ b u, s.heap.get? b = some u → h'.get? b = some u) (hp : s.heap.get? p = none) (new : ObjOk X.prog X.w (upd H p o) h' p o) : Inv X pins σ (upd H p o) { s with heap := h', toks := t' } := by
  have hn : H p = none := I.hok.gone hp
  have ne : ∀ b u, s.heap.get? b = some u → b ≠ p := fun b u e z => by rw [z, hp] at e; cases e
  refine I.un ⟨fun b u q _ _ _ => k b u q, fun b u q _ _ _ => ⟨u.slots, k b u q⟩, fun b u q n _ => by rw [upd_ne (ne b u q)]; exact n, fun b u q _ => ⟨u, k b u q⟩, fun b xs q => by rw [upd_ne (ne_of_none q hn)]; exact q, fun b u xs q => by rw [upd_ne (ne_of_none q hn)]; exact q, fun b ps q => ⟨#[], by rw [upd_ne (ne_of_none q hn), q]; simp⟩⟩ fun b u e => ?_
  by_cases hb : b = p
  · subst hb; rw [upd_same] at e; cases e; exact new
  · rw [upd_ne hb] at e
    exact (I.hok b u e).stay (fun c v _ q => k c v q) (fun c q => by rw [upd_ne (ne_of_none q hn)]; exact q) fun c xs q => by rw [upd_ne (ne_of_none q hn)]; exact q
def bI (b : Bool) : Int := if b then 1 else 0
def lcH (fi : Sto → Res D) : Sto → Res (List D) := fun δ => (fi δ).bind fun d => match d with
  | .lst ds => (match boolsO ds with
    | some bs => if bs.length ≤ line then .ok (bs.map fun b => .int (bI b)) else .stuck
    | none => .stuck)
  | _ => .stuck
theorem paired_bools {bs : List Bool} {ys : List Value} (h : Paired (fun (v : Value) (y : Value) => ∃ b t, v = .bool b ∧ y = .int (bI b) t) (bs.map Value.bool) ys) : Vals (bs.map fun b => V.int (bI b)) ys := by
  induction bs generalizing ys with
  | nil => cases h; exact .nil
  | cons b bs ih =>
    cases h with
    | cons h t =>
      obtain ⟨b', tk, e1, e2⟩ := h
      cases e1
      exact .cons ⟨tk, e2⟩ (ih t)
theorem rpl_ints {F : Hp} : ∀ ns : List Int, RpL K mg F (ns.map V.int) (ns.map D.int)
  | [] => .nil
  | n :: ns => .cons (.int n) (rpl_ints ns)
/-- [int(x) for x in flags], flags a list of bools -/
theorem dl_lcH {x : Str} {iter : Expr} {scope : Scope} {fi : Sto → Res D} {p1 p2 p3 p4 pos : Pos} (hx : HotE X a C oe) (hm : X.mg "int" = none) (hi : DE T X W iter fi)
    (hfree : ∀ y ∈ scope.names, y.2 ≠ .free) (hcell : ∀ y ∈ scope.names, y.2 ≠ .cell) (hkind : scope.kind = .function) (hnames : ∀ y ∈ scope.names, y.2 = .local → scope.names.lookup y.1 = some .local) (hxl : scope.names.lookup x = some .local) (hgl : scope.names.lookup ("int" : Str) = some .globalImplicit) (hd : (x == ("__debug__" : Str)) = false)
    (hs : ∀ x, foldedSetIterable iter X.env x = pure x := by intro _; rfl) :
    DL T X W (.ListComp (.Call (.Name "int" p1) [.Name x p2] [] p3) [⟨.Name x p4, iter, [], 0⟩] scope pos) (lcH fi) := by
  refine ⟨fun pins s σ H Q I h => ?_⟩
  obtain ⟨F, δ, L, h⟩ := h
  unfold lcH at h
  refine wpAny_ListComp_walk (fun _ => true) (fun v y => ∃ b t, v = .bool b ∧ y = .int (bI b) t) hfree hcell hkind hnames hxl (thn (hi.run pins s σ H _ I (bindE ppL L h (Q' := fun v H1 => ∃ (F1 : Hp) (l : Addr) (bs : List Bool), v = .ref l ∧ Step T F H F1 H1 ∧ Lcl X.K X.mg T F1 H1 σ δ ∧ F1 l = some (.lst (bs.map V.bl)) ∧ bs.length ≤ line ∧ PostL X.K X.mg T F1 H1 W Q (.ok (bs.map fun b => .int (bI b)))) fun d v F1 H1 s1 L1 r1 h1 => ?_)) fun u s1 hh => ?_) hs
  · cases d with
    | lst ds =>
      dsimp only at h1
      split at h1
      · rename_i bs eb
        obtain ⟨l, us, rfl, e1, q⟩ := r1.lst_inv
        rw [bools_eq eb] at q
        have eu := q.bls
        subst eu
        by_cases hl : bs.length ≤ line
        · rw [if_pos hl] at h1
          exact ⟨F1, l, bs, rfl, s1, L1, e1, hl, h1⟩
        · rw [if_neg hl] at h1; exact h1.elim
      · exact h1.elim
    | _ => exact (show False from h1).elim
  · obtain ⟨v, H1, I1, rv, F1, l, bs, rfl, st1, L1, e1, hl, h1⟩ := hh
    obtain rfl : u = Value.ref l := rv
    obtain ⟨its, vr, pl, _⟩ := I1.list (SqL.of (L1.sub _ _ e1))
    have ei := Vals.bls vr
    subst ei
    refine wpAny_pyIter_list pl.isList ?_
    have hp := hx.plain I1
    obtain ⟨o1, vs1, g1, d1, c1⟩ := id hp
    have ha : a < s1.heap.objs.size := Heap.lt_size g1
    have hll : l < s1.heap.objs.size := by
      obtain ⟨o, n, e, _⟩ := pl
      exact Heap.lt_size e
    have old : ∀ b o, s1.heap.get? b = some o → b ∉ [s1.heap.objs.size] := fun b o e z => by
      have z' : b = s1.heap.objs.size := by simpa using z
      rw [z'] at e
      exact Nat.lt_irrefl _ (Heap.lt_size e)
    refine ⟨_, _, _, _, _, _, rfl, walks_hot hx.hd s1.heap.objs.size l (Nat.ne_of_lt hll) (Nat.ne_of_lt ha) (bs.map Value.bool).toArray, ?_, ⟨⟨_, Heap.get?_push_size _ rfl, rfl, rfl⟩, pl.isList.push _, o1, vs1, Heap.get?_push_of_some _ g1, d1, c1⟩, fun b hb => ?_, ⟨fun C' i v s3 m3 E' _ _ _ _ _ => ?_, fun C' i v s3 m3 E' hv _ hn hmx hk _ => ?_⟩, fun D' h' tk ys vs hD _ hpl hlen hP hF hk => ?_⟩
    · simp only [List.size_toArray, List.length_map]
      exact Nat.le_trans hl line_le
    · show b < (s1.heap.push _).objs.size
      rw [Heap.size_push]
      rcases List.mem_cons.mp hb with e | hb
      · rw [e]; exact Nat.lt_succ_self _
      · rcases List.mem_cons.mp hb with e | hb
        · rw [e]; exact Nat.lt_succ_of_lt hll
        · have e : b = a := by simpa using hb
          rw [e]; exact Nat.lt_succ_of_lt ha
    · show wpAny _ _ (pure true) _ _ _
      exact wpAny_pure ⟨rfl, _, _, rfl, fun _ _ e => e⟩
    · -- int(x)
      obtain ⟨b, rfl⟩ : ∃ b, v = Value.bool b := by
        have hv' : ((bs.map Value.bool).toArray)[i]? = some v := hv
        rw [List.getElem?_toArray, List.getElem?_map] at hv'
        cases e : bs[i]? with
        | none => rw [e] at hv'; cases hv'
        | some b => rw [e] at hv'; cases hv'; exact ⟨b, rfl⟩
      have keep : ∀ c o, s1.heap.get? c = some o → s3.heap.get? c = some o := fun c o e => hk c o (old c o e) (Heap.get?_push_of_some _ e)
      obtain ⟨mb, hb1, hb2⟩ := I1.mod.blt
      have kx : (compEnv scope C' X.env).scope.kind = .function := hkind
      refine Call_ (Calls.Name_function_global kx hgl (Calls.loadGlobal_builtin (v := .type "int") (mg := X.mg) (mb := mb) ?_ hm ?_ ?_ ?_) (by decide))
      · show s3.heap.Ns X.env.globals X.mg
        rw [I1.ok.glob]
        exact I1.mod.glob.keeps fun c o e => keep c o (I1.bk c o e)
      · show s3.heap.Ns X.env.builtins mb
        rw [I1.ok.blt]
        exact hb1.keeps fun c o e => keep c o (I1.bk c o e)
      · exact (hb2 "int" (by decide)).trans boot_int
      · refine PyProof.Rows.callWith_type1 (Calls.spliced_cons (wpAny_Name (wpAny_loadName_local kx hxl hn hmx (Calls.spliced_nil ?_)) hd)) rfl rfl
        exact call_int_bool ⟨⟨b, _, rfl, rfl⟩, _, _, rfl, fun _ _ e => e⟩
    · have hD1 : s1.heap.get? D' = none := by
        cases e : s1.heap.get? D' with
        | none => rfl
        | some o => rw [Heap.get?_push_of_some _ e] at hD; cases hD
      have ev : vs = bs.map Value.bool := by
        refine List.ext_getElem? fun i => ?_
        by_cases hi : i < vs.length
        · have z := hP i vs[i] (List.getElem?_eq_getElem hi)
          rw [List.getElem?_toArray] at z
          rw [z, List.getElem?_eq_getElem hi]
        · rw [List.getElem?_eq_none (by omega), List.getElem?_eq_none]
          simp only [List.size_toArray] at hlen
          omega
      subst ev
      rw [List.filter_eq_self.mpr (fun _ _ => rfl)] at hF
      have hv := paired_bools hF
      have kk : ∀ b u, s1.heap.get? b = some u → h'.get? b = some u := fun b u e => hk b u (old b u e) (Heap.get?_push_of_some _ e)
      have lz : (bs.map fun b => V.int (bI b)).length ≤ sizeLine := by rw [List.length_map]; exact Nat.le_trans hl line_le
      have J := inv_laid (p := D') (o := .lst (bs.map fun b => V.int (bI b))) (t' := tk) (h' := h') I1 kk hD1 ⟨lz, ys.toList, hpl.choose, hv, by simpa using hpl.choose_spec⟩
      have hHD : H1 D' = none := I1.hok.gone hD1
      refine ⟨.ref D', _, J, rfl, h1 D' (bs.map fun b => V.int (bI b)) F1 _ (.of hHD) (Step.junk L1.gd hHD) (L1.sub.none hHD) upd_same ?_⟩
      have e2 : (bs.map fun b => V.int (bI b)) = (bs.map bI).map V.int := by simp
      have e3 : (bs.map fun b => D.int (bI b)) = (bs.map bI).map D.int := by simp
      rw [e2, e3]
      exact rpl_ints _
end
end Dn


set_option Elab.async false
set_option linter.all false
set_option maxRecDepth 100000
set_option maxHeartbeats 4000000
namespace Dn
open PySem PySem.Spec PyProof.Rows L2
/-! ### the program's errors -/
structure ExcOk (K : PySem.W.Frag) (mg : Str → Option Value) (CT : Addr) (x : Str) (C : Addr) : Prop where
  g : mg x = some (.ref C)
  xin : PySem.W.excIn K C [.type "ValueError", .type "Exception", .type "BaseException", .type "object"] "ValueError.__new__" = true
  kp : PySem.W.keepIn K (.ref C) = true
  sb : PySem.W.subIn K (.ref C) (.type "BaseException") = some true
  ty : PySem.W.typeIn K (.ref C) = some (.type "type")
  c : ExcC K C
  ve : PySem.W.kitOne K (.ref C) (.type "ValueError") = some true
  te : PySem.W.exmOne K (.ref C) (.ref CT) = some true
def exc7 : List Str := ["BadNumber", "BadBits", "BadPlace", "BadText", "BadCode", "BadTree", "TooMany"]
structure ExcTab (K : PySem.W.Frag) (mg : Str → Option Value) (CT : Addr) (cs : List Addr) : Prop where
  gT : mg "TerseError" = some (.ref CT)
  len : cs.length = 7
  each : ∀ (i : Nat) x C, exc7[i]? = some x → cs[i]? = some C → ExcOk K mg CT x C
  kit : ∀ (i j : Nat) C C', cs[i]? = some C → cs[j]? = some C' → PySem.W.kitOne K (.ref C) (.ref C') = some (i == j)
/-! ### the law's own word for an error -/
/-- ints alone -/
def neI : D → D → Res D
  | .int i, .int j => .ok (.bl (!decide (i = j)))
  | _, _ => .stuck
theorem r_neI {K : PySem.W.Frag} {mg : Str → Option Value} {T : List (Addr × Str)} : R2D K mg T rNe neI := by
  intro F H v u x y W Q gd r1 r2 h
  cases r1 <;> cases r2 <;> first | exact (show False from h).elim | skip
  rename_i i j
  have e : decide (V.int i = V.int j) = decide (i = j) := by
    by_cases hh : i = j
    · rw [hh, decide_eq_true rfl, decide_eq_true rfl]
    · rw [decide_eq_false hh, decide_eq_false (fun z => hh (V.int.inj z))]
  refine ⟨rfl, ?_⟩
  rw [e]
  exact PostE.here h gd (.bl _)
def wordD (a : Addr) (b : Nat → Bool) (bv : Bool) : Sto → Out :=
  seqS (asg 1 (app mkL (consA (isH 0 a (b 0)) (consA (isH 0 a (b 1)) (consA (isH 0 a (b 2)) nilA)))))
  (seqS (asg 1 (bin addD (vr 1) (app mkL (consA (isH 0 a (b 3)) nilA))))
  (seqS (asg 1 (bin addD (vr 1) (app mkL (consA (isH 0 a (b 4)) (consA (isH 0 a (b 5)) (consA (isH 0 a (b 6)) nilA))))))
  (seqS (ifS (orT (tst (bin neI (app sumD (consA (lstE (lcH (vr 1))) nilA)) (cst (.int 1)))) (notT (tst (isH 0 a bv)))) (retS (cst (.str [111, 116, 104, 101, 114]))) nopS)
  (retS (bin ixD (app mkL (consA (cst (.str (TL.tl "BadNumber"))) (consA (cst (.str (TL.tl "BadBits"))) (consA (cst (.str (TL.tl "BadPlace"))) (consA (cst (.str (TL.tl "BadText"))) (consA (cst (.str (TL.tl "BadCode"))) (consA (cst (.str (TL.tl "BadTree"))) (consA (cst (.str (TL.tl "TooMany"))) nilA))))))))
    (binL idxD (vr 1) (cst (.bl true))))))))
theorem word_is (a : Addr) (j : Nat) (x : Str) (h : exc7[j]? = some x) : wordD a (fun i => j == i) true [.val (.opq a), .no] = .rt (.str (TL.tl x)) := by
  have hj : j < 7 := (List.getElem?_eq_some_iff.mp h).1
  have isv : ∀ (δ : Sto) b, δ[0]? = some (.val (.opq a)) → isH 0 a b δ = .ok (.bl b) := fun δ b e => by
    unfold isH
    rw [e]
    exact if_pos rfl
  rcases (show j = 0 ∨ j = 1 ∨ j = 2 ∨ j = 3 ∨ j = 4 ∨ j = 5 ∨ j = 6 by omega) with rfl | rfl | rfl | rfl | rfl | rfl | rfl <;> cases h <;>
    simp [wordD, seqS, asg, app, consA, nilA, isv, mkL, bin, vr, addD, ifS, orT, tst, lstE, lcH, boolsO, bI, sumD, intsO, cst, neI, notD, asB, notT, nopS, retS, binL, idxD, flatD, eqFD, ixD, atI, ixN, List.findIdx?, List.findIdx?.go, line]
section
variable {P : Program} {w : World} {K : PySem.W.Frag} {mg : Str → Option Value} {base : Heap} {stW : Stmt} {fW : Addr} {fdW : FuncData}
/-- _law_word called on the handled error -/
theorem word_run {A : Around} {outer : List Env} {s : Shared} {H F : Hp} {p : Addr × Obj} {Q : VK} {E : XK} {k : Nat} {fb : Sto → Out} {l : List Nat} {x q : Str} (Fn : Fun K x q stW fW fdW) (S : FnScope ["e", "flags"] ["e"] (defScope stW)) (hb : Binds K fdW ["e"] [])
    (hW : ∀ (cdv : Value), DSs [] (L2H.cxH (L2N.CX P w) P w K mg base ["e", "flags"] q (defScope stW) fW cdv A outer s H E p) WF (defBody stW) fb)
    (hr : L2H.RoomH (k + 1) A) (hpin : L2H.PinOk outer H s p) (e0 : Env0 P w K mg base A outer s H) (gd : Gd [] F H) (hf : fb [.val (.opq p.1), .no] = .rt (.str l)) (hq : ∀ v F' H', Step [] F H F' H' → Rp K mg F' v (.str l) → Q v H') :
    codeAny (model P w) A (.call (.ref fW) ⟨[.ref p.1], []⟩) (CR (L2N.CX P w) outer P w H s Q E) s := by
  obtain ⟨oc, od, kV, doc, pm, an, cdv, ct, osl, rfl, lk, hcd⟩ := Fn.ex
  have KX : K.In s.heap := e0.mod.kin.keeps fun b o e => (e0.bs b o e).1
  have lim : s.heap.NoLimit := e0.mod.nolimit.keeps fun b o e => (e0.bs b o e).1
  have hbd := hb s [.ref p.1] KX rfl
  have hkind : ∀ y ∈ (["e"] : List Str).zip [Value.ref p.1], (defScope stW).names.lookup y.1 = some .local ∨ ((defScope stW).names.lookup y.1 = some .cell ∧ ((cellsFrom (s.heap.objs.size + 1) (defScope stW).names []).lookup y.1).isSome = true) := fun ⟨n, v⟩ hy => by
    rcases S.par n (List.of_mem_zip hy).1 with z | z
    · exact .inl z
    · exact .inr ⟨z, PySem.W.cellsFrom_some _ _ _ (.inl z)⟩
  refine codeAny_call_function hr.depth (KX _ _ lk) rfl S.co S.gen rfl (PySem.W.codeRec_of KX hcd) (hbd _ _ _ _ ?_)
  refine wpAny_newFunctionEnv_cells S.kind hkind fun env he s1 y => ?_
  subst he
  refine ⟨lim.keeps y.toInCall.keep, codeAny_func ?_⟩
  have I := L2H.inv_startH (CX := L2N.CX P w) (E := E) (us := [.ref p.1]) (vs := [.ref p.1]) S hpin e0 rfl (.cons rfl .nil) y
  have st0 : StR K mg [] F (H, 0) F H (L2.start ["e", "flags"] [.ref p.1]) [.val (.opq p.1), .no] := start_slots (N := ["e", "flags"]) (ds := [.opq p.1]) (.cons (.opq _) .nil) gd (n := 1) (m := 1) rfl rfl
  refine wpAny_mono ((hW cdv).run [] s1 (L2.start ["e", "flags"] [.ref p.1]) H { nx := fun _ H' => Q .non H', rt := Q } I ⟨F, (H, 0), F, _, st0, by rw [hf]; exact hq⟩) (fun fl s' hs => ?_) fun e s' hs => hs
  have fin : ∀ {σ' : L2.St} {H' : Hp} {v : V} {u : Value}, Inv (L2H.cxH (L2N.CX P w) P w K mg base ["e", "flags"] q (defScope stW) fW cdv A outer s H E p) [] σ' H' s' → RelV v u → Q v H' → CE outer P w H s Q u s' := fun {σ' H' v u} J rv z => ⟨v, H', J.os, J.bare, J.base, J.hok, rv, z⟩
  cases fl with
  | ret u =>
    obtain ⟨v, σ', H', J, rv, z⟩ := hs
    exact fin J rv z
  | next =>
    obtain ⟨σ', H', J, z⟩ := hs
    exact fin (v := V.non) (u := Value.none) J rfl z
  | brk => obtain ⟨_, _, _, z⟩ := hs; exact z.elim
  | cont => obtain ⟨_, _, _, z⟩ := hs; exact z.elim
end
/-- what the suite's word asks -/
def tWord (i : Nat) (a : Addr) (K : PySem.W.Frag) (mg : Str → Option Value) (l : List Nat) : TE := fun σ H Q => σ[i]? = some (some (.ref a)) ∧ ∃ F, Gd [] F H ∧ ∀ v F' H', Step [] F H F' H' → Rp K mg F' v (.str l) → Q v H'
section
variable {X : Cx} {stW : Stmt} {fW : Addr} {fdW : FuncData}
theorem pe_word {x y q : Str} {a C : Addr} {oe : Obj} {pn : List (Addr × Obj)} {i k : Nat} {p1 p2 pos : Pos} {l : List Nat} {fb : Sto → Out} (hz : L2N.Zn (.ref C) none oe) (hfd : ∃ vs, oe.data = .fields vs) (Fn : Fun X.K x q stW fW fdW) (S : FnScope ["e", "flags"] ["e"] (defScope stW)) (hb : Binds X.K fdW ["e"] [])
    (hW : ∀ (cdv : Value) (A : Around) (outer : List Env) (s : Shared) (H : Hp) (E : XK), HotE (L2H.cxH (L2N.CX X.prog X.w) X.prog X.w X.K X.mg X.base ["e", "flags"] q (defScope stW) fW cdv A outer s H E (a, oe)) a C oe →
      DSs [] (L2H.cxH (L2N.CX X.prog X.w) X.prog X.w X.K X.mg X.base ["e", "flags"] q (defScope stW) fW cdv A outer s H E (a, oe)) WF (defBody stW) fb)
    (hf : fb [.val (.opq a), .no] = .rt (.str l)) (hr : L2H.RoomH (k + 1) (X.suite a ((a, oe) :: pn)).A) (hm : X.mg x = some (.ref fW)) (hN : X.N[i]? = some y) (hv : Vis X.env.scope y) (hg : Gl X x := by rfl) (hdb : (x == ("__debug__" : Str)) = false := by decide) (hd : (y == ("__debug__" : Str)) = false := by decide) (hcd : (y == ("__classdict__" : Str)) = false := by decide) :
    PE (X.suite a ((a, oe) :: pn)) (.Call (.Name x p1) [.Name y p2] [] pos) (tWord i a X.K X.mg l) := by
  refine ⟨fun pins s σ H Q I h => ?_⟩
  obtain ⟨hs, F, gd, hq⟩ := h
  refine wpAny_Call_Name_kw (ld_glob (X := X.suite a ((a, oe) :: pn)) I hg hm ?_ hdb)
  have ha : PA (X.suite a ((a, oe) :: pn)) [.Name y p2] (tCons (tVar i) tNil) := pa_cons (pe_var (i := i) hN hv hd hcd) pa_nil
  refine PySem.W.callWith_K (h₀ := X.base) I.ok.mod.kin Fn.kp (thn (ha.run pos pins s σ H (fun vs H1 => vs = [V.ref a] ∧ H1 = H) I ⟨_, hs, rfl, rfl⟩) fun us s1 ⟨vs, H1, I1, r, ev, eH⟩ => ⟨I1.kIn, ?_⟩) rfl rfl
  subst ev
  subst eH
  have eu := Vals.ref1 r
  subst eu
  have P1 := I1.pin (a, oe) (List.mem_append_left _ List.mem_cons_self)
  have hpin : L2H.PinOk X.stack H1 s1 (a, oe) := ⟨P1.1, P1.2.1, fun hm => (List.mem_cons.mp (I1.stkSub a hm)).elim P1.2.2.1 P1.2.2.2.1, P1.2.2.2.2⟩
  have hot : (X.suite a ((a, oe) :: pn)).A.handled = some (.ref a) := rfl
  refine wpAny_call (codeAny_mono (word_run (base := X.base) (p := (a, oe)) (E := fun _ _ _ => False) Fn S hb (fun cdv => hW cdv _ _ _ _ _ ⟨hot, List.mem_cons_self, hz, hfd⟩) hr hpin I1.env0 gd hf hq) fun rr s' hh => ?_)
  cases rr with
  | error e =>
    obtain ⟨_, _, _, _, _, _, _, _, _, _, _, _, z⟩ := hh
    exact z.elim
  | ok fl =>
    cases fl with
    | ret u => exact I1.after hh
    | next => exact False.elim hh
    | brk => exact False.elim hh
    | cont => exact False.elim hh
end
/-! ### told: a lambda handed to the law's own catcher -/
/-- the lambda's body, entered from told -/
abbrev lamN (X : Cx) (A : Around) (outer : List Env) (s : Shared) (H : Hp) (E : XK) (scope : Scope) (f c' : Addr) : Cx :=
  (LamX.lamCx X A outer s H E scope f c').wish fun e s' => wpAny (model X.prog X.w) (A.deeper (LamX.lamEnv X scope s.heap.objs.size f c')) (leaving (LamX.lamEnv X scope s.heap.objs.size f c') e) (fun _ s'' => L2N.CX X.prog X.w outer H s E e s'') (fun e' s'' => L2N.CX X.prog X.w outer H s E e' s'') s'
section
variable {X : Cx} {pins : List (Addr × Obj)} {σ : L2.St} {H : Hp} {s : Shared}
/-- the catcher's context -/
abbrev cxT (X : Cx) (Ng : List Str) (x : Str) (sg : Scope) (g : Addr) (cdg : Value) (s : Shared) (H : Hp) : Cx := (cxOf L2.CX0 X.prog X.w X.K X.mg X.base Ng x sg g cdg X.A X.stack s H L2.E0).nox
/-- deed(), in the catcher -/
theorem pe_deed {Ng : List Str} {qg : Str} {sg : Scope} {g f c' : Addr} {cdg pm ctv : Value} {params : Arguments} {body : Expr} {scope : Scope} {k i : Nat} {a : Str} {pn : List (Addr × Obj)} {xe : Value → Shared → Prop} {W : WX} {E : XK} {tb : TE} {p1 p2 : Pos}
    (I : Inv X pins σ H s) (Ls : LamX.LamS X.env.scope scope) (hf : s.heap.get? f = some (PySem.W.kla_obj "<lambda>" (X.env.qual ++ "<lambda>") params body scope (cloFrom X.env.cells scope.names []) pm c' ctv)) (hfn : H f = none) (hfr : f ∉ frs X.stack)
    (hbind : bindArgs (PySem.W.kla_fn "<lambda>" (X.env.qual ++ "<lambda>") params body scope (cloFrom X.env.cells scope.names []) pm (.ref c') ctv) ⟨[], []⟩ = pure [])
    (tk : L2N.Takes ((cxT X Ng qg sg g cdg s H).tr pn xe) W) (hW : ∀ cls d (σ' : L2.St) H', σ'.length = Ng.length → E cls d H' → W cls d σ' H') (hr : Room (k + 1) (X.A.deeper (envOfC qg sg s.heap.objs.size g cdg)))
    (hbody : ∀ (A : Around) (outer : List Env) (s : Shared) (H : Hp), Room k (A.deeper (LamX.lamEnv X scope s.heap.objs.size f c')) → PE (lamN X A outer s H E scope f c') body tb)
    (hN : Ng[i]? = some a) (hv : Vis sg a) (hd : (a == ("__debug__" : Str)) = false := by decide) (hcd : (a == ("__classdict__" : Str)) = false := by decide) :
    PE ((cxT X Ng qg sg g cdg s H).tr pn xe) (.Call (.Name a p1) [] [] p2) (fun σZ HZ Q => σZ[i]? = some (some (.ref f)) ∧ HZ c' = some (LamX.CodeO c' (X.env.qual ++ "<lambda>")) ∧ tb σ HZ Q) := by
  refine ⟨fun pinsZ sZ σZ HZ Q IZ h => ?_⟩
  obtain ⟨hs, hc, ht⟩ := h
  refine wpAny_Call_Name_kw (thn ((pe_var (pos := p1) (i := i) hN hv hd hcd).run pinsZ sZ σZ HZ (fun v H1 => v = .ref f ∧ H1 = HZ) IZ ⟨.ref f, hs, rfl, rfl⟩) fun u s1 ⟨v, H1, I1, r1, ev, eH⟩ => ?_)
  subst ev
  rw [eH] at I1
  obtain rfl : u = Value.ref f := r1
  have of1 := I1.base.keep f _ hf hfn hfr (fun z => nomatch (show f ∈ ([] : List Addr) from z))
  refine PySem.W.callWith_F0 ⟨_, _, _, _, of1⟩ ?_
  have un : Un (frs X.stack) [] H HZ s.heap s1.heap := I1.base
  obtain ⟨⟨oc, vs, t, hoc, hdc, hvc⟩, _, _⟩ := I1.hok c' _ hc
  have rc : codeAny (model X.prog X.w) (X.A.deeper (envOfC qg sg s.heap.objs.size g cdg)) (.call (.ref f) ⟨[], []⟩) (CR (L2N.CX X.prog X.w) (envOfC qg sg s.heap.objs.size g cdg :: X.stack) X.prog X.w HZ s1 Q E) s1 := by
    refine PySem.W.kla_callFunE hr.depth of1 rfl Ls.co Ls.gen rfl ⟨c', oc, vs, t, rfl, hoc, hdc, hvc⟩ ?_
    rw [hbind]
    refine wpAny_pure (wpAny_newFunctionEnv (fun y hy => (Ls.own y hy).2) (fun y hy => absurd hy (by simp)) (fun h1 hns hsb => ⟨I1.nolimit.fresh _ hsb, ?_⟩) Ls.kind)
    have kp : ∀ b o, s1.heap.get? b = some o → h1.get? b = some o := fun b o e => hsb.extBut b o (Nat.ne_of_lt (Heap.lt_size e)) (Heap.get?_push_of_some _ e)
    have J := (LamX.lam_start2 (tk := s1.toks + ([] : List (Str × Value)).length) (E := E) (f := f) (c' := c') I Ls I1.env0 hr.hd un hns kp).wish (fun e s' => wpAny (model X.prog X.w) ((X.A.deeper (envOfC qg sg s.heap.objs.size g cdg)).deeper (LamX.lamEnv X scope s1.heap.objs.size f c')) (leaving (LamX.lamEnv X scope s1.heap.objs.size f c') e) (fun _ s'' => L2N.CX X.prog X.w (envOfC qg sg s.heap.objs.size g cdg :: X.stack) HZ s1 E e s'') (fun e' s'' => L2N.CX X.prog X.w (envOfC qg sg s.heap.objs.size g cdg :: X.stack) HZ s1 E e' s'') s')
    refine PySem.W.kla_codeExpr (wpAny_mono ((hbody _ _ s1 HZ (hr.deeper _)).run [] _ _ HZ Q J ht) (fun v s' hq => ?_) fun e s' hq => hq)
    obtain ⟨w', H', J', rv, q⟩ := hq
    exact ⟨w', H', J'.os, J'.bare, J'.base, J'.hok, rv, q⟩
  refine wpAny_call (codeAny_mono rc fun r s' hq => ?_)
  cases r with
  | error e => exact tk e s' (L2N.XE.of_call I1 (fun cls d H' z => hW cls d σZ H' I1.len z) hq)
  | ok fl =>
    cases fl with
    | ret u => exact I1.after hq
    | next => exact False.elim hq
    | brk => exact False.elim hq
    | cont => exact False.elim hq
end
/-- the answer, or the refusal's name -/
def told (f : Sto → Res D) : Sto → Res D := fun δ => match f δ with
  | .ok d => .ok d
  | .rs c => if c ∈ exc7 then .ok (.str (TL.tl c)) else .stuck
  | .stuck => .stuck
section
variable {T : List (Addr × Str)} {X : Cx} {W : Wi} {stT stW : Stmt} {fT fW CT : Addr} {fdT fdW : FuncData} {cs : List Addr}
/-- what is known of the law's catcher and its word -/
structure ToldOk (P : Program) (w : World) (K : PySem.W.Frag) (mg : Str → Option Value) (base : Heap) (stT stW : Stmt) (fT fW CT : Addr) (fdT fdW : FuncData) (cs : List Addr) : Prop where
  tab : ExcTab K mg CT cs
  FT : Fun K "_law_told" "_law_told" stT fT fdT
  ST : FnScope ["deed", "e"] ["deed"] (defScope stT)
  bT : L2.Binds K fdT ["deed"] []
  gT : mg "_law_told" = some (.ref fT)
  FW : Fun K "_law_word" "_law_word" stW fW fdW
  SW : FnScope ["e", "flags"] ["e"] (defScope stW)
  bW : L2.Binds K fdW ["e"] []
  gW : mg "_law_word" = some (.ref fW)
  body : ∃ p1 p2 p3 p4 p5 p6 p7 p8 p9 p10, defBody stT = [.Try [.Return (some (.Call (.Name "deed" p1) [] [] p2)) p3] [.ExceptHandler (some (.Name "TerseError" p4)) (some "e") [.Return (some (.Call (.Name "_law_word" p5) [.Name "e" p6] [] p7)) p8] p9] [] [] p10]
  scp : (defScope stT).names.lookup ("TerseError" : Str) = some .globalImplicit ∧ (defScope stT).names.lookup ("_law_word" : Str) = some .globalImplicit ∧ (defScope stT).names.lookup ("e" : Str) = some .local ∧ (defScope stT).names.lookup ("deed" : Str) = some .local
  word : ∀ (cdv : Value) (A : Around) (outer : List Env) (s : Shared) (H : Hp) (E : XK) (a : Addr) (oe : Obj) (j : Nat) (C : Addr), cs[j]? = some C → HotE (L2H.cxH (L2N.CX P w) P w K mg base ["e", "flags"] "_law_word" (defScope stW) fW cdv A outer s H E (a, oe)) a C oe →
    DSs [] (L2H.cxH (L2N.CX P w) P w K mg base ["e", "flags"] "_law_word" (defScope stW) fW cdv A outer s H E (a, oe)) WF (defBody stW) (wordD a (fun i => j == i) true)
theorem de_told {k : Nat} {c P' : Addr} {params : Arguments} {body : Expr} {scope : Scope} {fb : Sto → Res D} {p lpos pos : Pos} (O : ToldOk X.prog X.w X.K X.mg X.base stT stW fT fW CT fdT fdW cs)
    (TB : LamX.TabB X.base X.mg c P') (hcode : X.env.code = .ref c) (hmT : (P', X.env.qual ++ "<lambda>") ∈ T) (hu : ∀ p ∈ T, p.1 = P' → p.2 = X.env.qual ++ "<lambda>") (hr : Room (k + 2) X.A) (Ls : LamX.LamS X.env.scope scope)
    (hbody : ∀ (A : Around) (outer : List Env) (s : Shared) (H : Hp) (E : XK) (f c' : Addr), Room k (A.deeper (LamX.lamEnv X scope s.heap.objs.size f c')) → DE T (lamN X A outer s H E scope f c') (fun c H => E (clsOf X.mg c) none H) body fb)
    (hdef : defaultsOf params X.env = ([], []) := by rfl) (hbind : ∀ (q : Str) (cl : List (Str × Addr)) (pm cv ctv : Value), bindArgs (PySem.W.kla_fn "<lambda>" q params body scope cl pm cv ctv) ⟨[], []⟩ = pure [] := by intros; rfl) (hg : Gl X "_law_told" := by rfl) :
    DE T X W (.Call (.Name "_law_told" p) [.Lambda params body scope lpos] [] pos) (told fb) := by
  refine ⟨fun pins s σ H Q I h => ?_⟩
  obtain ⟨F, δ, L, h⟩ := h
  refine wpAny_Call_Name_kw (ld_glob I hg O.gT ?_)
  refine PySem.W.callWith_K (h₀ := X.base) I.ok.mod.kin O.FT.kp ?_ (by rfl) (by rfl)
  show wpAny _ _ (spliced ((false, eval (.Lambda params body scope lpos) X.env) :: backTo pos (starEach [] X.env))) _ _ s
  refine Calls.spliced_cons (LamX.lam_make2 I TB hcode hmT hu L.tabs hdef (Ls.has I.ok) fun f c' pm' ctv H1 s' I1 eN T1 hf hfn hfr hco => ?_)
  refine Calls.spliced_nil ⟨I1.kIn, ?_⟩
  have hT0 : T ≠ [] := fun z => by rw [z] at hmT; cases hmT
  have st1 : Step T F H F H1 := by
    refine ⟨.refl F, ⟨fun a o e => eN a o (L.sub a o e) fun ps z => L.gd.ntb a ps (by rw [← z]; exact e), T1, L.gd.ntb⟩, fun a o n e c => eN a o e (c.resolve_left hT0), fun a o n e v => ⟨n, ?_⟩⟩
    rcases v with v | v | ⟨q, v⟩
    · exact (hT0 v).elim
    · exact ⟨o, eN a o e v, .inr (.inl v)⟩
    · obtain ⟨ps, e1, _⟩ := T1 _ v
      exact ⟨_, e1, .inr (.inr ⟨q, v⟩)⟩
  have L1 := L.step st1
  have h1 := PostE.shift h st1
  obtain ⟨oc, od, kV, doc, pm, an, cdv, ct, osl, efd, lk, hcd⟩ := O.FT.ex
  have bT := O.bT
  subst efd
  obtain ⟨q1, q2, q3, q4, q5, q6, q7, q8, q9, q10, hbd⟩ := O.body
  obtain ⟨sc1, sc2, sc3, sc4⟩ := O.scp
  have rc : codeAny (model X.prog X.w) X.A (.call (.ref fT) ⟨[.ref f], []⟩) (CR L2.CX0 X.stack X.prog X.w H1 s' Q L2.E0) s' := by
    refine LamX.run_ofS (N := ["deed", "e"]) (ps := ["deed"]) (us := [.ref f]) (vs := [.ref f]) lk hcd O.ST hr I1.env0 (bT s' [.ref f] I1.kIn rfl) (.cons rfl .nil) rfl fun hr' => ?_
    -- what the body wants
    let E : XK := fun cls d H' => d = none ∧ ∃ c, cls = clsOf X.mg c ∧ c ∈ exc7 ∧ ∃ F', Step T F H1 F' H' ∧ ∀ v F2 H2, Step [] F' H' F2 H2 → Rp X.K X.mg F2 v (.str (TL.tl c)) → Q v H2
    have hb1 : tD X.K X.mg T (fun c H => E (clsOf X.mg c) none H) fb σ H1 Q := by
      refine ⟨F, δ, L1, ?_⟩
      unfold told at h1
      cases e : fb δ with
      | ok d => rw [e] at h1; exact h1
      | stuck => rw [e] at h1; exact h1
      | rs c =>
        rw [e] at h1
        obtain ⟨hc, h2⟩ := PostE.ite h1
        exact fun F' H' st' => ⟨rfl, c, rfl, hc, F', st', fun v F2 H2 s2 rv => h2 v F2 H2 (st'.trans (s2.lift st'.gd)) rv⟩
    refine ⟨fun D' σ' H' => ∃ a2, σ' = [some (V.ref f), a2] ∧ H' = H1 ∧ D'.rt = Q, PSs.nox (X := cxOf L2.CX0 X.prog X.w X.K X.mg X.base ["deed", "e"] "_law_told" (defScope stT) fT cdv X.A X.stack s' H1 L2.E0) ?_, ⟨none, rfl, rfl, rfl⟩⟩
    rw [hbd]
    have ptry := L2N.ps_try_as (X := cxT X ["deed", "e"] "_law_told" (defScope stT) fT cdv s' H1) (x := "TerseError") (n := "e") (c := .ref CT) (i := 1) (np := q4) (pos := q10) (pos' := q9) (b₀ := .Return (some (.Call (.Name "_law_word" q5) [.Name "e" q6] [] q7)) q8) (suite := [])
      (body := [.Return (some (.Call (.Name "deed" q1) [] [] q2)) q3])
      (tb := fun W D' σ2 H2 => (∀ cls d (σ' : L2.St) H', σ'.length = 2 → E cls d H' → W cls d σ' H') ∧ σ2[0]? = some (some (.ref f)) ∧ D'.rt = Q ∧ H2 = H1)
      (ts := fun a cls d D' σ2 H2 => ∃ (j : Nat) (C : Addr) (x : Str), cls = .ref C ∧ d = none ∧ cs[j]? = some C ∧ exc7[j]? = some x ∧ tWord 1 a X.K X.mg (TL.tl x) σ2 H2 D'.rt)
      (Wout := fun _ _ _ _ => False) rfl rfl O.ST.nd rfl sc3 ⟨sc1, by decide, .inl O.tab.gT⟩ (fun _ _ x => by
        obtain ⟨_, _, _, _, _, _, _, _, _, _, _, _, _, _, _, _, z⟩ := x
        exact z.elim) (fun W pn xe tk _ => ?_) (fun a oe cls d pn hz hfd => ?_)
    · refine pss_one ⟨fun pins2 s2 σ2 H2 D2 I2 hh => ?_⟩
      obtain ⟨a2, rfl, rfl, hD2⟩ := hh
      refine ptry.run pins2 s2 _ _ D2 I2 ⟨?_, rfl, hD2, rfl⟩
      intro cls d σ' H' hlen hE
      obtain ⟨rfl, c, rfl, hc, F', st', hq⟩ := hE
      obtain ⟨j, hj⟩ := List.mem_iff_getElem?.mp hc
      have hj7 : j < 7 := (List.getElem?_eq_some_iff.mp hj).1
      have hjc : j < cs.length := by rw [O.tab.len]; exact hj7
      have K1 := O.tab.each j c cs[j] hj (List.getElem?_eq_getElem hjc)
      have ec : clsOf X.mg c = .ref cs[j] := by unfold clsOf; rw [K1.g]; rfl
      refine ⟨true, by rw [ec]; exact K1.te, fun _ a ha => ⟨j, cs[j], c, ec, rfl, List.getElem?_eq_getElem hjc, hj, ?_, F', ⟨st'.sub, (fun p hp => by cases hp), st'.gd.ntb⟩, fun v F2 H3 s3 rv => ?_⟩, fun z => by cases z⟩
      · exact List.getElem?_set_self (by rw [hlen]; decide)
      · show D2.rt v H3
        rw [hD2]
        exact hq v F2 H3 s3 rv
    · refine ⟨fun pins3 s3 σ3 H3 D3 I3 hh => ?_⟩
      obtain ⟨hW, hs0, hD, rfl⟩ := hh
      have hp := pe_deed (tb := tD X.K X.mg T (fun c H => E (clsOf X.mg c) none H) fb) (p1 := q1) (p2 := q2) (i := 0) (E := E) I1 Ls hf hfn hfr (hbind _ _ _ _ _) tk hW hr' (fun A outer s H hr2 => hbody A outer s H E f c' hr2) rfl (.inl sc4)
      refine (pss_one (ps_ret (pos := q3) hp)).run pins3 s3 σ3 _ D3 I3 ⟨hs0, hco, ?_⟩
      rw [hD]
      exact hb1
    · refine ⟨fun pins3 s3 σ3 H3 D3 I3 hh => ?_⟩
      obtain ⟨j, C, x, rfl, rfl, hcj, hxj, hw⟩ := hh
      exact (pss_one (ps_ret (pos := q8) (pe_word (X := cxT X ["deed", "e"] "_law_told" (defScope stT) fT cdv s' H1) (i := 1) (k := k) hz hfd O.FW O.SW O.bW (fun cdv A outer s H E hx => O.word cdv A outer s H E a oe j C hcj hx) (word_is a j x hxj) ⟨hr'.dp, hr'.un⟩ O.gW rfl (.inl sc3) sc2))).run pins3 s3 σ3 H3 D3 I3 hw
  refine wpAny_call (codeAny_mono rc fun r s2 hq => ?_)
  cases r with
  | error e => exact (show False from hq).elim
  | ok fl =>
    cases fl with
    | ret u => exact I1.after hq
    | next => exact False.elim hq
    | brk => exact False.elim hq
    | cont => exact False.elim hq
end
end Dn


set_option Elab.async false
set_option linter.all false
set_option maxRecDepth 100000
set_option maxHeartbeats 4000000
namespace Dn
open PySem PySem.Spec PyProof.Rows L2
/-! ### defs by their names -/
def FnT (K : PySem.W.Frag) (mg : Str → Option Value) (x : Str) (st : Stmt) (ps : List Str) : Prop := ∃ f fd, Fun K x x st f fd ∧ L2.Binds K fd ps [] ∧ mg x = some (.ref f)
def FnP (P : Program) (w : World) (K : PySem.W.Frag) (mg : Str → Option Value) (base : Heap) (k : Nat) (x : Str) (ps : List Str) (g : List D → Res D) : Prop :=
  ∃ f fd, FnOk P w K mg base (L2N.CX P w) k f fd ps (spD K mg g) ∧ PySem.W.keepIn K (.ref f) = true ∧ L2.Binds K fd ps [] ∧ mg x = some (.ref f)
section
variable {P : Program} {w : World} {K : PySem.W.Frag} {mg : Str → Option Value} {base : Heap}
theorem fnP {x : Str} {st : Stmt} {N ps : List Str} {k : Nat} {fb : Sto → Out} (n m : Nat) (Fn : FnT K mg x st ps) (S : FnScope N ps (defScope st)) (hps : ps.length = n) (hN : N.length = n + m)
    (hbody : ∀ (f : Addr) (cdv : Value) (A : Around) (outer : List Env) (s : Shared) (H : Hp) (E : XK), Room k (A.deeper (envOfC x (defScope st) s.heap.objs.size f cdv)) →
      DSs [] (cxOf (L2N.CX P w) P w K mg base N x (defScope st) f cdv A outer s H E) (fun c H => E (clsOf mg c) none H) (defBody st) fb) : FnP P w K mg base (k + 1) x ps (runF n m fb) := by
  obtain ⟨f, fd, F, b, g⟩ := Fn
  exact ⟨f, fd, fnD n m F S hps hN (hbody f), F.kp, b, g⟩
theorem FnP.mono {j k : Nat} {x : Str} {ps : List Str} {g : List D → Res D} (h : FnP P w K mg base j x ps g) (hj : j ≤ k) : FnP P w K mg base k x ps g := by
  obtain ⟨f, fd, F, r⟩ := h
  exact ⟨f, fd, F.mono hj, r⟩
end
section
variable {T : List (Addr × Str)} {X : Cx} {W : Wi}
theorem de_callP {k : Nat} {ps : List Str} {g : List D → Res D} {x : Str} {e : Expr} {es : List Expr} {p pos : Pos} {fa : Sto → Res (List D)} (G : FnP X.prog X.w X.K X.mg X.base k x ps g) (hr : Room k X.A) (tk : L2N.Takes X (wx X.mg W)) (ha : DA T X W (e :: es) fa)
    (hg : Gl X x := by rfl) (hdb : (x == ("__debug__" : Str)) = false := by decide) (he : starEach (e :: es) X.env = (false, eval e X.env) :: starEach es X.env := by rfl) (hpl : (backTo pos (starEach es X.env)).any (·.1) = false := by rfl) :
    DE T X W (.Call (.Name x p) (e :: es) [] pos) (app g fa) := by
  obtain ⟨f, fd, F, kp, b, m⟩ := G
  exact de_call F hr m kp b tk ha hg hdb he hpl
theorem de_gintE {x : Str} {i : Int} {pos : Pos} (hm : ∃ t, X.mg x = some (.int i t)) (hg : Gl X x := by rfl) (hd : (x == ("__debug__" : Str)) = false := by decide) : DE T X W (.Name x pos) (cst (.int i)) := by
  obtain ⟨t, hm⟩ := hm
  exact de_gint hm hg hd
theorem de_gstrE {x s : Str} {l : List Nat} {pos : Pos} (hm : ∃ t, X.mg x = some (.str s t)) (h : TL.tl s = l := by rfl) (hg : Gl X x := by rfl) (hd : (x == ("__debug__" : Str)) = false := by decide) : DE T X W (.Name x pos) (cst (.str l)) := by
  obtain ⟨t, hm⟩ := hm
  exact de_gstr hm h hg hd
/-- raise of one of the program's errors -/
theorem ds_raiseT {x m : Str} {CT : Addr} {cs : List Addr} {i j : Nat} {p p2 p3 pos : Pos} (tab : ExcTab X.K X.mg CT cs) (hi : exc7[i]? = some x) (hc : X.calm = true) (tk : L2N.Takes X (wx X.mg W)) (hg : Gl X x := by rfl) (hdb : (x == ("__debug__" : Str)) = false := by decide) :
    DS T X W (.Raise (some (.Call (.Name x p) [.Constant (.str m) j p2] [] p3)) none pos) (rais x) := by
  have h7 : i < 7 := (List.getElem?_eq_some_iff.mp hi).1
  have hl : i < cs.length := by rw [tab.len]; exact h7
  have E := tab.each i x cs[i] hi (List.getElem?_eq_getElem hl)
  exact ds_raise hc tk PySem.F.excBase_ValueError E.xin E.g E.kp E.sb E.ty hg hdb
/-- isinstance(x, list) -/
def isLD : D → Res D
  | .lst _ => .ok (.bl true)
  | .str _ => .ok (.bl false)
  | .int _ => .ok (.bl false)
  | .non => .ok (.bl false)
  | _ => .stuck
theorem isL_read {K : PySem.W.Frag} {mg : Str → Option Value} {fe : Sto → Res D} {σ : L2.St} {H : Hp} {Q : VK} (h : tD K mg T W (un isLD fe) σ H Q) : tCB (rIsi K) (tCons (tD K mg T W fe) (tCons (tC (.ty "list")) tNil)) σ H Q := by
  obtain ⟨F, δ, L, h⟩ := h
  refine bindE ppE L h fun d v F1 H1 s1 L1 r1 h1 => ?_
  cases r1 with
  | lst e hl he => exact ⟨_, _, _, _, true, rfl, .ty "list", .base (.lst (L1.sub _ _ e)), kit_ty (by decide +kernel), PostE.here h1 L1.gd (.bl true)⟩
  | str e => exact ⟨_, _, _, _, false, rfl, .ty "list", .base (.str _), kit_ty (by decide +kernel), PostE.here h1 L1.gd (.bl false)⟩
  | int e => exact ⟨_, _, _, _, false, rfl, .ty "list", .base (.int _), kit_ty (by decide +kernel), PostE.here h1 L1.gd (.bl false)⟩
  | non => exact ⟨_, _, _, _, false, rfl, .ty "list", .base .non, kit_ty (by decide +kernel), PostE.here h1 L1.gd (.bl false)⟩
  | _ => exact (show False from h1).elim
theorem de_isL {e : Expr} {fe : Sto → Res D} {p p2 pos : Pos} (he : DE T X W e fe) (hm : X.mg "isinstance" = none) (hl : X.mg "list" = none) (hse : starEach (e :: [.Name "list" p2]) X.env = (false, eval e X.env) :: starEach [.Name "list" p2] X.env := by rfl) (hg : Gl X "isinstance" := by rfl) (hgl : Gl X "list" := by rfl) :
    DE T X W (.Call (.Name "isinstance" p) [e, .Name "list" p2] [] pos) (un isLD fe) :=
  weakE (pe_callB call_isi hg hm (by decide +kernel) (pa_cons he (pa_cons (pe_bltn (v := .ty "list") hgl hl (by decide +kernel) rfl) pa_nil) hse) (by decide) (by decide) hse) fun σ H Q h => isL_read h
/-! ### reads of a list of one's own -/
def lenO (i : Nat) : Sto → Res D := fun δ => match δ[i]? with
  | some (.own ds) => .ok (.int ds.length)
  | _ => .stuck
theorem de_lenO {x : Str} {p p2 pos : Pos} (i : Nat) (hm : X.mg "len" = none) (hN : X.N[i]? = some x := by rfl) (hv : Vis X.env.scope x := by first | exact Or.inl rfl | exact Or.inr (Or.inl rfl) | exact Or.inr (Or.inr rfl)) (hd : (x == ("__debug__" : Str)) = false := by decide) (hcd : (x == ("__classdict__" : Str)) = false := by decide) (hg : Gl X "len" := by rfl) :
    DE T X W (.Call (.Name "len" p) [.Name x p2] [] pos) (lenO i) :=
  weakE (pe_callB call_len hg hm PySem.boot_len (pa_cons (pe_var (i := i) hN hv hd hcd) pa_nil)) fun σ H Q ⟨F, δ, L, h⟩ => by
    unfold lenO at h
    split at h
    · rename_i ds e
      obtain ⟨ov, q, p, vs, rfl, nF, hH, rv⟩ := L.slot i _ e
      refine ⟨.ref p, q, _, vs.length, rfl, .inl ⟨vs, .of hH, rfl⟩, h.here L.gd ?_⟩
      rw [rv.length]
      exact .int _
    · exact h.elim
end
/-! ### the law's own def -/
section
variable {P : Program} {w : World} {K : PySem.W.Frag} {mg : Str → Option Value} {base : Heap} {T : List (Addr × Str)}
/-- the law's promise: it answers True -/
def spL (K : PySem.W.Frag) (mg : Str → Option Value) (T : List (Addr × Str)) (f : List D → Res D) : Sp := fun vs H Q _ => ∃ F ds, Gd T F H ∧ RpL K mg F vs ds ∧ ∃ d, f ds = .ok d ∧ ∀ v F' H', Step T F H F' H' → Rp K mg F' v d → Q v H'
theorem start_T {N : List Str} {vs : List V} {ds : List D} {F H : Hp} (r : RpL K mg F vs ds) (gd : Gd T F H) {n m : Nat} (hn : ds.length = n) (hN : N.length = n + m) : StR K mg T F (H, 0) F H (L2.start N vs) (ds.map Slot.val ++ List.replicate m .no) := by
  have gd0 : Gd [] F H := ⟨gd.sub, (fun p hp => by cases hp), gd.ntb⟩
  have S := start_slots (N := N) r gd0 hn hN
  exact ⟨gd.sub, .refl gd, ⟨gd, S.loc.len, S.loc.slot, S.loc.apart⟩, fun i s a e o q => by
    have no : s.owned = false := by
      by_cases hi : i < (ds.map Slot.val).length
      · rw [List.getElem?_append_left hi, List.getElem?_map] at e
        cases z : ds[i]? with
        | none => rw [z] at e; cases e
        | some d => rw [z] at e; cases e; rfl
      · rw [List.getElem?_append_right (by omega)] at e
        rw [(List.mem_replicate.mp (List.mem_of_getElem? e)).2]
        rfl
    rw [no] at o; cases o⟩
theorem fnL {st : Stmt} {x : Str} {N ps : List Str} {k : Nat} {fb : Sto → Out} {f : Addr} {oc : Value} {od an : Option Addr} {osl : Array (Option Value)} {kV doc pm cdv ct : Value} (n m : Nat)
    (lk : K.lookup f = some ⟨oc, od, .func (PySem.W.fnOf x x (defArgs st) (defBody st) (defScope st) .none kV doc pm an cdv ct), osl⟩) (hcd : PySem.W.codeIn K cdv x = true) (S : FnScope N ps (defScope st)) (hps : ps.length = n) (hN : N.length = n + m)
    (hbody : ∀ (A : Around) (outer : List Env) (s : Shared) (H : Hp) (E : XK), Room k (A.deeper (envOfC x (defScope st) s.heap.objs.size f cdv)) →
      DSs T (cxOf (L2N.CX P w) P w K mg base N x (defScope st) f cdv A outer s H E) (fun c H => E (clsOf mg c) none H) (defBody st) fb) :
    FnOk P w K mg base (L2N.CX P w) (k + 1) f (PySem.W.fnOf x x (defArgs st) (defBody st) (defScope st) .none kV doc pm an cdv ct) ps (spL K mg T (runF n m fb)) := by
  refine fn_of lk hcd S (fun vs H Q E h => ?_) (fun A outer s H vs Q E hr h => ⟨_, hbody A outer s H E hr, ?_⟩)
  · obtain ⟨F, ds, gd, r, d, h, _⟩ := h
    unfold runF at h
    by_cases hl : ds.length = n
    · rw [hps, r.length, hl]
    · rw [if_neg hl] at h; cases h
  · obtain ⟨F, ds, gd, r, d, h, hq⟩ := h
    unfold runF at h
    by_cases hl : ds.length = n
    · rw [if_pos hl] at h
      refine ⟨F, (H, 0), F, _, start_T r gd hl hN, ?_⟩
      cases e : fb (ds.map Slot.val ++ List.replicate m .no) with
      | nx δ => rw [e] at h; cases h; exact fun σ F' H' _ S' => hq .non F' H' S'.st .non
      | rt d => rw [e] at h; cases h; exact hq
      | rs c => rw [e] at h; cases h
      | bk δ => rw [e] at h; cases h
      | ct δ => rw [e] at h; cases h
      | stuck => rw [e] at h; cases h
    · rw [if_neg hl] at h; cases h
theorem law_start {H : Hp} {a : Addr} {ns : List Int} {f : List D → Res D} (hT : ∀ p ∈ T, H p.1 = some (.tbl #[])) (hS : SqL K H a (ns.map V.int)) (hf : f [.scr ns] = .ok (.bl true)) : spL K mg T f [.ref a] H (fun v _ => v = .bl true) fun _ _ _ => False := by
  have one : ∀ o : HO, H a = some o → (∀ ps, o ≠ .tbl ps) → Sub (upd (fun _ => none) a o) H ∧ ∀ b ps, upd (fun _ => none) a o b ≠ some (.tbl ps) := fun o h n => by
    refine ⟨fun b u e => ?_, fun b ps e => ?_⟩
    · by_cases z : b = a
      · subst z; rw [upd_same] at e; cases e; exact h
      · rw [upd_ne z] at e; cases e
    · by_cases z : b = a
      · subst z; rw [upd_same] at e; exact n ps (Option.some.inj e)
      · rw [upd_ne z] at e; cases e
  have hF : ∃ F : Hp, Sub F H ∧ (∀ b ps, F b ≠ some (.tbl ps)) ∧ SqL K F a (ns.map V.int) := by
    rcases hS with (h | ⟨o, h⟩) | h
    · obtain ⟨h1, h2⟩ := one _ h (fun _ z => by cases z)
      exact ⟨_, h1, h2, .inl (.inl upd_same)⟩
    · obtain ⟨h1, h2⟩ := one _ h (fun _ z => by cases z)
      exact ⟨_, h1, h2, .inl (.inr ⟨o, upd_same⟩)⟩
    · exact ⟨fun _ => none, (fun _ _ e => by cases e), (fun _ _ e => by cases e), .inr h⟩
  obtain ⟨F, sb, nt, hq⟩ := hF
  exact ⟨F, [.scr ns], ⟨sb, fun p hp => LamX.TabS.nil (hT p hp), nt⟩, .cons (.scr hq) .nil, .bl true, hf, fun v F' H' _ r => by cases r; rfl⟩
end
end Dn


set_option Elab.async false
set_option linter.all false
set_option maxRecDepth 100000
set_option maxHeartbeats 4000000
namespace Dn
open PySem PySem.Spec PyProof.Rows L2
/-! ### facts of a written top -/
section
variable {K : PySem.W.Frag} {h : Heap} {mg : Str → Option Value}
def excB (K : PySem.W.Frag) (CT C : Addr) : Bool :=
  PySem.W.excIn K C [.type "ValueError", .type "Exception", .type "BaseException", .type "object"] "ValueError.__new__" && (PySem.W.keepIn K (.ref C) && (PySem.W.subIn K (.ref C) (.type "BaseException") == some true && (PySem.W.typeIn K (.ref C) == some (.type "type") &&
  (PySem.W.findIn K (.ref C) "__getattribute__" == some (some (.builtin "BaseException.__getattribute__")) && (PySem.W.findIn K (.ref C) "__getattr__" == some none && (PySem.W.hasDictIn K C && (PySem.W.findIn K (.ref C) "__class__" == some (some (.builtin "object.__class__")) &&
  (PySem.W.specialIn K (.builtin "object.__class__") "__get__" == some (some (.builtin "getset_descriptor.__get__")) && (PySem.W.takesIn K (.builtin "object.__class__") == some true && (PySem.W.mroIn K C (.type "object") == some true &&
  (PySem.W.kitOne K (.ref C) (.type "ValueError") == some true && PySem.W.exmOne K (.ref C) (.ref CT) == some true)))))))))))
theorem exc_mk {CT C : Addr} {x : Str} (X : K.In h) (G : h.Ns mainGlobals mg) (a : PySem.W.nsIn K mainGlobals x = some (some (.ref C))) (e : excB K CT C = true) : ExcOk K mg CT x C := by
  unfold excB at e
  simp only [Bool.and_eq_true, beq_iff_eq] at e
  obtain ⟨e1, e2, e3, e4, e5, e6, e7, e8, e9, e10, e11, e12, e13⟩ := e
  exact ⟨PySem.W.mg_of X G a, e1, e2, e3, e4, ⟨e5, e6, e3, e7, e8, e9, e10, e11⟩, e12, e13⟩
def kitB (K : PySem.W.Frag) (cs : List Addr) : Bool := (List.range 7).all fun i => (List.range 7).all fun j => PySem.W.kitOne K (.ref (cs.getD i 0)) (.ref (cs.getD j 0)) == some (i == j)
theorem tab_mk {CT c0 c1 c2 c3 c4 c5 c6 : Addr} (X : K.In h) (G : h.Ns mainGlobals mg) (aT : PySem.W.nsIn K mainGlobals "TerseError" = some (some (.ref CT))) (a0 : PySem.W.nsIn K mainGlobals "BadNumber" = some (some (.ref c0))) (a1 : PySem.W.nsIn K mainGlobals "BadBits" = some (some (.ref c1)))
    (a2 : PySem.W.nsIn K mainGlobals "BadPlace" = some (some (.ref c2))) (a3 : PySem.W.nsIn K mainGlobals "BadText" = some (some (.ref c3))) (a4 : PySem.W.nsIn K mainGlobals "BadCode" = some (some (.ref c4))) (a5 : PySem.W.nsIn K mainGlobals "BadTree" = some (some (.ref c5))) (a6 : PySem.W.nsIn K mainGlobals "TooMany" = some (some (.ref c6)))
    (e : [c0, c1, c2, c3, c4, c5, c6].all (excB K CT) = true) (ek : kitB K [c0, c1, c2, c3, c4, c5, c6] = true) : ExcTab K mg CT [c0, c1, c2, c3, c4, c5, c6] := by
  have e' := List.all_eq_true.mp e
  refine ⟨PySem.W.mg_of X G aT, rfl, fun i x C hx hC => ?_, fun i j C C' hi hj => ?_⟩
  · have hb := e' C (List.mem_of_getElem? hC)
    have h7 : i < 7 := (List.getElem?_eq_some_iff.mp hC).1
    rcases (show i = 0 ∨ i = 1 ∨ i = 2 ∨ i = 3 ∨ i = 4 ∨ i = 5 ∨ i = 6 by omega) with rfl | rfl | rfl | rfl | rfl | rfl | rfl <;> cases hx <;> cases hC
    · exact exc_mk X G a0 hb
    · exact exc_mk X G a1 hb
    · exact exc_mk X G a2 hb
    · exact exc_mk X G a3 hb
    · exact exc_mk X G a4 hb
    · exact exc_mk X G a5 hb
    · exact exc_mk X G a6 hb
  · have i7 : i < 7 := (List.getElem?_eq_some_iff.mp hi).1
    have j7 : j < 7 := (List.getElem?_eq_some_iff.mp hj).1
    have q := List.all_eq_true.mp (List.all_eq_true.mp ek i (List.mem_range.mpr i7)) j (List.mem_range.mpr j7)
    rw [List.getD_eq_getElem?_getD, List.getD_eq_getElem?_getD, hi, hj] at q
    exact beq_iff_eq.mp q
theorem fnT_mk {x : Str} {st : Stmt} {ps : List Str} {f : Addr} {oc : Value} {od an : Option Addr} {osl : Array (Option Value)} {kV doc pm cdv ct : Value} (X : K.In h) (G : h.Ns mainGlobals mg) (a : PySem.W.nsIn K mainGlobals x = some (some (.ref f)))
    (l : K.lookup f = some ⟨oc, od, .func (PySem.W.fnOf x x (defArgs st) (defBody st) (defScope st) .none kV doc pm an cdv ct), osl⟩) (c : PySem.W.codeIn K cdv x = true) (k : PySem.W.keepIn K (.ref f) = true)
    (hb : ∀ fd, Fun K x x st f fd → L2.Binds K fd ps []) : FnT K mg x st ps :=
  ⟨f, _, fun_mk l c k, hb _ (fun_mk l c k), PySem.W.mg_of X G a⟩
end
theorem law_at {l : PySem.W.OpenLaw} {w : World} {K : PySem.W.Frag} {k : Nat} {mg : Str → Option Value} {fa f : Addr} {h : Heap} {st : Stmt} {c P' : Addr} {oc : Value} {od an : Option Addr} {osl : Array (Option Value)} {kV doc pm ct : Value} {e : Value} {dd : Option Addr} {vs : Array Value} {sl : Array (Option Value)} {d : List D → Res D} {q : Str}
    (X : K.In h) (G : h.Ns mainGlobals mg) (own : LamX.OwnTab K fa h) (hfa : mg "law" = some (.ref fa)) (a : PySem.W.nsIn K mainGlobals "law" = some (some (.ref f)))
    (lk : K.lookup f = some ⟨oc, od, .func (PySem.W.fnOf "law" "law" (defArgs st) (defBody st) (defScope st) .none kV doc pm an (.ref c) ct), osl⟩) (lc : K.lookup c = some ⟨e, dd, .fields vs, sl⟩) (h11 : vs[11]? = some (.ref P')) (hd : PySem.W.codeHdIn K c P' = true) (np : K.lookup P' = none)
    (hb : ∀ (s : Shared) (u : Value), BindsTo s (PySem.W.fnOf "law" "law" (defArgs st) (defBody st) (defScope st) .none kV doc pm an (.ref c) ct) ⟨[u], []⟩ [("script", u)])
    (hm : ∀ ns : List Int, ns.length ≤ 63 → (∀ z ∈ ns, Builtin.Int.intBits z ≤ 1048576) → d [.scr ns] = .ok (.bl true))
    (hF : ∀ base : Heap, K.In base → base.Ns mainGlobals mg → LamX.TabB base mg c P' → FnOk l.prog w K mg base (L2N.CX l.prog w) k f (PySem.W.fnOf "law" "law" (defArgs st) (defBody st) (defScope st) .none kV doc pm an (.ref c) ct) ["script"] (spL K mg [(P', q)] d)) :
    LamX.LawAtS l w K (L2N.CX l.prog w) k 63 "script" mg fa h := by
  have e := hfa.symm.trans (PySem.W.mg_of X G a)
  cases e
  refine ⟨_, [(c, P')], spL K mg [(P', q)] d, fun p hp => ?_, fun p hp => ?_, fun p hp => ?_, hb, fun H a ns hl hbits hH hS => ?_, fun base KX G' TB => hF base KX G' (TB _ List.mem_cons_self)⟩
  · cases List.mem_singleton.mp hp
    exact own c P' _ _ _ _ _ _ lk rfl rfl lc h11
  · cases List.mem_singleton.mp hp
    exact np
  · cases List.mem_singleton.mp hp
    exact PySem.W.codeHd_of_K X hd
  · refine law_start (fun p hp => ?_) hS (hm ns hl hbits)
    cases List.mem_singleton.mp hp
    exact hH _ List.mem_cons_self
end Dn


set_option Elab.async false
set_option linter.all false
set_option maxRecDepth 100000
set_option maxHeartbeats 4000000
namespace Dn
open PySem PySem.Spec PyProof.Rows L2
/-! ### working out -/
section
variable {α : Type} {δ : Sto} {f g : Sto → Out} {fe fa fb : Sto → Res D} {ft fu : Sto → Res Bool}
def Out.seq : Out → (Sto → Out) → Out
  | .nx δ, g => g δ
  | .rt d, _ => .rt d
  | .rs c, _ => .rs c
  | .bk δ, _ => .bk δ
  | .ct δ, _ => .ct δ
  | .stuck, _ => .stuck
@[simp] theorem seq_nx : (Out.nx δ).seq g = g δ := nrfl rfl
@[simp] theorem seq_rt {d : D} : (Out.rt d).seq g = .rt d := nrfl rfl
@[simp] theorem seq_rs {c : Str} : (Out.rs c).seq g = .rs c := nrfl rfl
@[simp] theorem seq_bk : (Out.bk δ).seq g = .bk δ := nrfl rfl
@[simp] theorem seq_ct : (Out.ct δ).seq g = .ct δ := nrfl rfl
@[simp] theorem seq_stuck : Out.stuck.seq g = .stuck := nrfl rfl
@[simp] theorem seqS_eq : seqS f g δ = (f δ).seq g := by unfold seqS; cases f δ <;> rfl
theorem seq_to {δ' : Sto} (h : f δ = .nx δ') : seqS f g δ = g δ' := by rw [seqS_eq, h]; rfl
@[simp] theorem nopS_eq : nopS δ = .nx δ := nrfl rfl
@[simp] theorem asg_eq {i : Nat} : asg i fe δ = (fe δ).out fun d => .nx (δ.set i (.val d)) := nrfl rfl
@[simp] theorem asgN_eq {i : Nat} {fl : Sto → Res (List D)} : asgN i fl δ = (fl δ).out fun d => .nx (δ.set i (.own d)) := nrfl rfl
@[simp] theorem drp_eq : drp fe δ = (fe δ).out fun _ => .nx δ := nrfl rfl
@[simp] theorem retS_eq : retS fe δ = (fe δ).out .rt := nrfl rfl
@[simp] theorem retN_eq : retN δ = .rt .non := nrfl rfl
@[simp] theorem rais_eq {c : Str} : rais c δ = .rs c := nrfl rfl
@[simp] theorem ifS_eq : ifS ft f g δ = (ft δ).out fun b => if b = true then f δ else g δ := nrfl rfl
@[simp] theorem forF_eq {fi : Sto → Res (List D)} {gt : D → Sto → Option Sto} : forF fi gt f δ = (fi δ).out fun xs => forS gt f xs δ := nrfl rfl
@[simp] theorem vr_eq {i : Nat} : vr i δ = (match δ[i]? with | some (.val d) => .ok d | _ => .stuck) := nrfl rfl
@[simp] theorem cst_eq {d : D} : cst d δ = .ok d := nrfl rfl
@[simp] theorem bin_eq {h : D → D → Res D} : bin h fa fb δ = (fa δ).bind fun x => (fb δ).bind fun y => h x y := nrfl rfl
@[simp] theorem un_eq {h : D → Res D} : un h fa δ = (fa δ).bind h := nrfl rfl
@[simp] theorem nilA_eq : nilA δ = .ok [] := nrfl rfl
@[simp] theorem consA_eq {fr : Sto → Res (List D)} : consA fa fr δ = (fa δ).bind fun x => (fr δ).bind fun xs => .ok (x :: xs) := nrfl rfl
@[simp] theorem app_eq {h : List D → Res D} {fr : Sto → Res (List D)} : app h fr δ = (fr δ).bind h := nrfl rfl
@[simp] theorem tst_eq : tst fa δ = (fa δ).bind asB := nrfl rfl
@[simp] theorem asB_bl {b : Bool} : asB (.bl b) = .ok b := nrfl rfl
@[simp] theorem andT_eq : andT ft fu δ = (ft δ).bind fun b => if b = true then fu δ else .ok false := nrfl rfl
@[simp] theorem orT_eq : orT ft fu δ = (ft δ).bind fun b => if b = true then .ok true else fu δ := nrfl rfl
@[simp] theorem notT_eq : notT ft δ = (ft δ).bind fun b => .ok (!b) := nrfl rfl
@[simp] theorem notD_bl {b : Bool} : notD (.bl b) = .ok (.bl (!b)) := nrfl rfl
@[simp] theorem ifE_eq : ifE ft fa fb δ = (ft δ).bind fun b => if b = true then fa δ else fb δ := nrfl rfl
@[simp] theorem newA_eq {fr : Sto → Res (List D)} : newA fr δ = (fr δ).bind mkN := nrfl rfl
@[simp] theorem lstE_eq {fr : Sto → Res (List D)} : lstE fr δ = (fr δ).bind fun xs => .ok (.lst xs) := nrfl rfl
@[simp] theorem itS_eq : itS fe δ = (fe δ).bind asSeq := nrfl rfl
@[simp] theorem rngA_eq {h : List D → Res (List D)} {fr : Sto → Res (List D)} : rngA h fr δ = (fr δ).bind h := nrfl rfl
@[simp] theorem noP_eq : noP δ = .ok none := nrfl rfl
@[simp] theorem part_eq : part fe δ = (fe δ).bind asP := nrfl rfl
@[simp] theorem asP_int {i : Int} : asP (.int i) = .ok (some i) := nrfl rfl
@[simp] theorem slc_eq {fl fh : Sto → Res (Option Int)} : slc fa fl fh δ = (fa δ).bind fun x => (fl δ).bind fun lo => (fh δ).bind fun hi => slD x lo hi := nrfl rfl
@[simp] theorem binS_eq {h : List Nat → D → Res D} : binS h fa fb δ = (fa δ).bind fun x => (match x with | .str s => (fb δ).bind (h s) | _ => .stuck) := nrfl rfl
@[simp] theorem yes_eq : yes δ = .ok true := nrfl rfl
@[simp] theorem told_eq : told fe δ = (match fe δ with | .ok d => .ok d | .rs c => if c ∈ exc7 then .ok (.str (TL.tl c)) else .stuck | .stuck => .stuck) := nrfl rfl
@[simp] theorem tgN_eq {i : Nat} {d : D} : tgN i d δ = some (δ.set i (.val d)) := nrfl rfl
@[simp] theorem addD_int {i j : Int} : addD (.int i) (.int j) = .ok (.int (i + j)) := nrfl rfl
@[simp] theorem subD_int {i j : Int} : subD (.int i) (.int j) = .ok (.int (i - j)) := nrfl rfl
@[simp] theorem negD_int {i : Int} : negD (.int i) = .ok (.int (-i)) := nrfl rfl
theorem addD_str {a b : List Nat} (h : a.length + b.length ≤ line) : addD (.str a) (.str b) = .ok (.str (a ++ b)) := if_pos h
theorem addD_lst {a b : List D} (h : a.length + b.length ≤ line) : addD (.lst a) (.lst b) = .ok (.lst (a ++ b)) := if_pos h
theorem mulD_int {i j : Int} (h : mulOk i j = true) : mulD (.int i) (.int j) = .ok (.int (i * j)) := if_pos h
theorem fdivD_int {i j : Int} (h : 0 < j ∧ j < 2 ^ 200) : fdivD (.int i) (.int j) = .ok (.int (i / j)) := if_pos h
theorem modD_int {i j : Int} (h : 0 < j) : modD (.int i) (.int j) = .ok (.int (i % j)) := if_pos h
@[simp] theorem ltD_int {i j : Int} : ltD (.int i) (.int j) = .ok (.bl (decide (i < j))) := nrfl rfl
@[simp] theorem leD_int {i j : Int} : leD (.int i) (.int j) = .ok (.bl (decide (i ≤ j))) := nrfl rfl
@[simp] theorem gtD_int {i j : Int} : gtD (.int i) (.int j) = .ok (.bl (decide (j < i))) := nrfl rfl
@[simp] theorem geD_int {i j : Int} : geD (.int i) (.int j) = .ok (.bl (decide (j ≤ i))) := nrfl rfl
@[simp] theorem eqD_int {i j : Int} : eqD (.int i) (.int j) = .ok (.bl (decide (i = j))) := by unfold eqD; rfl
@[simp] theorem eqD_str {i j : List Nat} : eqD (.str i) (.str j) = .ok (.bl (decide (i = j))) := by unfold eqD; rfl
@[simp] theorem neD_int {i j : Int} : neD (.int i) (.int j) = .ok (.bl (!decide (i = j))) := by unfold neD; rw [eqD_int]; rfl
@[simp] theorem neD_str {i j : List Nat} : neD (.str i) (.str j) = .ok (.bl (!decide (i = j))) := by unfold neD; rw [eqD_str]; rfl
@[simp] theorem lenD_lst {a : List D} : lenD [.lst a] = .ok (.int a.length) := nrfl rfl
@[simp] theorem lenD_tup {a : List D} : lenD [.tup a] = .ok (.int a.length) := nrfl rfl
@[simp] theorem lenD_scr {a : List Int} : lenD [.scr a] = .ok (.int a.length) := nrfl rfl
theorem lenD_str {a : List Nat} (h : a.length ≤ line) : lenD [.str a] = .ok (.int a.length) := if_pos h
@[simp] theorem max2D_int {i j : Int} : max2D [.int i, .int j] = .ok (.int (max i j)) := nrfl rfl
@[simp] theorem min2D_int {i j : Int} : min2D [.int i, .int j] = .ok (.int (min i j)) := nrfl rfl
@[simp] theorem asSeq_lst {a : List D} : asSeq (.lst a) = .ok a := nrfl rfl
@[simp] theorem asSeq_tup {a : List D} : asSeq (.tup a) = .ok a := nrfl rfl
@[simp] theorem asSeq_str {a : List Nat} : asSeq (.str a) = .ok (a.map fun c => .str [c]) := nrfl rfl
theorem rng1 {j : Int} (h : okI j) : asRng1 [.int j] = .ok (upTo 0 j.toNat) := if_pos h
theorem rng2 {i j : Int} (h : okI i ∧ okI j) : asRng2 [.int i, .int j] = .ok (upTo i (j - i).toNat) := if_pos h
theorem mkL_ok {xs : List D} (h : xs.length ≤ line) : mkL xs = .ok (.lst xs) := if_pos h
def Out.fin : Out → Res D
  | .nx _ => .ok .non
  | .rt d => .ok d
  | .rs c => .rs c
  | _ => .stuck
@[simp] theorem fin_nx : (Out.nx δ).fin = .ok .non := nrfl rfl
@[simp] theorem fin_rt {d : D} : (Out.rt d).fin = .ok d := nrfl rfl
@[simp] theorem fin_rs {c : Str} : (Out.rs c).fin = .rs c := nrfl rfl
@[simp] theorem fin_stuck : Out.stuck.fin = .stuck := nrfl rfl
theorem run_eq {n m : Nat} {ds : List D} (h : ds.length = n) : runF n m f ds = (f (ds.map Slot.val ++ List.replicate m .no)).fin := by
  unfold runF
  rw [if_pos h]
  cases f (ds.map Slot.val ++ List.replicate m .no) <;> rfl
theorem okI_of {j : Int} (h0 : 0 ≤ j) (h1 : j ≤ 1000000000000) : okI j := ⟨by omega, by omega⟩
end
/-! ### loops -/
section
variable {t : Sto → Res Bool} {b : Sto → Out} {δ δ' : Sto} {n : Nat}
theorem wh_step (ht : t δ = .ok true) (hb : b δ = .nx δ') : whS t b (n + 1) δ = whS t b n δ' := by
  rw [whS, ht, out_ok, if_pos rfl, hb]
theorem wh_end (ht : t δ = .ok false) : whS t b (n + 1) δ = .nx δ := by
  rw [whS, ht]; rfl
variable {g : D → Sto → Option Sto} {x : D} {xs : List D} {δ1 : Sto}
@[simp] theorem for_nil : forS g b [] δ = .nx δ := nrfl rfl
theorem for_step (hg : g x δ = some δ1) (hb : b δ1 = .nx δ') : forS g b (x :: xs) δ = forS g b xs δ' := by
  rw [forS, hg]; show (match b δ1 with | .nx δ' => forS g b xs δ' | .ct δ' => forS g b xs δ' | .bk δ' => .nx δ' | o => o) = _; rw [hb]
theorem for_rt {d : D} (hg : g x δ = some δ1) (hb : b δ1 = .rt d) : forS g b (x :: xs) δ = .rt d := by
  rw [forS, hg]; show (match b δ1 with | .nx δ' => forS g b xs δ' | .ct δ' => forS g b xs δ' | .bk δ' => .nx δ' | o => o) = _; rw [hb]
theorem for_rs {c : Str} (hg : g x δ = some δ1) (hb : b δ1 = .rs c) : forS g b (x :: xs) δ = .rs c := by
  rw [forS, hg]; show (match b δ1 with | .nx δ' => forS g b xs δ' | .ct δ' => forS g b xs δ' | .bk δ' => .nx δ' | o => o) = _; rw [hb]
/-- a loop that keeps what is to be kept -/
theorem for_inv {I : Nat → Sto → Prop} : ∀ {xs : List D} {δ : Sto} (k : Nat), I k δ → (∀ (i : Nat) x δ, xs[i]? = some x → I (k + i) δ → ∃ δ1 δ2, g x δ = some δ1 ∧ b δ1 = .nx δ2 ∧ I (k + i + 1) δ2) → ∃ δ', forS g b xs δ = .nx δ' ∧ I (k + xs.length) δ'
  | [], δ, k, h0, _ => ⟨δ, rfl, h0⟩
  | x :: xs, δ, k, h0, hs => by
    obtain ⟨δ1, δ2, e1, e2, h2⟩ := hs 0 x δ rfl h0
    obtain ⟨δ', e3, h3⟩ := for_inv (xs := xs) (k + 1) h2 fun i y δ hy hi => by
      have := hs (i + 1) y δ hy (by rw [show k + (i + 1) = k + 1 + i by omega]; exact hi)
      rw [show k + (i + 1) = k + 1 + i by omega] at this
      exact this
    exact ⟨δ', by rw [for_step e1 e2, e3], by rw [List.length_cons, show k + (xs.length + 1) = k + 1 + xs.length by omega]; exact h3⟩
/-! ### comprehensions -/
variable {gt : D → Sto → Option Sto} {vs : List Nat} {ft : Sto → Res Bool} {fe : Sto → Res D}
theorem lcS_map {f : D → D} : ∀ {xs : List D}, (∀ x ∈ xs, ∃ δ', gt x (wipeS δ vs) = some δ' ∧ ft δ' = .ok true ∧ fe δ' = .ok (f x)) → lcS gt vs ft fe xs δ = .ok (xs.map f)
  | [], _ => rfl
  | x :: xs, h => by
    obtain ⟨δ', e1, e2, e3⟩ := h x List.mem_cons_self
    have ih := lcS_map (xs := xs) fun y hy => h y (List.mem_cons_of_mem _ hy)
    rw [lcS, e1]
    dsimp only
    rw [e2]
    simp [e3, ih]
theorem lcF_map {fi : Sto → Res (List D)} {f : D → D} {xs : List D} (hi : fi δ = .ok xs) (hl : xs.length ≤ line) (h : ∀ x ∈ xs, ∃ δ', gt x (wipeS δ vs) = some δ' ∧ ft δ' = .ok true ∧ fe δ' = .ok (f x)) : lcF fi gt vs ft fe δ = .ok (xs.map f) := by
  unfold lcF
  rw [hi]
  rw [bind_ok, if_pos hl]
  exact lcS_map h
theorem lcN_map {fi : Sto → Res (List D)} {f : D → D} {xs : List D} {j : Nat} (hi : fi δ = .ok xs) (hl : xs.length ≤ line) (h : ∀ x ∈ xs, fe ((wipeS δ vs).set j (.val x)) = .ok (f x)) : lcF fi (tgN j) vs yes fe δ = .ok (xs.map f) :=
  lcF_map hi hl fun x hx => ⟨_, rfl, rfl, h x hx⟩
end
/-! ### equal data -/
mutual
theorem eqv_self : ∀ d : PyData, d.canLay0 = true → PyData.eqv d d = true
  | .none, _ => by rw [PyData.eqv]
  | .bool b, _ => by rw [PyData.eqv]; exact beq_self_eq_true b
  | .int b, _ => by rw [PyData.eqv]; exact beq_self_eq_true b
  | .str b, _ => by rw [PyData.eqv]; exact beq_self_eq_true b
  | .list xs, h => by rw [PyData.eqv]; exact eqvAll_self xs (by rw [PyData.canLay0] at h; exact h)
  | .tuple xs, h => by rw [PyData.eqv]; exact eqvAll_self xs (by rw [PyData.canLay0] at h; exact h)
  | .dict xs, h => by rw [PyData.canLay0] at h; cases h
theorem eqvAll_self : ∀ xs : List PyData, PyData.canLayAll0 xs = true → PyData.eqvAll xs xs = true
  | [], _ => by rw [PyData.eqvAll]
  | x :: xs, h => by
    rw [PyData.canLayAll0, Bool.and_eq_true] at h
    rw [PyData.eqvAll, eqv_self x h.1, eqvAll_self xs h.2]; rfl
end
theorem pl_can {d : D} (h : pl d = true) : (toPy d).canLay0 = true := SeqAt.canLay_of_shaped h
theorem eqD_self {d : D} (h : pl d = true) : eqD d d = .ok (.bl true) := by
  have e : (if (pl d && pl d) = true then (Res.ok (D.bl (PyData.eqv (toPy d) (toPy d)))) else .stuck) = .ok (.bl true) := by
    rw [h]
    show Res.ok (D.bl (PyData.eqv (toPy d) (toPy d))) = _
    rw [eqv_self _ (pl_can h)]
  cases d with
  | int i => rw [eqD_int, decide_eq_true rfl]
  | str i => rw [eqD_str, decide_eq_true rfl]
  | bl b => show Res.ok (D.bl (decide (b = b))) = _; rw [decide_eq_true rfl]
  | non => unfold eqD; rfl
  | _ => unfold eqD; exact e
theorem neD_self {d : D} (h : pl d = true) : neD d d = .ok (.bl false) := by
  unfold neD; rw [eqD_self h]; rfl
/-- data that can be compared, of depth n at most -/
def shD (n : Nat) (d : D) : Prop := (toPy d).canLay0 = true ∧ (toPy d).depth ≤ n
theorem pl_of {d : D} (h : shD 64 d) : pl d = true := by
  unfold pl SeqAt.shaped
  rw [h.1, decide_eq_true h.2]; rfl
theorem shD.mono {n m : Nat} {d : D} (h : shD n d) (hm : n ≤ m) : shD m d := ⟨h.1, Nat.le_trans h.2 hm⟩
theorem sh_int {n : Nat} {i : Int} : shD n (.int i) := ⟨by rw [toPy, PyData.canLay0], by rw [toPy, PyData.depth]; exact Nat.zero_le _⟩
theorem sh_bl {n : Nat} {i : Bool} : shD n (.bl i) := ⟨by rw [toPy, PyData.canLay0], by rw [toPy, PyData.depth]; exact Nat.zero_le _⟩
theorem sh_non {n : Nat} : shD n .non := ⟨by rw [toPy, PyData.canLay0], by rw [toPy, PyData.depth]; exact Nat.zero_le _⟩
theorem sh_all {n : Nat} : ∀ {xs : List D}, (∀ x ∈ xs, shD n x) → PyData.canLayAll0 (toPys xs) = true ∧ PyData.depthAll (toPys xs) ≤ n
  | [], _ => by rw [toPys, PyData.canLayAll0, PyData.depthAll]; exact ⟨rfl, Nat.zero_le _⟩
  | x :: xs, h => by
    obtain ⟨h1, h2⟩ := sh_all (xs := xs) fun y hy => h y (List.mem_cons_of_mem _ hy)
    obtain ⟨g1, g2⟩ := h x List.mem_cons_self
    rw [toPys, PyData.canLayAll0, PyData.depthAll, g1, h1]
    exact ⟨rfl, Nat.max_le.mpr ⟨g2, h2⟩⟩
theorem sh_lst {n : Nat} {xs : List D} (h : ∀ x ∈ xs, shD n x) : shD (n + 1) (.lst xs) := by
  obtain ⟨h1, h2⟩ := sh_all h
  exact ⟨by rw [toPy, PyData.canLay0]; exact h1, by rw [toPy, PyData.depth]; omega⟩
theorem sh_tup {n : Nat} {xs : List D} (h : ∀ x ∈ xs, shD n x) : shD (n + 1) (.tup xs) := by
  obtain ⟨h1, h2⟩ := sh_all h
  exact ⟨by rw [toPy, PyData.canLay0]; exact h1, by rw [toPy, PyData.depth]; omega⟩
theorem sh_str {n : Nat} {l : List Nat} (h : ∀ c ∈ l, c < 1114112) : shD n (.str l) := ⟨by
  rw [toPy, PyData.canLay0]
  simp only [PySem.PyData.strOk, Array.all_eq_true']
  intro c hc
  exact decide_eq_true (h c (by simpa using hc)), by rw [toPy, PyData.depth]; exact Nat.zero_le _⟩
theorem pl_ints {ns : List Int} : pl (.lst (ns.map .int)) = true := pl_of ((sh_lst (n := 0) fun x hx => by
  obtain ⟨i, _, rfl⟩ := List.mem_map.mp hx
  exact sh_int).mono (by decide))
theorem joinL_nil : ∀ ls : List (List Nat), TL.joinL [] ls = ls.flatten
  | [] => rfl
  | [x] => by simp [TL.joinL]
  | x :: y :: r => by rw [TL.joinL, joinL_nil (y :: r)]; simp
theorem sum_lens : ∀ ls : List (List Nat), (ls.map List.length).sum = ls.flatten.length
  | [] => rfl
  | x :: r => by rw [List.map_cons, List.sum_cons, sum_lens r, List.flatten_cons, List.length_append]
theorem join_is {ls : List (List Nat)} (h : ls.flatten.length ≤ line) : joinD [] (.lst (ls.map .str)) = .ok (.str ls.flatten) := by
  have e : joinD [] (.lst (ls.map .str)) = (match textsO (ls.map .str) with | some ls => if (ls.map List.length).sum + ls.length * ([] : List Nat).length ≤ line then .ok (.str (TL.joinL [] ls)) else .stuck | none => .stuck) := rfl
  rw [e, texts_map]
  show (if (ls.map List.length).sum + ls.length * ([] : List Nat).length ≤ line then _ else _) = _
  rw [if_pos (by rw [sum_lens]; simpa using h), joinL_nil]
theorem told_of {x : Str} {l : List Nat} {fe : Sto → Res D} {δ : Sto} (hx : x ∈ exc7) (hl : TL.tl x = l) (h : fe δ = .rs x) : told fe δ = .ok (.str l) := by
  unfold told
  rw [h]
  show (if x ∈ exc7 then _ else _) = _
  rw [if_pos hx, hl]
theorem told_ok' {d : D} {fe : Sto → Res D} {δ : Sto} (h : fe δ = .ok d) : told fe δ = .ok d := by
  unfold told
  rw [h]
theorem told_BadNumber {fe : Sto → Res D} {δ : Sto} (h : fe δ = .rs "BadNumber") : told fe δ = .ok (.str [66, 97, 100, 78, 117, 109, 98, 101, 114]) := told_of (by decide +kernel) rfl h
theorem told_BadBits {fe : Sto → Res D} {δ : Sto} (h : fe δ = .rs "BadBits") : told fe δ = .ok (.str [66, 97, 100, 66, 105, 116, 115]) := told_of (by decide +kernel) rfl h
theorem told_BadPlace {fe : Sto → Res D} {δ : Sto} (h : fe δ = .rs "BadPlace") : told fe δ = .ok (.str [66, 97, 100, 80, 108, 97, 99, 101]) := told_of (by decide +kernel) rfl h
theorem told_BadText {fe : Sto → Res D} {δ : Sto} (h : fe δ = .rs "BadText") : told fe δ = .ok (.str [66, 97, 100, 84, 101, 120, 116]) := told_of (by decide +kernel) rfl h
theorem told_BadCode {fe : Sto → Res D} {δ : Sto} (h : fe δ = .rs "BadCode") : told fe δ = .ok (.str [66, 97, 100, 67, 111, 100, 101]) := told_of (by decide +kernel) rfl h
theorem told_BadTree {fe : Sto → Res D} {δ : Sto} (h : fe δ = .rs "BadTree") : told fe δ = .ok (.str [66, 97, 100, 84, 114, 101, 101]) := told_of (by decide +kernel) rfl h
theorem told_TooMany {fe : Sto → Res D} {δ : Sto} (h : fe δ = .rs "TooMany") : told fe δ = .ok (.str [84, 111, 111, 77, 97, 110, 121]) := told_of (by decide +kernel) rfl h
theorem pl_texts {ts : List (List Nat)} (h : ∀ t ∈ ts, ∀ c ∈ t, c < 1114112) : pl (.lst (ts.map .str)) = true := pl_of ((sh_lst (n := 0) fun x hx => by
  obtain ⟨t, ht, rfl⟩ := List.mem_map.mp hx
  exact sh_str (h t ht)).mono (by decide))
theorem toPys_len : ∀ xs : List D, (toPys xs).length = xs.length
  | [] => by rw [toPys]; rfl
  | x :: xs => by rw [toPys, List.length_cons, List.length_cons, toPys_len xs]
theorem script_nil (ns : List Int) : eqD (.scr ns) (.lst []) = .ok (.bl (decide (ns = []))) := by
  have p1 : pl (.scr ns) = true := pl_of (by
    refine ⟨?_, ?_⟩
    · rw [toPy, PyData.canLay0]
      induction ns with
      | nil => rw [List.map_nil, PyData.canLayAll0]
      | cons n ns ih => rw [List.map_cons, PyData.canLayAll0, ih, PyData.canLay0]; rfl
    · rw [toPy, PyData.depth]
      have : PyData.depthAll (ns.map PyData.int) = 0 := by
        induction ns with
        | nil => rw [List.map_nil, PyData.depthAll]
        | cons n ns ih => rw [List.map_cons, PyData.depthAll, ih, PyData.depth]; rfl
      omega)
  have p2 : pl (.lst []) = true := pl_of (sh_lst (n := 63) fun x hx => by cases hx)
  unfold eqD
  show (if (pl (.scr ns) && pl (.lst [])) = true then (Res.ok (D.bl (PyData.eqv (toPy (.scr ns)) (toPy (.lst []))))) else .stuck) = _
  rw [p1, p2]
  show Res.ok (D.bl (PyData.eqv (toPy (.scr ns)) (toPy (.lst [])))) = _
  rw [toPy, toPy, toPys, PyData.eqv]
  cases ns with
  | nil => rw [List.map_nil, PyData.eqvAll]; rfl
  | cons n ns => rw [List.map_cons, PyData.eqvAll]; rfl
end Dn


set_option Elab.async false
set_option linter.all false
set_option maxRecDepth 100000
set_option maxHeartbeats 4000000
namespace Dn
open PySem PySem.Spec PyProof.Rows L2
/-! ### more methods of texts -/
def metS (g : List Nat → List D → Res D) (fo : Sto → Res D) (fa : Sto → Res (List D)) : Sto → Res D := fun δ => (fo δ).bind fun x => match x with
  | .str l => (fa δ).bind (g l)
  | _ => .stuck
/-- the place of the first c from i on -/
def fnd (c i : Nat) (l : List Nat) : Int := match (l.drop i).findIdx? (fun d => d == c) with
  | some j => ((i + j : Nat) : Int)
  | none => -1
def findD (l : List Nat) : List D → Res D
  | [.str [c], .int i] => if 0 ≤ i then .ok (.int (fnd c i.toNat l)) else .stuck
  | _ => .stuck
theorem getD_tl (x : Str) (v : Nat) : x.cps.getD v 0 = (TL.tl x).getD v 0 := by
  obtain ⟨⟨l⟩⟩ := x
  show (Array.mk l).getD v 0 = l.getD v 0
  by_cases h : v < l.length
  · simp [Array.getD, h]
  · simp [Array.getD, h]
theorem find_is (x : Str) (c : Nat) (i : Int) (hi : 0 ≤ i) : Txt.find3 x ⟨#[c]⟩ i = fnd c i.toNat (TL.tl x) := by
  have hl : x.length = (TL.tl x).length := TL.len_tl x ▸ rfl
  have e : PySem.fromIndex x.length i = i.toNat := by
    unfold PySem.fromIndex
    omega
  unfold fnd
  rcases StrLaws.find3_spec x c i with ⟨h1, h2⟩ | ⟨k, h1, h2, h3, h4, h5⟩
  · rw [h1]
    have : ((TL.tl x).drop i.toNat).findIdx? (fun d => d == c) = none := by
      rw [List.findIdx?_eq_none_iff]
      intro d hd
      obtain ⟨j, hj⟩ := List.mem_iff_getElem?.mp hd
      rw [List.getElem?_drop] at hj
      have hlt := (List.getElem?_eq_some_iff.mp hj).1
      have := h2 (i.toNat + j) (by omega) (by omega)
      rw [getD_tl, List.getD_eq_getElem?_getD, hj] at this
      simpa using this
    rw [this]
  · rw [h1]
    have : ((TL.tl x).drop i.toNat).findIdx? (fun d => d == c) = some (k - i.toNat) := by
      rw [List.findIdx?_eq_some_iff_getElem]
      refine ⟨by rw [List.length_drop]; omega, ?_, fun j hj => ?_⟩
      · rw [List.getElem_drop]
        rw [getD_tl, List.getD_eq_getElem?_getD, List.getElem?_eq_getElem (by omega)] at h4
        simp only [show i.toNat + (k - i.toNat) = k by omega]
        simpa using h4
      · have := h5 (i.toNat + j) (by omega) (by omega)
        rw [getD_tl, List.getD_eq_getElem?_getD, List.getElem?_eq_getElem (by omega)] at this
        rw [List.getElem_drop]
        simpa using this
    rw [this]
    show (k : Int) = ((i.toNat + (k - i.toNat) : Nat) : Int)
    omega
section
variable {T : List (Addr × Str)} {X : Cx} {W : Wi}
theorem de_find {o e e2 : Expr} {fo : Sto → Res D} {fa : Sto → Res (List D)} {apos pos : Pos} (ho : DE T X W o fo) (ha : DA T X W [e, e2] fa) (hs : starEach [e, e2] X.env = (false, eval e X.env) :: starEach [e2] X.env := by rfl) (hbase : attributeBase o "find" X.env (eval o X.env) = eval o X.env := by rfl)
    (hfew : ((backTo pos (starEach [e, e2] X.env)).all (fun x => !x.1) && (backToKw pos (keywordEach [] X.env)).all (fun x => x.1.isSome) && decide ([e, e2].length + ([] : List Keyword).length + (if ([] : List Keyword).isEmpty then 0 else 1) < 30)) = true := by rfl)
    (hline : (apos.endLine == pos.line) = true := by rfl) (hplain : (backTo pos (starEach [e2] X.env)).any (·.1) = false := by rfl) :
    DE T X W (.Call (.Attribute o "find" apos) [e, e2] [] pos) (metS findD fo fa) :=
  weakE (pe_bm PySem.F.plainAttrs_str PySem.F.slot_str_find PySem.F.type_str_find mt_find3 ho ha hbase hfew hline hs hplain) fun σ H Q ⟨F, δ, L, h⟩ => bindE ppE L h fun x v F1 H1 s1 L1 r1 h1 => by
    cases r1 with
    | @str a l e0 =>
      refine ⟨rfl, bindA ppE L1 h1 fun ys us F2 H2 s2 L2 r2 h2 => ?_⟩
      unfold findD at h2
      split at h2
      · rename_i c i
        obtain ⟨u, v, rfl, r3, r4⟩ := RpL.two r2
        cases r4
        cases r3 with
        | str e1 =>
          have e2 := one_sign e1
          subst e2 e0
          obtain ⟨hi, h3⟩ := PostE.ite h2
          refine ⟨a, _, i, rfl, rfl, h3.here L2.gd ?_⟩
          rw [find_is a c i hi]
          exact .int _
      · exact h2.elim
    | _ => exact (show False from h1).elim
@[simp] theorem metS_eq {g : List Nat → List D → Res D} {fo : Sto → Res D} {fa : Sto → Res (List D)} {δ : Sto} : metS g fo fa δ = (fo δ).bind fun x => (match x with | .str l => (fa δ).bind (g l) | _ => .stuck) := nrfl rfl
end
end Dn


set_option Elab.async false
set_option linter.all false
set_option maxRecDepth 100000
set_option maxHeartbeats 4000000
namespace Dn
open PySem PySem.Spec PyProof.Rows L2
/-! ### objects: what is read -/
def fldD (c f : Str) : D → Res D
  | .obj c' fs => if c' = c then (match fs.lookup f with
    | some d => .ok d
    | none => .stuck) else .stuck
  | _ => .stuck
def fldO (i : Nat) (c f : Str) : Sto → Res D := fun δ => match δ[i]? with
  | some (.ins c' fs) => if c' = c then (match fs.lookup f with
    | some d => .ok d
    | none => .stuck) else .stuck
  | _ => .stuck
def FldP (K : PySem.W.Frag) (mg : Str → Option Value) (c f : Str) : Prop := ∃ C, mg c = some (.ref C) ∧ Cls K C ∧ NoAttr K C f
section
variable {K : PySem.W.Frag} {mg : Str → Option Value} {F : Hp}
theorem Flds.look : ∀ {gs : List (Str × V)} {fs : List (Str × D)} {f : Str} {d : D}, Flds K mg F gs fs → fs.lookup f = some d → ∃ v, gs.lookup f = some v ∧ Rp K mg F v d
  | _, _, _, _, .nil, e => by cases e
  | (g, v) :: gs, (g', d') :: fs, f, d, .cons ⟨e1, r⟩ t, e => by
    have e1 : g = g' := e1
    subst e1
    by_cases h : f = g
    · subst h
      rw [List.lookup_cons_self] at e
      cases e
      exact ⟨v, List.lookup_cons_self, r⟩
    · have hb : (f == g) = false := beq_eq_false_iff_ne.mpr h
      rw [List.lookup_cons, hb] at e
      obtain ⟨w, h1, h2⟩ := Flds.look (gs := gs) t e
      exact ⟨w, by rw [List.lookup_cons, hb]; exact h1, h2⟩
theorem Flds.back : ∀ {gs : List (Str × V)} {fs : List (Str × D)} {f : Str} {v : V}, Flds K mg F gs fs → gs.lookup f = some v → ∃ d, fs.lookup f = some d ∧ Rp K mg F v d
  | _, _, _, _, .nil, e => by cases e
  | (g, v) :: gs, (g', d') :: fs, f, d, .cons ⟨e1, r⟩ t, e => by
    have e1 : g = g' := e1
    subst e1
    by_cases h : f = g
    · subst h
      rw [List.lookup_cons_self] at e
      cases e
      exact ⟨d', List.lookup_cons_self, r⟩
    · have hb : (f == g) = false := beq_eq_false_iff_ne.mpr h
      rw [List.lookup_cons, hb] at e
      obtain ⟨w, h1, h2⟩ := Flds.back (gs := gs) t e
      exact ⟨w, by rw [List.lookup_cons, hb]; exact h1, h2⟩
def putD (f : Str) (d : D) : List (Str × D) → List (Str × D)
  | [] => [(f, d)]
  | (g, x) :: r => if g = f then (g, d) :: r else (g, x) :: putD f d r
theorem Flds.put {f : Str} {v : V} {d : D} (rv : Rp K mg F v d) : ∀ {gs : List (Str × V)} {fs : List (Str × D)}, Flds K mg F gs fs → Flds K mg F (putF f v gs) (putD f d fs)
  | _, _, .nil => .cons ⟨rfl, rv⟩ .nil
  | (g, u) :: gs, (g', d') :: fs, .cons ⟨e1, r⟩ t => by
    have e1 : g = g' := e1
    subst e1
    unfold putF putD
    by_cases h : g = f
    · rw [if_pos h, if_pos h]; exact .cons ⟨rfl, rv⟩ t
    · rw [if_neg h, if_neg h]; exact .cons ⟨rfl, r⟩ (Flds.put rv t)
end
section
variable {T : List (Addr × Str)} {X : Cx} {W : Wi} {c f : Str} {pos p : Pos}
theorem de_fld {o : Expr} {fo : Sto → Res D} (P : FldP X.K X.mg c f) (ho : DE T X W o fo) (hb : attributeBase o f X.env (eval o X.env) = eval o X.env := by rfl) : DE T X W (.Attribute o f pos) (un (fldD c f) fo) :=
  weakE (pe_fld ho hb) fun σ H Q ⟨F, δ, L, h⟩ => bindE ppE L h fun x v F1 H1 s1 L1 r1 h1 => by
    unfold fldD at h1
    split at h1
    · rename_i c' fs
      obtain ⟨hc, h2⟩ := PostE.ite h1
      subst hc
      split at h2
      · rename_i d e
        obtain ⟨C, hm, cl, na⟩ := P
        cases r1 with
        | obj vf hm' hF h0 g1 g2 g3 g4 g5 =>
          rw [hm] at hm'; cases hm'
          exact ⟨_, C, _, _, vf f, rfl, L1.sub _ _ hF, cl, na, g1 f d e, h2.here L1.gd (g2 f d e)⟩
      · exact h2.elim
    · exact h1.elim
theorem de_fldO {x : Str} (i : Nat) (P : FldP X.K X.mg c f) (hN : X.N[i]? = some x := by rfl) (hv : Vis X.env.scope x := by first | exact Or.inl rfl | exact Or.inr (Or.inl rfl) | exact Or.inr (Or.inr rfl)) (hd : (x == ("__debug__" : Str)) = false := by decide) (hcd : (x == ("__classdict__" : Str)) = false := by decide)
    (hb : attributeBase (.Name x p) f X.env (eval (.Name x p) X.env) = eval (.Name x p) X.env := by rfl) : DE T X W (.Attribute (.Name x p) f pos) (fldO i c f) :=
  weakE (pe_fld (pe_var (i := i) hN hv hd hcd) hb) fun σ H Q ⟨F, δ, L, h⟩ => by
    unfold fldO at h
    split at h
    · rename_i c' fs e
      obtain ⟨hc, h2⟩ := PostE.ite h
      subst hc
      split at h2
      · rename_i d ed
        obtain ⟨C, hm, cl, na⟩ := P
        obtain ⟨ov, q, a, C', dx, gs, rfl, n1, n2, hm', hH, hdx, fl⟩ := L.slot i _ e
        rw [hm] at hm'; cases hm'
        obtain ⟨v, lv, rv⟩ := fl.look ed
        exact ⟨_, q, a, C, dx, gs, v, rfl, hH, cl, na, lv, h2.here L.gd rv⟩
      · exact h2.elim
    · exact h.elim
/-! ### objects: what is written -/
/-- an own instance is turned -/
theorem StR.turnI {K : PySem.W.Frag} {mg : Str → Option Value} {F0 : Hp} {H0 : Hp × Addr} {F H : Hp} {σ : L2.St} {δ : Sto} (S : StR K mg T F0 H0 F H σ δ) {i : Nat} {c : Str} {fs fs' : List (Str × D)} {a C dx : Addr} {gs gs' : List (Str × V)} (e : δ[i]? = some (.ins c fs)) (q : σ[i]? = some (some (.ref a))) (hm : mg c = some (.ref C)) (hH : H a = some (.ins C dx gs)) (r : Flds K mg F gs' fs') :
    StR K mg T F0 H0 F (upd H a (.ins C dx gs')) σ (δ.set i (.ins c fs')) := by
  obtain ⟨ov, q1, a', C', dx', gs1, rfl, nF, nD, hm', hH', hD, rv⟩ := S.loc.slot i _ e
  rw [q] at q1; cases q1
  rw [hH] at hH'; cases hH'
  obtain ⟨n0, n1⟩ := S.fresh i _ a e rfl q
  have hda : dx ≠ a := fun z => by rw [z, hH] at hD; cases hD
  have st : Step T F0 H0.1 F (upd H a (.ins C dx gs')) := S.st.turn n0 nF (fun ps z => by rw [hH] at z; cases z) (fun φ z => by rw [hH] at z; cases z)
  refine ⟨S.sub0, st, ⟨st.gd, by rw [List.length_set]; exact S.loc.len, fun j s z => ?_, fun j k s1 s2 b hjk e1 e2 o1 o2 q1 q2 => ?_⟩, fun j s b z o q' => ?_⟩
  · rcases set_cases z with ⟨rfl, rfl, _⟩ | ⟨hj, z⟩
    · exact ⟨_, q, a, C, dx, gs', rfl, nF, nD, hm, upd_same, by rw [upd_ne hda]; exact hD, r⟩
    · obtain ⟨ov, q', ok⟩ := S.loc.slot j s z
      refine ⟨ov, q', ?_⟩
      cases s with
      | no => trivial
      | val d => exact ok
      | own es =>
        obtain ⟨b, us, rfl, n, h, r⟩ := ok
        have hb : b ≠ a := fun zz => S.loc.apart j i _ _ b hj z e rfl rfl q' (by rw [zz]; exact q)
        exact ⟨b, us, rfl, n, by rw [upd_ne hb]; exact h, r⟩
      | ins c2 fs2 =>
        obtain ⟨b, C2, dx2, gs2, rfl, n, n', hm2, h, h', r⟩ := ok
        have hb : b ≠ a := fun zz => S.loc.apart j i _ _ b hj z e rfl rfl q' (by rw [zz]; exact q)
        have hd : dx2 ≠ a := fun zz => by rw [zz, hH] at h'; cases h'
        exact ⟨b, C2, dx2, gs2, rfl, n, n', hm2, by rw [upd_ne hb]; exact h, by rw [upd_ne hd]; exact h', r⟩
  · have own : ∀ {j : Nat} {s : Slot}, (δ.set i (.ins c fs'))[j]? = some s → s.owned = true → ∃ s' : Slot, δ[j]? = some s' ∧ s'.owned = true := fun {j s} z o => by
      rcases set_cases z with ⟨rfl, rfl, _⟩ | ⟨_, z⟩
      · exact ⟨_, e, rfl⟩
      · exact ⟨s, z, o⟩
    obtain ⟨t1, f1, g1⟩ := own e1 o1
    obtain ⟨t2, f2, g2⟩ := own e2 o2
    exact S.loc.apart j k t1 t2 b hjk f1 f2 g1 g2 q1 q2
  · rcases set_cases z with ⟨rfl, rfl, _⟩ | ⟨hj, z⟩
    · rw [q] at q'; cases q'
      refine ⟨n0, fun C2 dx2 gs2 zz => ?_⟩
      rw [upd_same] at zz; cases zz
      exact n1 _ _ _ hH
    · obtain ⟨h1, h2⟩ := S.fresh j s b z o q'
      have hb : b ≠ a := fun zz => S.loc.apart j i _ _ b hj z e o rfl q' (by rw [zz]; exact q)
      exact ⟨h1, fun C dx gs zz => h2 C dx gs (by rw [upd_ne hb] at zz; exact zz)⟩
def fstS (i : Nat) (c f : Str) (fe : Sto → Res D) : Sto → Out := fun δ => (fe δ).out fun d => match δ[i]? with
  | some (.ins c' fs) => if c' = c ∧ fs.length < 100 then .nx (δ.set i (.ins c (putD f d fs))) else .stuck
  | _ => .stuck
theorem Flds.len {K : PySem.W.Frag} {mg : Str → Option Value} {F : Hp} {gs : List (Str × V)} {fs : List (Str × D)} (h : Flds K mg F gs fs) : gs.length = fs.length := Paired.length h
theorem ds_fst {x : Str} {e : Expr} {fe : Sto → Res D} {pos' : Pos} (i : Nat) (P : FldP X.K X.mg c f) (he : DE T X W e fe) (hN : X.N[i]? = some x := by rfl) (hv : Vis X.env.scope x := by first | exact Or.inl rfl | exact Or.inr (Or.inl rfl) | exact Or.inr (Or.inr rfl)) (hd : (x == ("__debug__" : Str)) = false := by decide) (hcd : (x == ("__classdict__" : Str)) = false := by decide)
    (hs : swapsWith e (some (.Attribute (.Name x p) f pos')) pos.line X.env = pure false := by rfl) : DS T X W (.Assign [.Attribute (.Name x p) f pos'] e pos) (fstS i c f fe) :=
  weakS (ps_fld (pe_var (i := i) hN hv hd hcd) he hs) fun D' σ H ⟨F0, H0, F, δ, S, h⟩ => outE S h fun d v F1 H1 r1 S1 rv h1 => by
    split at h1
    · rename_i c' fs e1
      by_cases hc : c' = c ∧ fs.length < 100
      · rw [if_pos hc] at h1
        obtain ⟨rfl, hl⟩ := hc
        obtain ⟨C, hm, cl, na⟩ := P
        obtain ⟨ov, q, a, C', dx, gs, rfl, n1, n2, hm', hH, hdx, fl⟩ := S1.loc.slot i _ e1
        rw [hm] at hm'; cases hm'
        refine ⟨_, q, a, C, dx, gs, rfl, hH, cl, na, by rw [fl.len]; omega, ?_⟩
        exact h1 σ F1 _ (.refl F1) (S1.turnI e1 q hm hH (fl.put rv))
      · rw [if_neg hc] at h1; exact h1.elim
    · exact h1.elim
end
end Dn


set_option Elab.async false
set_option linter.all false
set_option maxRecDepth 100000
set_option maxHeartbeats 4000000
namespace Dn
open PySem PySem.Spec PyProof.Rows L2
/-! ### the counter of looks -/
theorem Step.bump {T : List (Addr × Str)} {F H : Hp} {a C dx : Addr} {gs gs' : List (Str × V)} (g : Gd T F H) (h : F a = some (.ins C dx gs)) (c : Chg (.ins C dx gs) (.ins C dx gs')) : Step T F H (upd F a (.ins C dx gs')) (upd H a (.ins C dx gs')) := by
  have hH := g.sub a _ h
  refine ⟨fun b u e => ?_, ⟨fun b u e => ?_, fun x hx => ?_, fun b ps e => ?_⟩, fun b u n e _ => ?_, fun b u n e v => ?_⟩
  · by_cases z : b = a
    · subst z
      rw [h] at e; cases e
      exact ⟨_, upd_same, c⟩
    · exact ⟨u, by rw [upd_ne z]; exact e, .refl u⟩
  · by_cases z : b = a
    · subst z; rw [upd_same] at e ⊢; exact e
    · rw [upd_ne z] at e ⊢; exact g.sub b u e
  · obtain ⟨ps, e1, e2, e3⟩ := g.tabs x hx
    refine ⟨ps, ?_, e2, fun pos cv hc => ?_⟩
    · rw [upd_ne (fun z => by rw [z, hH] at e1; cases e1)]; exact e1
    · obtain ⟨d, h1, h2⟩ := e3 pos cv hc
      exact ⟨d, h1, by rw [upd_ne (fun z => by rw [z, hH] at h2; cases h2)]; exact h2⟩
  · by_cases z : b = a
    · subst z; rw [upd_same] at e; cases e
    · rw [upd_ne z] at e; exact g.ntb b ps e
  · have z : b ≠ a := fun z => by rw [z, h] at n; cases n
    rw [upd_ne z]; exact e
  · have z : b ≠ a := fun z => by rw [z, h] at n; cases n
    exact ⟨by rw [upd_ne z]; exact n, u, by rw [upd_ne z]; exact e, v⟩
theorem put_len {f : Str} {v u : V} : ∀ {gs : List (Str × V)}, gs.lookup f = some u → (putF f v gs).length = gs.length
  | [], e => by cases e
  | (g, w) :: gs, e => by
    unfold putF
    by_cases h : g = f
    · rw [if_pos h]; rfl
    · rw [if_neg h]
      have hb : (f == g) = false := beq_eq_false_iff_ne.mpr (Ne.symm h)
      rw [List.lookup_cons, hb] at e
      rw [List.length_cons, List.length_cons, put_len e]
def bmpS (i : Nat) : Sto → Out := fun δ => match δ[i]? with
  | some (.val (.obj c fs)) => if c = ("#" : Str) then .nx δ else .stuck
  | _ => .stuck
section
variable {T : List (Addr × Str)} {X : Cx} {W : Wi} {p p2 p3 p4 p5 pos pos' : Pos}
/-- x.seen = x.seen + 1 -/
theorem ds_bump {x : Str} {j : Nat} (i : Nat) (P : FldP X.K X.mg "#" "#") (hN : X.N[i]? = some x := by rfl) (hv : Vis X.env.scope x := by first | exact Or.inl rfl | exact Or.inr (Or.inl rfl) | exact Or.inr (Or.inr rfl)) (hd : (x == ("__debug__" : Str)) = false := by decide) (hcd : (x == ("__classdict__" : Str)) = false := by decide)
    (hb : attributeBase (.Name x p2) "#" X.env (eval (.Name x p2) X.env) = eval (.Name x p2) X.env := by rfl)
    (hs : swapsWith (.BinOp (.Attribute (.Name x p2) "#" p3) .Add (.Constant (.int 1) j p4) p5) (some (.Attribute (.Name x p) "#" pos')) pos.line X.env = pure false := by rfl) :
    DS T X W (.Assign [.Attribute (.Name x p) "#" pos'] (.BinOp (.Attribute (.Name x p2) "#" p3) .Add (.Constant (.int 1) j p4) p5) pos) (bmpS i) :=
  weakS (ps_fld (pe_var (i := i) hN hv hd hcd) (pe_op op_add (pe_fld (pe_var (i := i) hN hv hd hcd) hb) pe_int) hs) fun D' σ H ⟨F0, H0, F, δ, S, h⟩ => by
    unfold bmpS at h
    split at h
    · rename_i c fs e
      by_cases hc : c = ("#" : Str)
      · rw [if_pos hc] at h
        subst hc
        obtain ⟨C, hm, cl, na⟩ := P
        obtain ⟨ov, q, v, rfl, r⟩ := S.loc.slot i _ e
        cases r with
        | @obj a C' dx gs _ _ vf hm' hF h0 g1 g2 g3 g4 g5 =>
          rw [hm] at hm'; cases hm'
          obtain ⟨n, hn⟩ := g4 rfl
          have hH := S.loc.sub _ _ hF
          refine ⟨_, q, a, C, dx, gs, .int n, rfl, hH, cl, na, hn, n, 1, rfl, rfl, _, q, a, C, dx, gs, rfl, hH, cl, na, ?_, ?_⟩
          · omega
          · have ch : Chg (.ins C dx gs) (.ins C dx (putF "#" (.int (n + 1)) gs)) := .inr ⟨C, dx, gs, _, rfl, rfl, fun m hm => by rw [lookup_putF, if_neg hm], (fun _ _ => ⟨n + 1, by rw [lookup_putF, if_pos rfl]⟩), put_len hn⟩
            have st := Step.bump S.loc.gd hF ch
            exact h σ _ _ st.r (S.step st)
      · rw [if_neg hc] at h; exact h.elim
    · exact h.elim
end
end Dn


set_option Elab.async false
set_option linter.all false
set_option maxRecDepth 100000
set_option maxHeartbeats 4000000
namespace Dn
open PySem PySem.Spec PyProof.Rows L2
/-! ### methods -/
def tMethN (C : Addr) (m : Str) (sp : Sp) (E : L2.St → XK) (ta : TE) (t : TA) : TE := fun σ H Q => ta σ H fun x H1 => ∃ a dx fs, x = .ref a ∧ H1 a = some (.ins C dx fs) ∧ fs.lookup m = none ∧ t σ H1 fun vs H2 => sp (x :: vs) H2 Q (E σ)
section
variable {T : List (Addr × Str)} {X : Cx} {W : Wi} {o e : Expr} {es : List Expr} {ta : TE} {t : TA} {C f : Addr} {m : Str} {CX : CXT} {k : Nat} {fd : FuncData} {ps : List Str} {sp : Sp} {E : L2.St → XK} {apos pos : Pos} {pl : Sem Bool}
theorem pe_mthN (he : PE X o ta) (c : Cls X.K C) (hm : Meth X.K C m f) (Fn : FnOk X.prog X.w X.K X.mg X.base CX k f fd ps sp) (hr : Room k X.A) (hb : Binds X.K fd ps []) (hx : ∀ σ, PassesAt CX X σ (E σ)) (ha : PA X (e :: es) t)
    (hst : starEach (e :: es) X.env = (false, eval e X.env) :: starEach es X.env) (hpl : (backTo pos (starEach es X.env)).any (·.1) = false)
    (ht : eval (.Call (.Attribute o m apos) (e :: es) [] pos) X.env = (do let ov ← eval o X.env; standAt apos.atName; let (f, first) ← holding [ov] (getMethod ov m pl); callWith pos f first (backTo pos (starEach (e :: es) X.env)) (backToKw pos (keywordEach [] X.env)))) :
    PE X (.Call (.Attribute o m apos) (e :: es) [] pos) (tMethN C m sp E ta t) := by
  refine ⟨fun pins s σ H Q I h => PySem.W.methodCall_KW (pl := pl) (thn (he.run pins s σ H _ I h) fun u s1 ⟨x, H1, I1, rx, a, dx, fs, ex, ea, l, q⟩ => ?_) ht⟩
  subst ex
  obtain rfl : u = Value.ref a := rx
  refine getmeth_ok I1 ea c hm l (PySem.W.callWith_K (first := [.ref a]) (h₀ := X.base) I.ok.mod.kin hm.kp (thn (ha.run pos pins s1 σ H1 _ I1 q) fun us s2 ⟨vs, H2, I2, r, q2⟩ => ⟨I2.kIn, ?_⟩) hst hpl)
  exact run_fnS (us := .ref a :: us) (vs := .ref a :: vs) Fn hr hb (hx σ) I2 (.cons rfl r) q2
theorem pe_mthN0 (he : PE X o ta) (c : Cls X.K C) (hm : Meth X.K C m f) (Fn : FnOk X.prog X.w X.K X.mg X.base CX k f fd ps sp) (hr : Room k X.A) (hb : Binds X.K fd ps []) (hx : ∀ σ, PassesAt CX X σ (E σ))
    (ht : eval (.Call (.Attribute o m apos) [] [] pos) X.env = (do let ov ← eval o X.env; standAt apos.atName; let (f, first) ← holding [ov] (getMethod ov m pl); callWith pos f first (backTo pos (starEach [] X.env)) (backToKw pos (keywordEach [] X.env)))) :
    PE X (.Call (.Attribute o m apos) [] [] pos) (tMethN C m sp E ta tNil) := by
  refine ⟨fun pins s σ H Q I h => PySem.W.methodCall_KW (pl := pl) (thn (he.run pins s σ H _ I h) fun u s1 ⟨x, H1, I1, rx, a, dx, fs, ex, ea, l, q⟩ => ?_) ht⟩
  subst ex
  obtain rfl : u = Value.ref a := rx
  exact getmeth_ok I1 ea c hm l (PySem.W.callWith_K0 (first := [.ref a]) I1.kIn hm.kp (run_fnS (us := [.ref a]) (vs := [.ref a]) Fn hr hb (hx σ) I1 (.cons rfl .nil) q))
end
/-- a method that keeps its promise -/
def MtP (P : Program) (w : World) (K : PySem.W.Frag) (mg : Str → Option Value) (base : Heap) (k : Nat) (c m : Str) (ps : List Str) (g : List D → Res D) : Prop :=
  ∃ C f fd, mg c = some (.ref C) ∧ Cls K C ∧ Meth K C m f ∧ FnOk P w K mg base (L2N.CX P w) k f fd ps (spD K mg g) ∧ L2.Binds K fd ps []
def MtT (K : PySem.W.Frag) (mg : Str → Option Value) (c m qual : Str) (st : Stmt) (ps : List Str) : Prop := ∃ C f fd, mg c = some (.ref C) ∧ Cls K C ∧ Meth K C m f ∧ Fun K m qual st f fd ∧ L2.Binds K fd ps []
def mth (c m : Str) (g : List D → Res D) (fo : Sto → Res D) (fa : Sto → Res (List D)) : Sto → Res D := fun δ => (fo δ).bind fun x => match x with
  | .obj c' fs => if c' = c ∧ fs.lookup m = none ∧ m ≠ ("#" : Str) then (fa δ).bind fun xs => g (.obj c' fs :: xs) else .stuck
  | _ => .stuck
section
variable {P : Program} {w : World} {K : PySem.W.Frag} {mg : Str → Option Value} {base : Heap}
theorem mtP {c m qual : Str} {st : Stmt} {N ps : List Str} {k : Nat} {fb : Sto → Out} (n r : Nat) (Fn : MtT K mg c m qual st ps) (S : FnScope N ps (defScope st)) (hps : ps.length = n) (hN : N.length = n + r)
    (hbody : ∀ (f : Addr) (cdv : Value) (A : Around) (outer : List Env) (s : Shared) (H : Hp) (E : XK), Room k (A.deeper (envOfC qual (defScope st) s.heap.objs.size f cdv)) →
      DSs [] (cxOf (L2N.CX P w) P w K mg base N qual (defScope st) f cdv A outer s H E) (fun c H => E (clsOf mg c) none H) (defBody st) fb) : MtP P w K mg base (k + 1) c m ps (runF n r fb) := by
  obtain ⟨C, f, fd, hm, cl, me, F, b⟩ := Fn
  exact ⟨C, f, fd, hm, cl, me, fnD n r F S hps hN (hbody f), b⟩
theorem MtP.mono {j k : Nat} {c m : Str} {ps : List Str} {g : List D → Res D} (h : MtP P w K mg base j c m ps g) (hj : j ≤ k) : MtP P w K mg base k c m ps g := by
  obtain ⟨C, f, fd, h1, h2, h3, F, r⟩ := h
  exact ⟨C, f, fd, h1, h2, h3, F.mono hj, r⟩
end
section
variable {T : List (Addr × Str)} {X : Cx} {W : Wi} {o e : Expr} {es : List Expr} {fo : Sto → Res D} {fa : Sto → Res (List D)} {c m : Str} {k : Nat} {ps : List Str} {g : List D → Res D} {apos pos : Pos} {pl : Sem Bool}
theorem mth_read {C : Addr} {σ : L2.St} {H : Hp} {Q : VK} {ta : TA} (hm : X.mg c = some (.ref C)) (hta : ∀ σ H Q', tDA X.K X.mg T W fa σ H Q' → ta σ H Q') (h : tD X.K X.mg T W (mth c m g fo fa) σ H Q) : tMethN C m (spD X.K X.mg g) (fun σ => WE (wx X.mg W) σ) (tD X.K X.mg T W fo) ta σ H Q := by
  obtain ⟨F, δ, L, h⟩ := h
  refine bindE ppE L h fun x v F1 H1 s1 L1 r1 h1 => ?_
  split at h1
  · rename_i c' fs
    obtain ⟨⟨hc, hl, hs⟩, h2⟩ := PostE.ite h1
    subst hc
    cases r1 with
    | @obj a C' dx gs _ _ vf hm' hF h0 g1 g2 g3 g4 g5 =>
      rw [hm] at hm'; cases hm'
      have r1 : Rp X.K X.mg F1 (.ref a) (.obj c' fs) := .obj vf hm hF h0 g1 g2 g3 g4 g5
      have ln : gs.lookup m = none := by
        cases z : gs.lookup m with
        | none => rfl
        | some v => exact (g3 m v z).elim (fun q => by rw [hl] at q; cases q) (fun q => (hs q).elim)
      exact ⟨a, dx, gs, rfl, L1.sub _ _ hF, ln, hta _ _ _ (bindA ppE L1 h2 fun ds vs F2 H2 s2 L2 r2 h3 => spD_call L2.gd (.cons (r1.mono s2.r) r2) h3)⟩
  · exact h1.elim
theorem de_mth (G : MtP X.prog X.w X.K X.mg X.base k c m ps g) (hr : Room k X.A) (tk : L2N.Takes X (wx X.mg W)) (ho : DE T X W o fo) (ha : DA T X W (e :: es) fa)
    (hst : starEach (e :: es) X.env = (false, eval e X.env) :: starEach es X.env := by rfl) (hpl : (backTo pos (starEach es X.env)).any (·.1) = false := by rfl)
    (ht : eval (.Call (.Attribute o m apos) (e :: es) [] pos) X.env = (do let ov ← eval o X.env; standAt apos.atName; let (f, first) ← holding [ov] (getMethod ov m pl); callWith pos f first (backTo pos (starEach (e :: es) X.env)) (backToKw pos (keywordEach [] X.env))) := by rfl) :
    DE T X W (.Call (.Attribute o m apos) (e :: es) [] pos) (mth c m g fo fa) := by
  obtain ⟨C, f, fd, hm, cl, me, F, b⟩ := G
  exact weakE (pe_mthN ho cl me F hr b (fun σ => L2N.passAt tk σ) ha hst hpl ht) fun σ H Q h => mth_read hm (fun _ _ _ z => z) h
theorem de_mth0 (G : MtP X.prog X.w X.K X.mg X.base k c m ps g) (hr : Room k X.A) (tk : L2N.Takes X (wx X.mg W)) (ho : DE T X W o fo)
    (ht : eval (.Call (.Attribute o m apos) [] [] pos) X.env = (do let ov ← eval o X.env; standAt apos.atName; let (f, first) ← holding [ov] (getMethod ov m pl); callWith pos f first (backTo pos (starEach [] X.env)) (backToKw pos (keywordEach [] X.env))) := by rfl) :
    DE T X W (.Call (.Attribute o m apos) [] [] pos) (mth c m g fo nilA) := by
  obtain ⟨C, f, fd, hm, cl, me, F, b⟩ := G
  exact weakE (pe_mthN0 ho cl me F hr b (fun σ => L2N.passAt tk σ) ht) fun σ H Q h => mth_read hm (fun σ H Q' ⟨F, δ, L, q⟩ => q [] F H L.refl .nil) h
end
/-! ### constructors -/
def objOf (fs : List (Str × D)) : List (Str × D) := fs.filter fun p => !(p.1 == ("#" : Str))
def seenOk (c : Str) (fs : List (Str × D)) : Bool := !(c == ("#" : Str)) || (match fs.lookup ("#" : Str) with | some (.int _) => true | _ => false)
def Out.made (c : Str) : Out → Res D
  | .nx δ => (match (δ[0]? : Option Slot) with
    | some (Slot.ins c' fs) => if c' = c ∧ seenOk c fs = true ∧ fs.length < 200 then .ok (.obj c (objOf fs)) else .stuck
    | _ => .stuck)
  | .rs x => .rs x
  | _ => .stuck
def runI (c : Str) (n m : Nat) (b : Sto → Out) (ds : List D) : Res D := if ds.length = n then (b (.ins c [] :: (ds.map Slot.val ++ List.replicate m .no))).made c else .stuck
def spI (K : PySem.W.Frag) (mg : Str → Option Value) (c : Str) (g : List D → Res D) : Sp := fun vs H Q E => ∃ F ds x C dx H1 us, vs = .ref x :: us ∧ H = upd (upd H1 dx (.own x)) x (.ins C dx []) ∧ H1 x = none ∧ H1 dx = none ∧ dx ≠ x ∧ mg c = some (.ref C) ∧ Gd [] F H1 ∧ RpL K mg F us ds ∧
  (match g ds with
  | .ok d => ∀ F' H', Step [] F H1 F' H' → Rp K mg F' (.ref x) d → Q .non H'
  | .rs e => ∀ F' H', Step [] F H1 F' H' → E (clsOf mg e) none H'
  | .stuck => False)
theorem look_objOf (fs : List (Str × D)) (n : Str) (h : n ≠ "#") : (objOf fs).lookup n = fs.lookup n := by
  unfold objOf
  induction fs with
  | nil => rfl
  | cons q fs ih =>
    obtain ⟨g, d⟩ := q
    by_cases hg : g = ("#" : Str)
    · subst hg
      rw [List.filter_cons_of_neg (by simp), ih, List.lookup_cons, beq_eq_false_iff_ne.mpr h]
    · rw [List.filter_cons_of_pos (by simp [hg]), List.lookup_cons, List.lookup_cons, ih]
theorem look_seen (fs : List (Str × D)) : (objOf fs).lookup ("#" : Str) = none := by
  unfold objOf
  induction fs with
  | nil => rfl
  | cons q fs ih =>
    obtain ⟨g, d⟩ := q
    by_cases hg : g = ("#" : Str)
    · subst hg
      rw [List.filter_cons_of_neg (by simp), ih]
    · rw [List.filter_cons_of_pos (by simp [hg]), List.lookup_cons, ih, beq_eq_false_iff_ne.mpr (Ne.symm hg)]
/-- an instance as it is left -/
theorem rp_made {K : PySem.W.Frag} {mg : Str → Option Value} {F : Hp} {a C dx : Addr} {gs : List (Str × V)} {c : Str} {fs : List (Str × D)} (hm : mg c = some (.ref C)) (h : F a = some (.ins C dx gs)) (fl : Flds K mg F gs fs) (so : seenOk c fs = true) (hl : fs.length < 200) : Rp K mg F (.ref a) (.obj c (objOf fs)) := by
  have ne : ∀ n d, (objOf fs).lookup n = some d → n ≠ ("#" : Str) := fun n d e z => by rw [z, look_seen] at e; cases e
  refine .obj (fun n => (gs.lookup n).getD .non) hm h (look_seen fs) (fun n d e => ?_) (fun n d e => ?_) (fun n v e => ?_) (fun hc => ?_) (by rw [fl.len]; exact hl)
  · have e' := e
    rw [look_objOf fs n (ne n d e)] at e'
    obtain ⟨v, lv, _⟩ := fl.look e'
    rw [lv]; rfl
  · have e' := e
    rw [look_objOf fs n (ne n d e)] at e'
    obtain ⟨v, lv, rv⟩ := fl.look e'
    rw [lv]; exact rv
  · by_cases hn : n = ("#" : Str)
    · exact .inr hn
    · obtain ⟨d, ld, _⟩ := fl.back e
      rw [look_objOf fs n hn, ld]; exact .inl rfl
  · unfold seenOk at so
    rw [hc] at so
    split at so
    · rename_i i e
      obtain ⟨v, lv, rv⟩ := fl.look e
      cases rv
      exact ⟨_, lv⟩
    · simp at so
section
variable {P : Program} {w : World} {K : PySem.W.Frag} {mg : Str → Option Value} {base : Heap}
theorem fnI {x qual c : Str} {st : Stmt} {f : Addr} {fd : FuncData} {N ps : List Str} {k : Nat} {fb : Sto → Out} (n m : Nat) (Fn : Fun K x qual st f fd) (S : FnScope N ps (defScope st)) (hps : ps.length = n + 1) (hN : N.length = n + 1 + m)
    (hbody : ∀ (cdv : Value) (A : Around) (outer : List Env) (s : Shared) (H : Hp) (E : XK), Room k (A.deeper (envOfC qual (defScope st) s.heap.objs.size f cdv)) →
      DSs [] (cxOf (L2N.CX P w) P w K mg base N qual (defScope st) f cdv A outer s H E) (fun c H => E (clsOf mg c) none H) (defBody st) fb) : FnOk P w K mg base (L2N.CX P w) (k + 1) f fd ps (spI K mg c (runI c n m fb)) := by
  obtain ⟨oc, od, kV, doc, pm, an, cdv, ct, osl, rfl, lk, hcd⟩ := Fn.ex
  refine fn_of lk hcd S (fun vs H Q E h => ?_) (fun A outer s H vs Q E hr h => ⟨_, hbody cdv A outer s H E hr, ?_⟩)
  · obtain ⟨F, ds, y, C, dx, H1, us, rfl, _, _, _, _, _, _, r, h⟩ := h
    unfold runI at h
    by_cases hl : ds.length = n
    · rw [List.length_cons, r.length, hl, hps]
    · rw [if_neg hl] at h; exact h.elim
  · obtain ⟨F, ds, y, C, dx, H1, us, rfl, rfl, hy, hdx, hne, hm, gd, r, h⟩ := h
    unfold runI at h
    by_cases hl : ds.length = n
    · rw [if_pos hl] at h
      have g1 : Gd [] F (upd (upd H1 dx (.own y)) y (.ins C dx [])) := by
        have s1 := Step.junk (o := .own y) gd hdx
        exact (Step.junk s1.gd (by rw [upd_ne (Ne.symm hne)]; exact hy)).gd
      have st1 : Step [] F H1 F (upd (upd H1 dx (.own y)) y (.ins C dx [])) := (Step.junk (o := .own y) gd hdx).trans (Step.junk (Step.junk (o := .own y) gd hdx).gd (by rw [upd_ne (Ne.symm hne)]; exact hy))
      have SS := start_slots (N := N) (vs := .ref y :: us) (ds := .opq y :: ds) (.cons (.opq y) r) g1 (n := n + 1) (m := m) (by simp [hl]) hN
      have S0 : StR K mg [] F (H1, y) F (upd (upd H1 dx (.own y)) y (.ins C dx [])) (L2.start N (.ref y :: us)) (.ins c [] :: (ds.map Slot.val ++ List.replicate m .no)) := by
        have e0 : (L2.start N (.ref y :: us))[0]? = some (some (.ref y)) := by
          obtain ⟨ov, q, v, e, rv⟩ := SS.loc.slot 0 (.val (.opq y)) rfl
          subst e
          cases rv
          exact q
        refine ⟨gd.sub, st1, ⟨g1, ?_, fun i s e => ?_, fun i j s s' a hij e1 e2 o1 o2 q1 q2 => ?_⟩, fun i s a e o q => ?_⟩
        · have := SS.loc.len
          simpa using this
        · cases i with
          | zero =>
            cases e
            exact ⟨_, e0, y, C, dx, [], rfl, gd.sub.none hy, gd.sub.none hdx, hm, upd_same, by rw [upd_ne hne, upd_same], .nil⟩
          | succ i => exact SS.loc.slot (i + 1) s (by simpa using e)
        · have vl : ∀ (i : Nat) s, (Slot.ins c [] :: (ds.map Slot.val ++ List.replicate m .no))[i]? = some s → s.owned = true → i = 0 := fun i s e o => by
            cases i with
            | zero => rfl
            | succ i =>
              have e : (ds.map Slot.val ++ List.replicate m .no)[i]? = some s := by simpa using e
              rcases List.mem_append.mp (List.mem_of_getElem? e) with z | z
              · obtain ⟨d, _, rfl⟩ := List.mem_map.mp z
                cases o
              · rw [(List.mem_replicate.mp z).2] at o; cases o
          exact hij ((vl i s e1 o1).trans (vl j s' e2 o2).symm)
        · cases i with
          | zero =>
            rw [e0] at q; cases q
            refine ⟨.of hy, fun C2 dx2 gs2 z => ?_⟩
            rw [upd_same] at z; cases z
            exact ⟨.of hdx, rfl⟩
          | succ i =>
            have e : (ds.map Slot.val ++ List.replicate m .no)[i]? = some s := by simpa using e
            rcases List.mem_append.mp (List.mem_of_getElem? e) with z | z
            · obtain ⟨d, _, rfl⟩ := List.mem_map.mp z
              cases o
            · rw [(List.mem_replicate.mp z).2] at o; cases o
      refine ⟨F, (H1, y), F, _, S0, ?_⟩
      cases e : fb (.ins c [] :: (ds.map Slot.val ++ List.replicate m .no)) with
      | nx δ =>
        rw [e] at h
        intro σ F' H' _ S'
        unfold Out.made at h
        dsimp only at h
        split at h
        · rename_i d ed
          split at ed
          · rename_i c' fs e1
            by_cases hc : c' = c ∧ seenOk c fs = true ∧ fs.length < 200
            · rw [if_pos hc] at ed
              cases ed
              obtain ⟨rfl, so, hlen⟩ := hc
              obtain ⟨ov, q, a, C', dx', gs, rfl, nF, nD, hm', hH, hD, fl⟩ := S'.loc.slot 0 _ e1
              have hm' : mg c' = some (.ref C') := hm'
              rw [hm] at hm'; cases hm'
              obtain ⟨fa, fb'⟩ := S'.fresh 0 _ a e1 rfl q
              obtain ⟨fd', ea⟩ := fb' _ _ _ hH
              have ea : a = y := ea
              subst ea
              have hda : dx' ≠ a := fun z => by rw [z, hH] at hD; cases hD
              have st2 := S'.st.freeze fd' nD hD
              have st3 := st2.freeze fa (by rw [upd_ne (Ne.symm hda)]; exact nF) hH
              have rr : Rel F' (upd (upd F' dx' (.own a)) a (.ins C dx' gs)) := fun b u z => by
                have h1 : b ≠ a := fun zz => by rw [zz, nF] at z; cases z
                have h2 : b ≠ dx' := fun zz => by rw [zz, nD] at z; cases z
                exact ⟨u, by rw [upd_ne h1, upd_ne h2]; exact z, .refl u⟩
              exact h _ _ st3 (rp_made hm upd_same (fl.mono rr) so hlen)
            · rw [if_neg hc] at ed; cases ed
          · cases ed
        · rename_i d ed
          split at ed
          · split at ed <;> cases ed
          · cases ed
        · exact h.elim
      | rt d => rw [e] at h; exact (show False from h).elim
      | rs c => rw [e] at h; exact h
      | bk δ => rw [e] at h; exact (show False from h).elim
      | ct δ => rw [e] at h; exact (show False from h).elim
      | stuck => rw [e] at h; exact h
    · rw [if_neg hl] at h; exact h.elim
end
end Dn


set_option Elab.async false
set_option linter.all false
set_option maxRecDepth 100000
set_option maxHeartbeats 4000000
namespace Dn
open PySem PySem.Spec PyProof.Rows L2
/-! ### constructors, called -/
def tMakeN (C : Addr) (sp : Sp) (E : L2.St → XK) (t : TA) : TE := fun σ H Q => t σ H fun vs H1 => ∀ x dx, H1 x = none → H1 dx = none → dx ≠ x → sp (.ref x :: vs) (upd (upd H1 dx (.own x)) x (.ins C dx [])) (fun v H2 => v = .non ∧ Q (.ref x) H2) (E σ)
section
variable {X : Cx} {CX : CXT} {C f : Addr} {k : Nat} {fd : FuncData} {ps : List Str} {sp : Sp} {E : L2.St → XK} {e : Expr} {es : List Expr} {t : TA} {x : Str} {p pos : Pos}
theorem pe_mkN (M : Mk X.K C f) (Fn : FnOk X.prog X.w X.K X.mg X.base CX k f fd ps sp) (hr : Room (k + 1) X.A) (hg : Gl X x) (hm : X.mg x = some (.ref C)) (hb : Binds X.K fd ps []) (hx : ∀ σ, PassesAt CX X σ (E σ)) (ha : PA X (e :: es) t) (hdb : (x == ("__debug__" : Str)) = false)
    (he : starEach (e :: es) X.env = (false, eval e X.env) :: starEach es X.env) (hpl : (backTo pos (starEach es X.env)).any (·.1) = false) : PE X (.Call (.Name x p) (e :: es) [] pos) (tMakeN C sp E t) := by
  refine ⟨fun pins s σ H Q I h => wpAny_Call_Name_kw (ld_glob I hg hm (PySem.W.callWith_K (h₀ := X.base) I.ok.mod.kin M.kp (thn (ha.run pos pins s σ H _ I h) fun us s1 ⟨vs, H1, I1, r, q⟩ => ⟨I1.kIn, ?_⟩) he hpl) hdb)⟩
  have hq := q (s1.heap.objs.size + 1) s1.heap.objs.size (I1.hok.fresh (Nat.le_succ _)) (I1.hok.fresh (Nat.le_refl _)) (Nat.ne_of_lt (Nat.lt_succ_self _))
  have I2 := Inv.made (C := C) I1
  have r2 : Vals (V.ref (s1.heap.objs.size + 1) :: vs) (Value.ref (s1.heap.objs.size + 1) :: us) := .cons rfl r
  have hl : (Value.ref (s1.heap.objs.size + 1) :: us).length = ps.length := by rw [← r2.length]; exact Fn.len _ _ _ _ hq
  have b := hb _ (Value.ref (s1.heap.objs.size + 1) :: us) I2.kIn (by rw [List.append_nil]; exact hl)
  rw [List.append_nil] at b
  refine wpAny_call (make_map (f := f) I1.kIn M.makes M.init (beq_iff_eq.mp M.fn) (codeAny_mono (Fn.run _ X.stack _ _ _ _ _ _ (E σ) (hr.make C us []) (I2.env0.make C us []) b r2 hq) fun rr s' hq' => ?_))
  cases rr with
  | error e => exact hx σ pins _ _ e s' I2 hq'
  | ok fl =>
    cases fl with
    | ret u =>
      obtain ⟨v, H', I3, rv, ev, q3⟩ := I2.after hq'
      subst ev
      exact ⟨rv, V.ref (s1.heap.objs.size + 1), H', I3, rfl, q3⟩
    | next => exact False.elim hq'
    | brk => exact False.elim hq'
    | cont => exact False.elim hq'
end
def MkP (P : Program) (w : World) (K : PySem.W.Frag) (mg : Str → Option Value) (base : Heap) (k : Nat) (c : Str) (ps : List Str) (g : List D → Res D) : Prop :=
  ∃ C f fd, mg c = some (.ref C) ∧ Mk K C f ∧ FnOk P w K mg base (L2N.CX P w) k f fd ps (spI K mg c g) ∧ L2.Binds K fd ps []
def MkT (K : PySem.W.Frag) (mg : Str → Option Value) (c qual : Str) (st : Stmt) (ps : List Str) : Prop := ∃ C f fd, mg c = some (.ref C) ∧ Mk K C f ∧ Fun K "__init__" qual st f fd ∧ L2.Binds K fd ps []
section
variable {P : Program} {w : World} {K : PySem.W.Frag} {mg : Str → Option Value} {base : Heap}
theorem mkP {c qual : Str} {st : Stmt} {N ps : List Str} {k : Nat} {fb : Sto → Out} (n r : Nat) (Fn : MkT K mg c qual st ps) (S : FnScope N ps (defScope st)) (hps : ps.length = n + 1) (hN : N.length = n + 1 + r)
    (hbody : ∀ (f : Addr) (cdv : Value) (A : Around) (outer : List Env) (s : Shared) (H : Hp) (E : XK), Room k (A.deeper (envOfC qual (defScope st) s.heap.objs.size f cdv)) →
      DSs [] (cxOf (L2N.CX P w) P w K mg base N qual (defScope st) f cdv A outer s H E) (fun c H => E (clsOf mg c) none H) (defBody st) fb) : MkP P w K mg base (k + 1) c ps (runI c n r fb) := by
  obtain ⟨C, f, fd, hm, mk, F, b⟩ := Fn
  exact ⟨C, f, fd, hm, mk, fnI n r F S hps hN (hbody f), b⟩
end
section
variable {T : List (Addr × Str)} {X : Cx} {W : Wi} {e : Expr} {es : List Expr} {fa : Sto → Res (List D)} {c : Str} {k : Nat} {ps : List Str} {g : List D → Res D} {p pos : Pos}
theorem Gd.bare {F H : Hp} (g : Gd T F H) : Gd [] F H := ⟨g.sub, (fun p hp => by cases hp), g.ntb⟩
theorem de_make (G : MkP X.prog X.w X.K X.mg X.base k c ps g) (hr : Room (k + 1) X.A) (tk : L2N.Takes X (wx X.mg W)) (ha : DA T X W (e :: es) fa) (hg : Gl X c := by rfl) (hdb : (c == ("__debug__" : Str)) = false := by decide)
    (he : starEach (e :: es) X.env = (false, eval e X.env) :: starEach es X.env := by rfl) (hpl : (backTo pos (starEach es X.env)).any (·.1) = false := by rfl) : DE T X W (.Call (.Name c p) (e :: es) [] pos) (app g fa) := by
  obtain ⟨C, f, fd, hm, mk, F, b⟩ := G
  refine weakE (pe_mkN mk F hr hg hm b (fun σ => L2N.passAt tk σ) ha hdb he hpl) fun σ H Q ⟨F, δ, L, h⟩ => bindA ppE L h fun ds vs F1 H1 s1 L1 r1 h1 x dx hx hdx hne => ?_
  refine ⟨F1, ds, x, C, dx, H1, vs, rfl, rfl, hx, hdx, hne, hm, L1.gd.bare, r1, ?_⟩
  cases z : g ds with
  | ok d => rw [z] at h1; exact fun F' H' st rv => ⟨rfl, h1 _ F' H' (st.lift L1.gd) rv⟩
  | rs c => rw [z] at h1; exact fun F' H' st => ⟨rfl, c, rfl, h1 F' H' (st.lift L1.gd)⟩
  | stuck => rw [z] at h1; exact h1
end
/-! ### facts of classes -/
section
variable {K : PySem.W.Frag} {h : Heap} {mg : Str → Option Value} {c : Str} {C : Addr}
def clsB (K : PySem.W.Frag) (C : Addr) (fs : List Str) : Bool :=
  PySem.W.plainGet K C Str.empty && (PySem.W.hasDictIn K C && (PySem.W.plainOver K C && (PySem.W.findIn K (.ref C) "__setattr__" == some (some (.builtin "object.__setattr__")) && (PySem.W.makesIn K C && (PySem.W.keepIn K (.ref C) && fs.all fun f => PySem.W.findIn K (.ref C) f == some none)))))
structure ClsOk (K : PySem.W.Frag) (mg : Str → Option Value) (c : Str) (C : Addr) (fs : List Str) : Prop where
  g : mg c = some (.ref C)
  cl : Cls K C
  mks : PySem.W.makesIn K C = true
  kp : PySem.W.keepIn K (.ref C) = true
  na : ∀ f ∈ fs, NoAttr K C f
theorem cls_mk {fs : List Str} (X : K.In h) (G : h.Ns mainGlobals mg) (a : PySem.W.nsIn K mainGlobals c = some (some (.ref C))) (e : clsB K C fs = true) : ClsOk K mg c C fs := by
  unfold clsB at e
  simp only [Bool.and_eq_true, beq_iff_eq, List.all_eq_true] at e
  obtain ⟨e1, e2, e3, e4, e5, e6, e7⟩ := e
  exact ⟨PySem.W.mg_of X G a, ⟨e1, e2, e3, e4⟩, e5, e6, e7⟩
theorem ClsOk.fld {fs : List Str} (o : ClsOk K mg c C fs) {f : Str} (hf : f ∈ fs) : FldP K mg c f := ⟨C, o.g, o.cl, o.na f hf⟩
theorem mtT_mk {m qual : Str} {st : Stmt} {ps fs : List Str} {f : Addr} {oc : Value} {od an : Option Addr} {osl : Array (Option Value)} {kV doc pm cdv ct : Value} (o : ClsOk K mg c C fs) (a : PySem.W.findIn K (.ref C) m = some (some (.ref f))) (fn : PySem.W.isFn K (.ref f) = true)
    (l : K.lookup f = some ⟨oc, od, .func (PySem.W.fnOf m qual (defArgs st) (defBody st) (defScope st) .none kV doc pm an cdv ct), osl⟩) (cd : PySem.W.codeIn K cdv qual = true) (k : PySem.W.keepIn K (.ref f) = true) (hb : ∀ fd, Fun K m qual st f fd → L2.Binds K fd ps []) : MtT K mg c m qual st ps :=
  ⟨C, f, _, o.g, o.cl, ⟨a, fn, k⟩, fun_mk l cd k, hb _ (fun_mk l cd k)⟩
theorem mkT_mk {qual : Str} {st : Stmt} {ps fs : List Str} {f : Addr} {oc : Value} {od an : Option Addr} {osl : Array (Option Value)} {kV doc pm cdv ct : Value} (o : ClsOk K mg c C fs) (a : PySem.W.findIn K (.ref C) "__init__" = some (some (.ref f))) (fn : PySem.W.isFn K (.ref f) = true)
    (l : K.lookup f = some ⟨oc, od, .func (PySem.W.fnOf "__init__" qual (defArgs st) (defBody st) (defScope st) .none kV doc pm an cdv ct), osl⟩) (cd : PySem.W.codeIn K cdv qual = true) (k : PySem.W.keepIn K (.ref f) = true) (hb : ∀ fd, Fun K "__init__" qual st f fd → L2.Binds K fd ps []) : MkT K mg c qual st ps :=
  ⟨C, f, _, o.g, ⟨o.mks, a, fn, o.kp⟩, fun_mk l cd k, hb _ (fun_mk l cd k)⟩
end
/-- the j-th statement of a class -/
def inS (st : Stmt) (j : Nat) : Stmt := match st with
  | .ClassDef _ _ _ b _ _ _ _ _ _ _ => b.getD j (.Pass ⟨0, 0, 0, 0⟩)
  | _ => .Pass ⟨0, 0, 0, 0⟩
end Dn


set_option Elab.async false
set_option linter.all false
set_option maxRecDepth 100000
set_option maxHeartbeats 4000000
namespace Dn
open PySem PySem.Spec PyProof.Rows L2
/-! ### chains of comparisons -/
def lnk (k : Res D) : D → Res D
  | .bl true => k
  | .bl false => .ok (.bl false)
  | _ => .stuck
def chn (g g' : D → D → Res D) (fa fb fc : Sto → Res D) : Sto → Res D := fun δ => (fa δ).bind fun x => (fb δ).bind fun y => (g x y).bind (lnk ((fc δ).bind (g' y)))
section
variable {T : List (Addr × Str)} {X : Cx} {W : Wi} {a b c : Expr} {fa fb fc : Sto → Res D} {pos : Pos} {r r' : R2} {g g' : D → D → Res D} {op op' : CmpOp}
theorem chn_read (hr : R2D X.K X.mg T r g) (hr' : R2D X.K X.mg T r' g') {σ : L2.St} {F H : Hp} {δ : Sto} {Q : VK} (L : Lcl X.K X.mg T F H σ δ) (h : PostE X.K X.mg T F H W Q (chn g g' fa fb fc δ)) : tChain r r' (tD X.K X.mg T W fa) (tD X.K X.mg T W fb) (tD X.K X.mg T W fc) σ H Q :=
  bindE ppE L h fun x v F1 H1 s1 L1 r1 h1 => bindE ppE L1 h1 fun y u F2 H2 s2 L2 r2 h2 => by
    refine hr F2 H2 v u x y W _ L2.gd (r1.mono s2.r) r2 ?_
    cases z : g x y with
    | stuck => rw [z] at h2; exact h2
    | rs c => rw [z] at h2; exact h2
    | ok d =>
      rw [z] at h2
      intro w F3 H3 s3 r3
      have L3 := L2.step s3
      have h3 : PostE X.K X.mg T F3 H3 W Q (lnk ((fc δ).bind (g' y)) d) := PostE.shift h2 s3
      cases r3 with
      | bl k =>
        refine ⟨k, rfl, ?_⟩
        cases k with
        | true =>
          rw [if_pos rfl]
          exact bindE ppE L3 h3 fun e w F4 H4 s4 L4 r4 h4 => hr' F4 H4 u w y e W Q L4.gd ((r2.mono s3.r).mono s4.r) r4 h4
        | false => rw [if_neg Bool.false_ne_true]; exact PostE.here h3 L3.gd (.bl false)
      | _ => exact (show False from h3).elim
theorem de_chn (ho : OpR X (compareOp op) r) (hr : R2D X.K X.mg T r g) (ho' : OpR X (compareOp op') r') (hr' : R2D X.K X.mg T r' g') (ha : DE T X W a fa) (hb : DE T X W b fb) (hc : DE T X W c fc) (hm : lastMarks [op, op'] [b, c] = false := by with_unfolding_all rfl) :
    DE T X W (.Compare a [op, op'] [b, c] pos) (chn g g' fa fb fc) := weakE (pe_chain ho ho' ha hb hc hm) fun σ H Q ⟨F, δ, L, h⟩ => chn_read hr hr' L h
theorem dt_chn (ho : OpR X (compareOp op) r) (hr : R2D X.K X.mg T r g) (ho' : OpR X (compareOp op') r') (hr' : R2D X.K X.mg T r' g') (ha : DE T X W a fa) (hb : DE T X W b fb) (hc : DE T X W c fc) (hm : lastMarks [op, op'] [b, c] = false := by with_unfolding_all rfl) :
    DT T X W (.Compare a [op, op'] [b, c] pos) (tst (chn g g' fa fb fc)) := weakT (pt_chain ho ho' ha hb hc hm) fun σ H Q ⟨F, δ, L, h⟩ => chn_read hr hr' L (PostT.test (X := X) h)
end
@[simp] theorem chn_eq {g g' : D → D → Res D} {fa fb fc : Sto → Res D} {δ : Sto} : chn g g' fa fb fc δ = (fa δ).bind fun x => (fb δ).bind fun y => (g x y).bind (lnk ((fc δ).bind (g' y))) := nrfl rfl
theorem lnk_bl {k : Res D} {b : Bool} : lnk k (.bl b) = if b = true then k else .ok (.bl false) := by cases b <;> rfl
@[simp] theorem mth_eq {c m : Str} {g : List D → Res D} {fo : Sto → Res D} {fa : Sto → Res (List D)} {δ : Sto} : mth c m g fo fa δ = (fo δ).bind fun x => (match x with
  | .obj c' fs => if c' = c ∧ fs.lookup m = none ∧ m ≠ ("#" : Str) then (fa δ).bind fun xs => g (.obj c' fs :: xs) else .stuck
  | _ => .stuck) := nrfl rfl
end Dn
namespace Dn
open PySem PySem.Spec PyProof.Rows L2
theorem fld_of {K : PySem.W.Frag} {mg : Str → Option Value} {c f : Str} {fs : List Str} (h : ∃ C, ClsOk K mg c C fs) (hf : f ∈ fs) : FldP K mg c f := by
  obtain ⟨C, o⟩ := h
  exact o.fld hf
end Dn
namespace Dn
open PySem PySem.Spec PyProof.Rows L2
/-! ### new lists by + -/
def addN : D → D → Res (List D)
  | .lst a, .lst b => if a.length + b.length ≤ line then .ok (a ++ b) else .stuck
  | _, _ => .stuck
def binN (g : D → D → Res (List D)) (fa fb : Sto → Res D) : Sto → Res (List D) := fun δ => (fa δ).bind fun x => (fb δ).bind fun y => g x y
theorem PostL.ite {K : PySem.W.Frag} {mg : Str → Option Value} {T : List (Addr × Str)} {F H : Hp} {W : Wi} {Q : VK} {c : Prop} [Decidable c] {x : Res (List D)} (h : PostL K mg T F H W Q (if c then x else .stuck)) : c ∧ PostL K mg T F H W Q x := by
  by_cases hc : c
  · rw [if_pos hc] at h; exact ⟨hc, h⟩
  · rw [if_neg hc] at h; exact h.elim
theorem dl_add {T : List (Addr × Str)} {X : Cx} {W : Wi} {a b : Expr} {fa fb : Sto → Res D} {pos : Pos} (ha : DE T X W a fa) (hb : DE T X W b fb) : DL T X W (.BinOp a .Add b pos) (binN addN fa fb) :=
  weakE (pe_op op_cat ha hb) fun σ H Q ⟨F, δ, L, h⟩ => bindE ppL L h fun x v F1 H1 s1 L1 r1 h1 => bindE ppL L1 h1 fun y u F2 H2 s2 L2 r2 h2 => by
    have r1 := r1.mono s2.r
    unfold addN at h2
    split at h2
    · rename_i as bs
      obtain ⟨hl, h3⟩ := PostL.ite h2
      obtain ⟨p, vs, rfl, hp, rp⟩ := r1.lst_inv
      obtain ⟨q, us, rfl, hq, rq⟩ := r2.lst_inv
      refine ⟨p, q, vs, us, rfl, rfl, L2.sub _ _ hp, L2.sub _ _ hq, by rw [rp.length, rq.length]; exact Nat.le_trans hl line_le, fun z hz => ?_⟩
      exact h3 z _ F2 _ (.of hz) (Step.junk L2.gd hz) (L2.sub.none hz) upd_same (rp.append rq)
    · exact h2.elim
@[simp] theorem binN_eq {g : D → D → Res (List D)} {fa fb : Sto → Res D} {δ : Sto} : binN g fa fb δ = (fa δ).bind fun x => (fb δ).bind fun y => g x y := nrfl rfl
theorem addN_lst {a b : List D} (h : a.length + b.length ≤ line) : addN (.lst a) (.lst b) = .ok (a ++ b) := if_pos h
end Dn


set_option Elab.async false
set_option linter.all false
set_option maxRecDepth 100000
set_option maxHeartbeats 4000000
namespace Dn
open PySem PySem.Spec PyProof.Rows L2
/-! ### sorting, as a plain function -/
section
variable {α β : Type}
def insL (lt : α → α → Bool) (x : α) : List α → List α
  | [] => [x]
  | y :: l => if lt y x = true then y :: insL lt x l else x :: y :: l
def srtL (lt : α → α → Bool) : List α → List α
  | [] => []
  | x :: l => insL lt x (srtL lt l)
theorem ins_perm (lt : α → α → Bool) (x : α) : ∀ l, (insL lt x l).Perm (x :: l)
  | [] => .refl _
  | y :: l => by
    unfold insL
    split
    · exact ((ins_perm lt x l).cons y).trans (.swap x y l)
    · exact .refl _
theorem srt_perm (lt : α → α → Bool) : ∀ l, (srtL lt l).Perm l
  | [] => .refl _
  | x :: l => (ins_perm lt x _).trans ((srt_perm lt l).cons x)
theorem srt_len (lt : α → α → Bool) (l : List α) : (srtL lt l).length = l.length := (srt_perm lt l).length_eq
theorem srt_mem {lt : α → α → Bool} {l : List α} {x : α} : x ∈ srtL lt l ↔ x ∈ l := (srt_perm lt l).mem_iff
theorem ins_srtd {lt : α → α → Bool} (O : SrtO.Swo lt) (x : α) : ∀ {l}, SrtO.Srtd lt l → SrtO.Srtd lt (insL lt x l)
  | [], _ => SrtO.srtd_one x
  | y :: l, h => by
    unfold insL
    split
    · rename_i hy
      refine List.pairwise_cons.mpr ⟨fun z hz => ?_, ins_srtd O x (List.pairwise_cons.mp h).2⟩
      rcases List.mem_cons.mp ((ins_perm lt x l).mem_iff.mp hz) with rfl | hz
      · exact O.asym _ _ hy
      · exact SrtO.srtd_head h z hz
    · rename_i hy
      have hy' : lt y x = false := by simpa using hy
      exact List.pairwise_cons.mpr ⟨O.le_all h hy', h⟩
theorem srt_srtd {lt : α → α → Bool} (O : SrtO.Swo lt) : ∀ l, SrtO.Srtd lt (srtL lt l)
  | [] => .nil
  | x :: l => ins_srtd O x (srt_srtd O l)
theorem ins_filter {lt : α → α → Bool} (O : SrtO.Swo lt) (z x : α) : ∀ l, (insL lt x l).filter (SrtO.eqv lt z) = (x :: l).filter (SrtO.eqv lt z)
  | [] => rfl
  | y :: l => by
    unfold insL
    split
    · rename_i hy
      have ih := ins_filter O z x l
      rw [List.filter_cons (x := y), ih]
      by_cases hx : SrtO.eqv lt z x = true
      · have : SrtO.eqv lt z y = false := by
          rw [← Bool.not_eq_true]
          intro q
          have h3 : lt y x = false := O.tr x z y (SrtO.eqv_iff.mp hx).1 (SrtO.eqv_iff.mp q).2
          rw [hy] at h3; cases h3
        simp [List.filter_cons, this, hx]
      · simp [List.filter_cons, hx]
    · rfl
theorem srt_stb {lt : α → α → Bool} (O : SrtO.Swo lt) : ∀ l, SrtO.Stb lt (srtL lt l) l
  | [] => .refl _
  | x :: l => ⟨srt_perm lt _, fun z => by
    show (insL lt x (srtL lt l)).filter _ = _
    rw [ins_filter O, List.filter_cons, List.filter_cons, (srt_stb O l).cls z]⟩
theorem srt_uniq {lt : α → α → Bool} (O : SrtO.Swo lt) {l m : List α} (h1 : SrtO.Srtd lt l) (h2 : SrtO.Stb lt l m) : l = srtL lt m :=
  SrtO.stb_uniq O h1 (srt_srtd O m) (h2.trans ⟨(srt_perm lt m).symm, fun z => ((srt_stb O m).cls z).symm⟩)
theorem ins_paired {R : α → β → Prop} {lt : α → α → Bool} {lt' : β → β → Bool} (h : ∀ x d y e, R x d → R y e → lt x y = lt' d e) {x : α} {d : β} (hx : R x d) : ∀ {l m}, Paired R l m → Paired R (insL lt x l) (insL lt' d m)
  | _, _, .nil => .cons hx .nil
  | y :: l, e :: m, .cons r t => by
    unfold insL
    rw [h y e x d r hx]
    split
    · exact .cons r (ins_paired h hx t)
    · exact .cons hx (.cons r t)
theorem srt_paired {R : α → β → Prop} {lt : α → α → Bool} {lt' : β → β → Bool} (h : ∀ x d y e, R x d → R y e → lt x y = lt' d e) : ∀ {l m}, Paired R l m → Paired R (srtL lt l) (srtL lt' m)
  | _, _, .nil => .nil
  | _, _, .cons r t => ins_paired h r (srt_paired h t)
theorem srt_map {lt : α → α → Bool} {lt' : β → β → Bool} (f : α → β) (h : ∀ x y, lt' (f x) (f y) = lt x y) : ∀ l, srtL lt' (l.map f) = (srtL lt l).map f
  | [] => rfl
  | x :: l => by
    have hi : ∀ l, insL lt' (f x) (l.map f) = (insL lt x l).map f := fun l => by
      induction l with
      | nil => rfl
      | cons y l ih =>
        rw [List.map_cons, insL, insL, h]
        split
        · rw [ih]; rfl
        · rfl
    rw [List.map_cons, srtL, srt_map f h l, hi]; rfl
end
def ltI (i j : Int) : Bool := decide (i < j)
def ltS (a b : List Nat) : Bool := decide (a < b)
theorem swo_I : SrtO.Swo ltI := ⟨fun x y h => by
  have := of_decide_eq_true h
  exact decide_eq_false (by omega), fun x y z h1 h2 => by
  have := of_decide_eq_false h1
  have := of_decide_eq_false h2
  exact decide_eq_false (by omega)⟩
theorem swo_S : SrtO.Swo ltS := ⟨fun x y h => by
  have := of_decide_eq_true h
  exact decide_eq_false (fun q => List.lt_irrefl _ (List.lt_trans this q)), fun x y z h1 h2 => by
  have h1 := of_decide_eq_false h1
  have h2 := of_decide_eq_false h2
  exact decide_eq_false (fun q => by
    rw [List.not_lt] at h1 h2
    exact (List.not_lt.mpr (List.le_trans h1 h2)) q)⟩
/-- two sorted rearrangements are one -/
theorem perm_eq {α : Type} {le : α → α → Prop} (anti : ∀ a b, le a b → le b a → a = b) : ∀ {l m : List α}, l.Pairwise le → m.Pairwise le → l.Perm m → l = m
  | [], m, _, _, h => (List.Perm.eq_nil h.symm).symm
  | x :: l, [], _, _, h => absurd h.length_eq (by simp)
  | x :: l, y :: m, hl, hm, h => by
    have e : x = y := by
      rcases List.mem_cons.mp (h.mem_iff.mp (List.mem_cons_self (a := x) (l := l))) with e | hx
      · exact e
      · rcases List.mem_cons.mp (h.mem_iff.mpr (List.mem_cons_self (a := y) (l := m))) with e | hy
        · exact e.symm
        · exact anti _ _ ((List.pairwise_cons.mp hl).1 y hy) ((List.pairwise_cons.mp hm).1 x hx)
    subst e
    rw [perm_eq anti (List.pairwise_cons.mp hl).2 (List.pairwise_cons.mp hm).2 h.cons_inv]
theorem srtI_le (ns : List Int) : (srtL ltI ns).Pairwise (· ≤ ·) := (srt_srtd swo_I ns).imp fun {x y} h => by
  have := of_decide_eq_false h
  omega
theorem srtS_le (ns : List (List Nat)) : (srtL ltS ns).Pairwise (· ≤ ·) := (srt_srtd swo_S ns).imp fun {x y} h => List.not_lt.mp (of_decide_eq_false h)
end Dn


set_option Elab.async false
set_option linter.all false
set_option maxRecDepth 100000
set_option maxHeartbeats 4000000
namespace SrtT
open PySem PyProof.Rows Srt SrtO
section
variable {prog : Program} {w : World} {A : Around} {E : Value → Shared → Prop} {s : Shared}
def IsTrip (h : Heap) (v : Value) (x y : Int) : Prop := ∃ a o t u z n, v = .ref a ∧ h.get? a = some o ∧ o.cls = .type "tuple" ∧ o.data = .seq #[.int x t, .int y u, z] n
theorem IsTrip.keeps {h h' : Heap} {v : Value} {x y : Int} (p : IsTrip h v x y) (k : ∀ b o, h.get? b = some o → o.cls = .type "tuple" → h'.get? b = some o) : IsTrip h' v x y := by
  obtain ⟨a, o, t, u, z, n, e, ho, hc, hd⟩ := p
  exact ⟨a, o, t, u, z, n, e, k _ _ ho hc, hc, hd⟩
theorem firsts3 {h : Heap} : ∀ {vs : List Value}, (∀ v ∈ vs, ∃ x y, IsTrip h v x y) → ∃ fs : List Value, PySem.W.KatTups h vs fs ∧ fs.length = vs.length ∧ ∀ f ∈ fs, ∃ x t, f = Value.int x t
  | [], _ => ⟨[], PySem.W.KatTups.nil, rfl, fun _ hm => by simp at hm⟩
  | v :: vs, hp => by
    obtain ⟨fs, h1, h2, h3⟩ := firsts3 (vs := vs) fun v' hm => hp v' (List.mem_cons_of_mem _ hm)
    obtain ⟨x, y, a, o, t, u, z, n, e, ho, hc, hd⟩ := hp v (List.mem_cons_self ..)
    subst e
    refine ⟨.int x t :: fs, PySem.W.KatTups.cons ho hc hd rfl h1, by rw [List.length_cons, List.length_cons, h2], fun f hm => ?_⟩
    rcases List.mem_cons.mp hm with rfl | hm
    · exact ⟨x, t, rfl⟩
    · exact h3 f hm
theorem trip_cmp {vs : List Value} {k : Value → Int × Int} (hp : ∀ v ∈ vs, IsTrip s.heap v (k v).1 (k v).2) (hi : ∀ v ∈ vs, ∀ u ∈ vs, k v = k u → v = u) : Cmp prog w A s (tuples' true) (fun p => p.1 ∈ vs) (lt2 fun v u => lexB (k v) (k u)) := by
  intro p q hm hm'
  have h1 := hp _ hm
  have h2 := hp _ hm'
  have h3 := hi _ hm _ hm'
  show wpAny (model prog w) A (keyLt' (tuples' true) p.1 q.1) (fun r s' => s' = s ∧ r = lexB (k p.1) (k q.1)) (fun _ _ => False) s
  have h3' : (k p.1).1 = (k q.1).1 → (k p.1).2 = (k q.1).2 → p.1 = q.1 := fun e1 e2 => h3 (Prod.ext e1 e2)
  clear h3
  unfold lexB
  generalize (k p.1).1 = x at h1 h3' ⊢
  generalize (k p.1).2 = y at h1 h3' ⊢
  generalize (k q.1).1 = x' at h2 h3' ⊢
  generalize (k q.1).2 = y' at h2 h3' ⊢
  obtain ⟨a, o, t, u, z, n, e, ho, hc, hd⟩ := h1
  obtain ⟨a', o', t', u', z', n', e', ho', hc', hd'⟩ := h2
  rw [e, e'] at h3' ⊢
  refine PySem.W.kat_lt ho hd ho' hd' ?_
  show PySem.W.KatLex prog w A true (decide (3 < 3)) _ [(.int x t, .int x' t'), (.int y u, .int y' u'), (z, z')] 0 s
  refine PySem.W.kat_cons (SeqAt.EqAt.int_int x t x' t' prog w _ _ ?_)
  refine PySem.W.kat_go (fun e1 => ?_) (fun e1 => ?_)
  · have ex : x = x' := by simpa using e1
    refine PySem.W.kat_yes (PySem.W.kat_cons (SeqAt.EqAt.int_int y u y' u' prog w _ _ ?_))
    refine PySem.W.kat_go (fun e2 => ?_) (fun e2 => ?_)
    · have ey : y = y' := by simpa using e2
      have e3 : (if x = x' then decide (y < y') else decide (x < x')) = false := by
        rw [if_pos ex, ey]
        exact decide_eq_false (Int.lt_irrefl _)
      have ez : z = z' := by
        have ea := h3' ex ey
        cases ea
        rw [ho] at ho'
        cases ho'
        rw [hd] at hd'
        have := congrArg (fun d => match d with | .seq xs _ => xs[2]? | _ => none) hd'
        simpa using this
      subst ez
      refine PySem.W.kat_yes (PySem.W.kat_cons (SeqAt.EqAt.same z prog w _ _ ?_))
      exact PySem.W.kat_yes (PySem.W.kat_nil ⟨rfl, e3.symm⟩)
    · have e3 : (if x = x' then decide (y < y') else decide (x < x')) = decide (y < y') := if_pos ex
      refine PySem.W.kat_no (PySem.W.kat_one _ _ (PyProof.Rows.lt_int ?_))
      exact (show s = s ∧ decide (y < y') = (if x = x' then decide (y < y') else decide (x < x')) from ⟨rfl, e3.symm⟩)
  · have ex : ¬ x = x' := by simpa using e1
    have e3 : (if x = x' then decide (y < y') else decide (x < x')) = decide (x < x') := if_neg ex
    exact PySem.W.kat_no (oneLt_int ⟨rfl, e3.symm⟩)
theorem trips_sortable {a : Addr} {vs : List Value} {k : Value → Int × Int} (h0 : 0 < vs.length) (hp : ∀ v ∈ vs, IsTrip s.heap v (k v).1 (k v).2) (hi : ∀ v ∈ vs, ∀ u ∈ vs, k v = k u → v = u) (ha : ∀ o, s.heap.get? a = some o → o.cls ≠ .type "tuple") : SortableO prog w A s a vs fun v u => lexB (k v) (k u) := by
  intro h' keep
  have hp' : ∀ v ∈ vs, IsTrip h' v (k v).1 (k v).2 := fun v hm => (hp v hm).keeps fun b o e c => keep b o (fun z => by subst z; exact ha o e c) e
  obtain ⟨fs, h1, h2, h3⟩ := firsts3 fun v hm => ⟨_, _, hp' v hm⟩
  refine ⟨tuples' true, fun Q E hq => ?_, trip_cmp hp' hi⟩
  refine PySem.W.kat_kind (T := .type "int") h1 (by omega) (fun f hm => ?_) (by rfl) ?_
  · obtain ⟨x, t, rfl⟩ := h3 f hm
    exact PySem.W.Looks.now
  · have e : (Value.type "int" != Value.type "tuple") = true := by first | decide +kernel | rfl | decide
    rw [e]
    exact hq
theorem sorted_trips {l : Addr} {vs : List Value} {k : Value → Int × Int} {Q : Value → Shared → Prop} (hl : s.heap.IsList l vs.toArray) (hz : vs.length ≤ sizeLine) (hp : ∀ v ∈ vs, IsTrip s.heap v (k v).1 (k v).2) (hi : ∀ v ∈ vs, ∀ u ∈ vs, k v = k u → v = u)
    (h : ∀ (h' : Heap) (d : Addr) (out : List Value), Srtd (fun v u => lexB (k v) (k u)) out → Stb (fun v u => lexB (k v) (k u)) out vs → (∀ b o, s.heap.get? b = some o → h'.get? b = some o) → s.heap.objs.size ≤ d → (∃ n, h'.get? d = some (seqObj "list" out.toArray n)) → Q (.ref d) { s with heap := h' }) :
    wpAny (model prog w) A (call (.builtin "sorted") [.ref l]) Q E s := by
  refine sorted_ord (swo_lex k) hl hz (fun h2 h₁ a ha kk => ?_) fun out hs hb => ?_
  · refine trips_sortable (s := { s with heap := h₁ }) (by omega) (fun v hm => (hp v hm).keeps fun b o e _ => (kk b o e).2) hi fun o e => ?_
    have e' : some o = some (seqObj "list" vs.toArray 0) := e.symm.trans ha
    cases e'
    intro c
    exact absurd (Value.type.inj c) (by decide)
  · exact h _ _ out hs hb (fun b o e => sortedAll_old e) (Nat.le_succ _) (sortedAll_at s.heap vs out.toArray)
end
end SrtT
namespace Dn
open PySem PySem.Spec PyProof.Rows L2
/-- sorted of triples that the first two, ints, tell apart -/
def rSortedT3 (K : PySem.W.Frag) : List V → Hp → VK → Prop := fun vs H Q => ∃ (a : Addr) (xs : List V) (k : V → Int × Int), vs = [V.ref a] ∧ SqL K H a xs ∧ (∀ x ∈ xs, ∃ t z, x = V.ref t ∧ H t = some (.tup [.int (k x).1, .int (k x).2, z])) ∧ (∀ x ∈ xs, ∀ y ∈ xs, k x = k y → x = y) ∧
  ∀ ys p, SrtO.Srtd (ltP k) ys → SrtO.Stb (ltP k) ys xs → H p = none → Q (.ref p) (upd H p (.lst ys))
def rSortedSA (K : PySem.W.Frag) : List V → Hp → VK → Prop := fun vs H Q => ∃ (a : Addr) (xs : List Str), vs = [V.ref a] ∧ SqL K H a (xs.map V.str) ∧
  ∀ (ys : List Str) (p : Addr), ys.Perm xs → sortedS ys = true → H p = none → Q (.ref p) (upd H p (.lst (ys.map V.str)))
section
variable {X : Cx}
theorem cr_sortedT3 : CallR X (.builtin "sorted") (rSortedT3 X.K) := by
  intro pins s σ H vs us Q I r h
  obtain ⟨a, xs, k, rfl, hs, hx, hi, q⟩ := h
  obtain ⟨its, rv, hl, hz⟩ := I.list hs
  obtain ⟨u, rfl, ru⟩ := vals1 r
  obtain rfl : u = Value.ref a := ru
  obtain ⟨e1, e2⟩ := refs_back rv fun x m => by
    obtain ⟨t, _, e, _⟩ := hx x m
    exact ⟨t, e⟩
  refine SrtT.sorted_trips (k := fun u => k (backV u)) hl.isList (by rw [← rv.length]; exact hz) (fun v hv => ?_) (fun v hv u hu e => ?_) fun h' d out h1 h2 kp hd hn => ?_
  · obtain ⟨t, rfl⟩ := e2 v hv
    have hm : V.ref t ∈ xs := by rw [e1]; exact List.mem_map.mpr ⟨_, hv, rfl⟩
    obtain ⟨t', z, e, ht⟩ := hx _ hm
    cases e
    obtain ⟨_, its2, r2, o, ho, hc, n, hd⟩ := I.hok _ _ ht
    cases r2 with
    | cons ri r3 =>
      cases r3 with
      | cons rj r4 =>
        cases r4 with
        | cons rk r5 =>
          cases r5
          obtain ⟨t1, rfl⟩ := ri
          obtain ⟨t2, rfl⟩ := rj
          exact ⟨t, o, t1, t2, _, n, rfl, ho, hc, hd⟩
  · obtain ⟨t, rfl⟩ := e2 v hv
    obtain ⟨t', rfl⟩ := e2 u hu
    have hm : V.ref t ∈ xs := by rw [e1]; exact List.mem_map.mpr ⟨_, hv, rfl⟩
    have hm' : V.ref t' ∈ xs := by rw [e1]; exact List.mem_map.mpr ⟨_, hu, rfl⟩
    have := hi _ hm _ hm' e
    cases this
    rfl
  · have h3 : ∀ u ∈ out, ∃ a, u = Value.ref a := fun u hu => e2 u (h2.perm.mem_iff.mp hu)
    obtain ⟨n, hn⟩ := hn
    have hb : SrtO.Stb (ltP k) (out.map backV) xs := by
      rw [e1]
      exact SrtO.Stb.map (ltP_swo k) backV h2
    refine ⟨.ref d, upd H d (.lst (out.map backV)), I.laid (t' := s.toks) kp hd ⟨?_, out, n, vals_back h3, hn⟩, rfl, q _ d (SrtO.srtd_map h1) hb (I.hok.fresh hd)⟩
    rw [hb.len]
    exact hz
theorem cr_sortedSA : CallR X (.builtin "sorted") (rSortedSA X.K) := by
  intro pins s σ H vs us Q I r h
  obtain ⟨a, xs, rfl, hs, q⟩ := h
  obtain ⟨its, rv, hl, hz⟩ := I.list hs
  rw [Vals.ref1 r]
  refine PyProof.Rows.sorted_strsAny hl.isList rv.strs (by rw [← rv.length]; exact hz) fun out ys h1 h2 h3 => ?_
  obtain ⟨ep, he'⟩ := PyProof.Rows.sortedAll_at s.heap its out
  have hlen : (ys.map V.str).length ≤ sizeLine := by
    rw [List.length_map, h2.length_eq]
    rw [List.length_map] at hz
    exact hz
  exact ⟨.ref _, upd H (s.heap.objs.size + 1) (.lst (ys.map V.str)), I.laid (t' := s.toks) (fun _ _ => PyProof.Rows.sortedAll_old) (Nat.le_succ _) ⟨hlen, out.toList, ep, vals_of_strs h1, he'⟩, rfl, q ys _ h2 h3 (I.hok.fresh (Nat.le_succ _))⟩
theorem cr_sortedA : CallR X (.builtin "sorted") (fun xs H Q => rSortedI X.K xs H Q ∨ (rSortedSA X.K xs H Q ∨ (rSortedPO X.K xs H Q ∨ rSortedT3 X.K xs H Q))) := cr_sortedI.or (cr_sortedSA.or (cr_sortedPO.or cr_sortedT3))
end
/-! ### sorted, on data -/
def isP2 : D → Bool
  | .tup [.int _, .int _] => true
  | _ => false
def isP3 : D → Bool
  | .tup [.int _, .int _, _] => true
  | _ => false
def k2 : D → Int × Int
  | .tup (.int a :: .int b :: _) => (a, b)
  | _ => (0, 0)
def lt2D (x y : D) : Bool := SrtO.lexB (k2 x) (k2 y)
theorem swo_2D : SrtO.Swo lt2D := by
  refine ⟨fun x y h => ?_, fun x y z h1 h2 => ?_⟩
  · have a := SrtO.lexB_iff.mp h
    refine SrtO.lexB_no.mpr ?_
    omega
  · have a := SrtO.lexB_no.mp h1
    have b := SrtO.lexB_no.mp h2
    refine SrtO.lexB_no.mpr ?_
    omega
def sortedD : List D → Res D
  | [.lst xs] => match intsO xs with
    | some ns => .ok (.lst ((srtL ltI ns).map .int))
    | none => match textsO xs with
      | some ls => .ok (.lst ((srtL ltS ls).map .str))
      | none => if xs.all isP2 = true ∨ (xs.all isP3 = true ∧ (xs.map k2).Nodup) then .ok (.lst (srtL lt2D xs)) else .stuck
  | _ => .stuck
section
variable {T : List (Addr × Str)} {K : PySem.W.Frag} {mg : Str → Option Value}
theorem risingS_le : ∀ (ys : List Str) (x : Str), risingS x ys = true → ((x :: ys).map TL.tl).Pairwise (· ≤ ·)
  | [], x, _ => List.pairwise_singleton _ _
  | y :: r, x, h => by
    unfold risingS at h
    rw [Bool.and_eq_true] at h
    have ih := risingS_le r y h.2
    have hxy : TL.tl x ≤ TL.tl y := by
      have h1 := h.1
      rw [ltCps_eq] at h1
      have h2 : ¬ y.cps.toList < x.cps.toList := by simpa using h1
      exact List.not_lt.mp h2
    rw [List.map_cons]
    refine List.pairwise_cons.mpr ⟨fun z hz => ?_, ih⟩
    rw [List.map_cons] at hz
    rcases List.mem_cons.mp hz with rfl | hz
    · exact hxy
    · rw [List.map_cons] at ih
      exact List.le_trans hxy ((List.pairwise_cons.mp ih).1 z hz)
theorem sortedS_le : ∀ (ys : List Str), sortedS ys = true → (ys.map TL.tl).Pairwise (· ≤ ·)
  | [], _ => .nil
  | x :: r, h => risingS_le r x h
theorem RpL.of_strs {F : Hp} : ∀ {ys : List Str} {ls : List (List Nat)}, ys.map TL.tl = ls → RpL K mg F (ys.map V.str) (ls.map D.str)
  | [], _, e => by subst e; exact .nil
  | y :: ys, _, e => by subst e; exact .cons (.str rfl) (RpL.of_strs rfl)
theorem RpL.of_ints {F : Hp} : ∀ (ns : List Int), RpL K mg F (ns.map V.int) (ns.map D.int)
  | [] => .nil
  | n :: ns => .cons (.int n) (RpL.of_ints ns)
/-- the key of a value that stands for a pair, a triple -/
def kV2 (F : Hp) : V → Int × Int
  | .ref a => match F a with
    | some (.tup (.int x :: .int y :: _)) => (x, y)
    | _ => (0, 0)
  | _ => (0, 0)
theorem kV2_of {F : Hp} {v : V} {d : D} (h : isP2 d = true ∨ isP3 d = true) (r : Rp K mg F v d) : ∃ t vs, v = .ref t ∧ F t = some (.tup vs) ∧ kV2 F v = k2 d ∧ ((isP2 d = true ∧ vs = [.int (k2 d).1, .int (k2 d).2]) ∨ ∃ z, vs = [.int (k2 d).1, .int (k2 d).2, z]) := by
  rcases h with h | h
  · unfold isP2 at h
    split at h
    · rename_i a b
      obtain ⟨t, vs, rfl, e, q⟩ := r.tup_inv
      obtain ⟨v1, v2, rfl, r1, r2⟩ := q.two
      cases r1; cases r2
      refine ⟨t, _, rfl, e, ?_, .inl ⟨rfl, rfl⟩⟩
      simp only [kV2, e, k2]
    · cases h
  · unfold isP3 at h
    split at h
    · rename_i a b z
      obtain ⟨t, vs, rfl, e, q⟩ := r.tup_inv
      obtain ⟨v1, v2, v3, rfl, r1, r2, r3⟩ := q.three
      cases r1; cases r2
      refine ⟨t, _, rfl, e, ?_, .inr ⟨v3, rfl⟩⟩
      simp only [kV2, e, k2]
    · cases h
theorem RpL.both {F : Hp} {P : D → Prop} : ∀ {vs : List V} {ds : List D}, RpL K mg F vs ds → (∀ d ∈ ds, P d) → Paired (fun v d => Rp K mg F v d ∧ P d) vs ds
  | _, _, .nil, _ => .nil
  | _, _, .cons r t, h => .cons ⟨r, h _ List.mem_cons_self⟩ (RpL.both t fun d hd => h d (List.mem_cons_of_mem _ hd))
theorem RpL.mem {F : Hp} {vs : List V} {ds : List D} {x : V} (r : RpL K mg F vs ds) (h : x ∈ vs) : ∃ (i : Nat) (d : D), vs[i]? = some x ∧ ds[i]? = some d ∧ d ∈ ds ∧ Rp K mg F x d := by
  obtain ⟨i, hi⟩ := List.mem_iff_getElem?.mp h
  have hl : i < ds.length := by rw [← r.length]; exact (List.getElem?_eq_some_iff.mp hi).1
  exact ⟨i, ds[i], hi, List.getElem?_eq_getElem hl, List.getElem_mem hl, r.get hi (List.getElem?_eq_getElem hl)⟩
theorem rc_sorted : RCD K mg T (fun xs H Q => rSortedI K xs H Q ∨ (rSortedSA K xs H Q ∨ (rSortedPO K xs H Q ∨ rSortedT3 K xs H Q))) sortedD := by
  intro F H vs ds W Q gd r h
  unfold sortedD at h
  split at h
  · rename_i xs
    obtain ⟨v, rfl, rv⟩ := r.one
    obtain ⟨p, us, rfl, e1, q⟩ := rv.lst_inv
    split at h
    · rename_i ns e
      have e2 := ints_eq e
      subst e2
      have eu := q.ints
      subst eu
      refine .inl ⟨p, ns, rfl, .of (gd.sub _ _ e1), fun ns' l h1 h2 hl => ?_⟩
      have st := Step.new (o := .lst (ns'.map V.int)) gd hl
      have en : ns' = srtL ltI ns := perm_eq (fun a b => Int.le_antisymm) h2 (srtI_le ns) (h1.trans (srt_perm ltI ns).symm)
      refine h _ _ _ st (RpL.lst upd_same ?_)
      rw [en]
      exact RpL.of_ints _
    · split at h
      · rename_i ls e
        have e2 := texts_eq e
        subst e2
        obtain ⟨ys, rfl, e3⟩ := q.strs
        refine .inr (.inl ⟨p, ys, rfl, .of (gd.sub _ _ e1), fun zs l h1 h2 hl => ?_⟩)
        have st := Step.new (o := .lst (zs.map V.str)) gd hl
        have en : zs.map TL.tl = srtL ltS ls := perm_eq (fun a b => List.le_antisymm) (sortedS_le zs h2) (srtS_le ls) ((h1.map TL.tl).trans (by rw [e3]; exact (srt_perm ltS ls).symm))
        exact h _ _ _ st (RpL.lst upd_same (RpL.of_strs en))
      · obtain ⟨hc, h⟩ := PostE.ite h
        have hall : ∀ d ∈ xs, isP2 d = true ∨ isP3 d = true := fun d hd => hc.elim (fun z => .inl (List.all_eq_true.mp z d hd)) fun z => .inr (List.all_eq_true.mp z.1 d hd)
        have fin : ∀ ys l, SrtO.Srtd (ltP (kV2 F)) ys → SrtO.Stb (ltP (kV2 F)) ys us → H l = none → Q (.ref l) (upd H l (.lst ys)) := fun ys l h1 h2 hl => by
          have st := Step.new (o := .lst ys) gd hl
          have ey := srt_uniq (ltP_swo (kV2 F)) h1 h2
          have pr := srt_paired (lt := ltP (kV2 F)) (lt' := lt2D) (fun x d y e r1 r2 => by
            obtain ⟨_, _, _, _, k1, _⟩ := kV2_of r1.2 r1.1
            obtain ⟨_, _, _, _, k2, _⟩ := kV2_of r2.2 r2.1
            show SrtO.lexB _ _ = SrtO.lexB _ _
            rw [k1, k2]) (q.both hall)
          rw [← ey] at pr
          exact h _ _ _ st (RpL.lst upd_same (Paired.mono (fun _ _ z => z.1.mono st.r) pr))
        rcases hc with hc | ⟨hc, hn⟩
        · refine .inr (.inr (.inl ⟨p, us, kV2 F, rfl, .of (gd.sub _ _ e1), fun x hx => ?_, fin⟩))
          obtain ⟨i, d, _, _, hd, rd⟩ := q.mem hx
          have h2 := List.all_eq_true.mp hc d hd
          obtain ⟨t, vs, rfl, ht, hk, hv⟩ := kV2_of (.inl h2) rd
          rcases hv with ⟨_, hv⟩ | ⟨z, hv⟩
          · exact ⟨t, rfl, by rw [hk, ← hv]; exact gd.sub _ _ ht⟩
          · exfalso
            unfold isP2 at h2
            split at h2
            · obtain ⟨_, _, e9, e8, q9⟩ := rd.tup_inv
              cases e9
              rw [ht] at e8
              cases e8
              obtain ⟨_, _, e7, _⟩ := q9.two
              rw [hv] at e7
              cases e7
            · cases h2
        · refine .inr (.inr (.inr ⟨p, us, kV2 F, rfl, .of (gd.sub _ _ e1), fun x hx => ?_, fun x hx y hy ek => ?_, fin⟩))
          · obtain ⟨i, d, _, _, hd, rd⟩ := q.mem hx
            have h3 := List.all_eq_true.mp hc d hd
            obtain ⟨t, vs, rfl, ht, hk, hv⟩ := kV2_of (.inr h3) rd
            rcases hv with ⟨h2, _⟩ | ⟨z, hv⟩
            · exfalso
              unfold isP2 at h2
              split at h2
              · cases h3
              · cases h2
            · exact ⟨t, z, rfl, by rw [hk, ← hv]; exact gd.sub _ _ ht⟩
          · obtain ⟨i, d, hi, hi', hd, rd⟩ := q.mem hx
            obtain ⟨j, e, hj, hj', he, re⟩ := q.mem hy
            obtain ⟨_, _, _, _, k1, _⟩ := kV2_of (hall d hd) rd
            obtain ⟨_, _, _, _, k2', _⟩ := kV2_of (hall e he) re
            rw [k1, k2'] at ek
            have hij : i = j := by
              have hi2 : (xs.map k2)[i]? = some (k2 d) := by rw [List.getElem?_map, hi']; rfl
              have hj2 : (xs.map k2)[j]? = some (k2 d) := by rw [List.getElem?_map, hj', ek]; rfl
              have hlt : i < (xs.map k2).length := (List.getElem?_eq_some_iff.mp hi2).1
              exact (List.getElem?_inj hlt hn).mp (by rw [hi2, hj2])
            subst hij
            rw [hi] at hj
            cases hj
            rfl
  · exact h.elim
end
theorem sorted_ints (ns : List Int) : sortedD [.lst (ns.map .int)] = .ok (.lst ((srtL ltI ns).map .int)) := by
  show (match intsO (ns.map D.int) with | some ns => Res.ok (D.lst ((srtL ltI ns).map .int)) | none => _) = _
  rw [ints_map]
theorem sorted_texts (ls : List (List Nat)) : sortedD [.lst (ls.map .str)] = .ok (.lst ((srtL ltS ls).map .str)) := by
  cases ls with
  | nil => rfl
  | cons l ls =>
    show (match intsO ((l :: ls).map D.str) with | some ns => Res.ok (D.lst ((srtL ltI ns).map .int)) | none => (match textsO ((l :: ls).map D.str) with | some ls => Res.ok (D.lst ((srtL ltS ls).map .str)) | none => _)) = _
    rw [texts_map]
    rfl
theorem sorted_tups {xs : List D} (h : xs.all isP2 = true ∨ (xs.all isP3 = true ∧ (xs.map k2).Nodup)) : sortedD [.lst xs] = .ok (.lst (srtL lt2D xs)) := by
  cases xs with
  | nil => rfl
  | cons x xs =>
    have hx : isP2 x = true ∨ isP3 x = true := h.elim (fun z => .inl (List.all_eq_true.mp z x List.mem_cons_self)) fun z => .inr (List.all_eq_true.mp z.1 x List.mem_cons_self)
    have e : sortedD [.lst (x :: xs)] = (match intsO (x :: xs) with | some ns => Res.ok (D.lst ((srtL ltI ns).map .int)) | none => (match textsO (x :: xs) with | some ls => Res.ok (D.lst ((srtL ltS ls).map .str)) | none => if (x :: xs).all isP2 = true ∨ ((x :: xs).all isP3 = true ∧ ((x :: xs).map k2).Nodup) then .ok (.lst (srtL lt2D (x :: xs))) else .stuck)) := rfl
    rw [e]
    cases x with
    | tup l => rw [show intsO (D.tup l :: xs) = none from rfl, show textsO (D.tup l :: xs) = none from rfl]; exact if_pos h
    | _ => rcases hx with hx | hx <;> cases hx
end Dn


set_option Elab.async false
set_option linter.all false
set_option maxRecDepth 100000
set_option maxHeartbeats 4000000
namespace Dn
open PySem PySem.Spec PyProof.Rows L2
/-! ### enumerate, zip of lists -/
def enumD : List D → Res (List D)
  | [.lst xs] => .ok (xs.mapIdx fun i d => .tup [.int (i : Int), d])
  | _ => .stuck
def zipD : List D → Res (List D)
  | [.lst xs, .lst ys] => .ok (List.zipWith (fun a b => .tup [a, b]) xs ys)
  | _ => .stuck
section
variable {T : List (Addr × Str)} {X : Cx} {W : Wi} {K : PySem.W.Frag} {mg : Str → Option Value}
theorem walk_e {F : Hp} {a : Addr} {vs : List V} {ds : List D} (h : F a = some (.lst vs)) (r : RpL K mg F vs ds) : WalkD K mg T (Ite K a) F (ds.mapIdx fun i d => .tup [.int (i : Int), d]) := by
  intro i F' H' rel gd
  have hq : SqL K H' a vs := .of (gd.sub _ _ (rel.lst h))
  refine ⟨fun d ed => ?_, fun hl => ⟨vs, hq, by rw [r.length]; rw [List.length_mapIdx] at hl; exact hl⟩⟩
  rw [List.getElem?_mapIdx] at ed
  cases q : ds[i]? with
  | none => rw [q] at ed; cases ed
  | some e =>
    rw [q] at ed
    cases ed
    obtain ⟨v, ev, rv⟩ := r.get1 q
    refine ⟨⟨vs, v, hq, ev⟩, fun x H'' y => ?_⟩
    obtain ⟨t, z, rfl, ht, rfl, hz⟩ := y
    have ez := hz vs hq
    rw [ev] at ez
    cases ez
    have st := Step.new (o := .tup [.int (i : Nat), v]) gd ht
    exact ⟨_, st, RpL.tup upd_same (.cons (.int _) (.cons ((rv.mono rel).mono st.r) .nil))⟩
theorem walk_z {F : Hp} {a b : Addr} {vs us : List V} {ds es : List D} (h : F a = some (.lst vs)) (r : RpL K mg F vs ds) (h' : F b = some (.lst us)) (r' : RpL K mg F us es) : WalkD K mg T (Itz K a b) F (List.zipWith (fun a b => .tup [a, b]) ds es) := by
  intro i F' H' rel gd
  have hq : SqL K H' a vs := .of (gd.sub _ _ (rel.lst h))
  have hq' : SqL K H' b us := .of (gd.sub _ _ (rel.lst h'))
  refine ⟨fun d ed => ?_, fun hl => ⟨vs, us, hq, hq', by rw [r.length, r'.length]; rw [List.length_zipWith] at hl; omega⟩⟩
  rw [List.getElem?_zipWith] at ed
  cases q : ds[i]? with
  | none => rw [q] at ed; cases ed
  | some d1 =>
    cases q' : es[i]? with
    | none => rw [q, q'] at ed; cases ed
    | some d2 =>
      rw [q, q'] at ed
      cases ed
      obtain ⟨v, ev, rv⟩ := r.get1 q
      obtain ⟨u, eu, ru⟩ := r'.get1 q'
      refine ⟨⟨vs, us, v, u, hq, hq', ev, eu⟩, fun x H'' y => ?_⟩
      obtain ⟨t, z, z', rfl, ht, rfl, hz, hz'⟩ := y
      have ez := hz vs hq
      rw [ev] at ez
      cases ez
      have ez := hz' us hq'
      rw [eu] at ez
      cases ez
      have st := Step.new (o := .tup [v, u]) gd ht
      exact ⟨_, st, RpL.tup upd_same (.cons ((rv.mono rel).mono st.r) (.cons ((ru.mono rel).mono st.r) .nil))⟩
theorem di_enum {e : Expr} {elts : List Expr} {kk : Nat} {p pos tpos : Pos} {fa : Sto → Res (List D)} (hm : X.mg "enumerate" = none) (ha : DA T X W [e] fa) (hg : Gl X "enumerate" := by rfl) (hs : starEach [e] X.env = [(false, eval e X.env)] := by rfl) :
    DI T X W (.Tuple elts kk tpos) (.Call (.Name "enumerate" p) [e] [] pos) (rngA enumD fa) :=
  weakI (pi_enum hg hm ha hs) fun σ H R ⟨F, δ, L, h⟩ => bindA ppI L h fun ds vs F1 H1 s1 L1 r1 h1 => by
    unfold enumD at h1
    split at h1
    · obtain ⟨v, rfl, rv⟩ := r1.one
      obtain ⟨q, us, rfl, e1, r⟩ := rv.lst_inv
      exact ⟨q, us, rfl, .of (L1.sub _ _ e1), h1 _ F1 H1 L1.refl (walk_e e1 r)⟩
    · exact h1.elim
theorem di_zip {e e2 : Expr} {elts : List Expr} {kk : Nat} {p pos tpos : Pos} {fa : Sto → Res (List D)} (hm : X.mg "zip" = none) (ha : DA T X W [e, e2] fa) (hg : Gl X "zip" := by rfl) (hs : starEach [e, e2] X.env = (false, eval e X.env) :: starEach [e2] X.env := by rfl) (hpl : (backTo pos (starEach [e2] X.env)).any (·.1) = false := by rfl) :
    DI T X W (.Tuple elts kk tpos) (.Call (.Name "zip" p) [e, e2] [] pos) (rngA zipD fa) :=
  weakI (pi_zip hg hm ha hs hpl) fun σ H R ⟨F, δ, L, h⟩ => bindA ppI L h fun ds vs F1 H1 s1 L1 r1 h1 => by
    unfold zipD at h1
    split at h1
    · obtain ⟨v, u, rfl, rv, ru⟩ := r1.two
      obtain ⟨q, us, rfl, e1, r⟩ := rv.lst_inv
      obtain ⟨q', us', rfl, e1', r'⟩ := ru.lst_inv
      exact ⟨q, q', us, us', rfl, .of (L1.sub _ _ e1), .of (L1.sub _ _ e1'), h1 _ F1 H1 L1.refl (walk_z e1 r e1' r')⟩
    · exact h1.elim
/-! ### shifts -/
def shlD : D → D → Res D
  | .int i, .int j => if 0 ≤ j ∧ j ≤ 10000 ∧ i.natAbs < 2 ^ 10000 then .ok (.int (i * 2 ^ j.toNat)) else .stuck
  | _, _ => .stuck
theorem r_shl : R2D K mg T (rI CShl fun i j => .int (i * 2 ^ j.toNat)) shlD := r_I (gd := fun i j => .int (i * 2 ^ j.toNat)) (cd := fun i j => 0 ≤ j ∧ j ≤ 10000 ∧ i.natAbs < 2 ^ 10000) (fun _ _ => rfl) (fun x y h => by cases x <;> cases y <;> first | rfl | exact (h _ _ ⟨rfl, rfl⟩).elim) (fun i j F => .int _) fun i j h => by
  have := shl_ok (i := i) (j := j.toNat) (n := 10000) h.2.2 (by omega)
  rw [Int.toNat_of_nonneg h.1] at this
  exact this
/-! ### isinstance -/
def isID : D → Res D
  | .int _ => .ok (.bl true)
  | .bl _ => .ok (.bl true)
  | .non => .ok (.bl false)
  | .str _ => .ok (.bl false)
  | .lst _ => .ok (.bl false)
  | _ => .stuck
def isBD : D → Res D
  | .int _ => .ok (.bl false)
  | .bl _ => .ok (.bl true)
  | .non => .ok (.bl false)
  | .str _ => .ok (.bl false)
  | .lst _ => .ok (.bl false)
  | _ => .stuck
def isPD : D → Res D
  | .int _ => .ok (.bl false)
  | .tup _ => .ok (.bl true)
  | .non => .ok (.bl false)
  | .str _ => .ok (.bl false)
  | .lst _ => .ok (.bl false)
  | _ => .stuck
theorem isI_read {K : PySem.W.Frag} {mg : Str → Option Value} {fe : Sto → Res D} {σ : L2.St} {H : Hp} {Q : VK} (h : tD K mg T W (un isID fe) σ H Q) : tCB (rIsi K) (tCons (tD K mg T W fe) (tCons (tC (.ty "int")) tNil)) σ H Q := by
  obtain ⟨F, δ, L, h⟩ := h
  refine bindE ppE L h fun d v F1 H1 s1 L1 r1 h1 => ?_
  cases r1 with
  | lst e hl he => exact ⟨_, _, _, _, false, rfl, .ty "int", .base (.lst (L1.sub _ _ e)), kit_ty (by decide +kernel), PostE.here h1 L1.gd (.bl false)⟩
  | str e => exact ⟨_, _, _, _, false, rfl, .ty "int", .base (.str _), kit_ty (by decide +kernel), PostE.here h1 L1.gd (.bl false)⟩
  | int e => exact ⟨_, _, _, _, true, rfl, .ty "int", .base (.int _), kit_ty (by decide +kernel), PostE.here h1 L1.gd (.bl true)⟩
  | bl e => exact ⟨_, _, _, _, true, rfl, .ty "int", .base (.bl _), kit_ty (by decide +kernel), PostE.here h1 L1.gd (.bl true)⟩
  | non => exact ⟨_, _, _, _, false, rfl, .ty "int", .base .non, kit_ty (by decide +kernel), PostE.here h1 L1.gd (.bl false)⟩
  | _ => exact (show False from h1).elim
theorem isB_read {K : PySem.W.Frag} {mg : Str → Option Value} {fe : Sto → Res D} {σ : L2.St} {H : Hp} {Q : VK} (h : tD K mg T W (un isBD fe) σ H Q) : tCB (rIsi K) (tCons (tD K mg T W fe) (tCons (tC (.ty "bool")) tNil)) σ H Q := by
  obtain ⟨F, δ, L, h⟩ := h
  refine bindE ppE L h fun d v F1 H1 s1 L1 r1 h1 => ?_
  cases r1 with
  | lst e hl he => exact ⟨_, _, _, _, false, rfl, .ty "bool", .base (.lst (L1.sub _ _ e)), kit_ty (by decide +kernel), PostE.here h1 L1.gd (.bl false)⟩
  | str e => exact ⟨_, _, _, _, false, rfl, .ty "bool", .base (.str _), kit_ty (by decide +kernel), PostE.here h1 L1.gd (.bl false)⟩
  | int e => exact ⟨_, _, _, _, false, rfl, .ty "bool", .base (.int _), kit_ty (by decide +kernel), PostE.here h1 L1.gd (.bl false)⟩
  | bl e => exact ⟨_, _, _, _, true, rfl, .ty "bool", .base (.bl _), kit_ty (by decide +kernel), PostE.here h1 L1.gd (.bl true)⟩
  | non => exact ⟨_, _, _, _, false, rfl, .ty "bool", .base .non, kit_ty (by decide +kernel), PostE.here h1 L1.gd (.bl false)⟩
  | _ => exact (show False from h1).elim
theorem isP_read {K : PySem.W.Frag} {mg : Str → Option Value} {fe : Sto → Res D} {σ : L2.St} {H : Hp} {Q : VK} (h : tD K mg T W (un isPD fe) σ H Q) : tCB (rIsi K) (tCons (tD K mg T W fe) (tCons (tC (.ty "tuple")) tNil)) σ H Q := by
  obtain ⟨F, δ, L, h⟩ := h
  refine bindE ppE L h fun d v F1 H1 s1 L1 r1 h1 => ?_
  cases r1 with
  | lst e hl he => exact ⟨_, _, _, _, false, rfl, .ty "tuple", .base (.lst (L1.sub _ _ e)), kit_ty (by decide +kernel), PostE.here h1 L1.gd (.bl false)⟩
  | str e => exact ⟨_, _, _, _, false, rfl, .ty "tuple", .base (.str _), kit_ty (by decide +kernel), PostE.here h1 L1.gd (.bl false)⟩
  | int e => exact ⟨_, _, _, _, false, rfl, .ty "tuple", .base (.int _), kit_ty (by decide +kernel), PostE.here h1 L1.gd (.bl false)⟩
  | tup e hl he => exact ⟨_, _, _, _, true, rfl, .ty "tuple", .base (.tup (L1.sub _ _ e)), kit_ty (by decide +kernel), PostE.here h1 L1.gd (.bl true)⟩
  | non => exact ⟨_, _, _, _, false, rfl, .ty "tuple", .base .non, kit_ty (by decide +kernel), PostE.here h1 L1.gd (.bl false)⟩
  | _ => exact (show False from h1).elim
theorem de_isI {e : Expr} {fe : Sto → Res D} {p p2 pos : Pos} (he : DE T X W e fe) (hm : X.mg "isinstance" = none) (hl : X.mg "int" = none) (hse : starEach (e :: [.Name "int" p2]) X.env = (false, eval e X.env) :: starEach [.Name "int" p2] X.env := by rfl) (hg : Gl X "isinstance" := by rfl) (hgl : Gl X "int" := by rfl) :
    DE T X W (.Call (.Name "isinstance" p) [e, .Name "int" p2] [] pos) (un isID fe) :=
  weakE (pe_callB call_isi hg hm (by decide +kernel) (pa_cons he (pa_cons (pe_bltn (v := .ty "int") hgl hl (by decide +kernel) rfl) pa_nil) hse) (by decide) (by decide) hse) fun σ H Q h => isI_read h
theorem de_isBo {e : Expr} {fe : Sto → Res D} {p p2 pos : Pos} (he : DE T X W e fe) (hm : X.mg "isinstance" = none) (hl : X.mg "bool" = none) (hse : starEach (e :: [.Name "bool" p2]) X.env = (false, eval e X.env) :: starEach [.Name "bool" p2] X.env := by rfl) (hg : Gl X "isinstance" := by rfl) (hgl : Gl X "bool" := by rfl) :
    DE T X W (.Call (.Name "isinstance" p) [e, .Name "bool" p2] [] pos) (un isBD fe) :=
  weakE (pe_callB call_isi hg hm (by decide +kernel) (pa_cons he (pa_cons (pe_bltn (v := .ty "bool") hgl hl (by decide +kernel) rfl) pa_nil) hse) (by decide) (by decide) hse) fun σ H Q h => isB_read h
theorem de_isP {e : Expr} {fe : Sto → Res D} {p p2 pos : Pos} (he : DE T X W e fe) (hm : X.mg "isinstance" = none) (hl : X.mg "tuple" = none) (hse : starEach (e :: [.Name "tuple" p2]) X.env = (false, eval e X.env) :: starEach [.Name "tuple" p2] X.env := by rfl) (hg : Gl X "isinstance" := by rfl) (hgl : Gl X "tuple" := by rfl) :
    DE T X W (.Call (.Name "isinstance" p) [e, .Name "tuple" p2] [] pos) (un isPD fe) :=
  weakE (pe_callB call_isi hg hm (by decide +kernel) (pa_cons he (pa_cons (pe_bltn (v := .ty "tuple") hgl hl (by decide +kernel) rfl) pa_nil) hse) (by decide) (by decide) hse) fun σ H Q h => isP_read h
/-! ### lists of one's own: stores, reads, repeats -/
def mulN : D → D → Res (List D)
  | .lst a, .int n => if n < 2 ^ 40 ∧ -(2 ^ 40) < n ∧ a.length * n.toNat ≤ line then .ok (repL n.toNat a) else .stuck
  | _, _ => .stuck
theorem rep_rp {F : Hp} {vs : List V} {ds : List D} (r : RpL K mg F vs ds) (k : Nat) : RpL K mg F (List.replicate k vs).flatten (repL k ds) := by
  induction k with
  | zero => exact .nil
  | succ k ih =>
    unfold repL
    rw [List.replicate_succ, List.flatten_cons, List.replicate_succ, List.flatten_cons]
    exact r.append ih
theorem dl_rep {a b : Expr} {fa fb : Sto → Res D} {pos : Pos} (ha : DE T X W a fa) (hb : DE T X W b fb) : DL T X W (.BinOp a .Mult b pos) (binN mulN fa fb) :=
  weakE (pe_op op_rep ha hb) fun σ H Q ⟨F, δ, L, h⟩ => bindE ppL L h fun x v F1 H1 s1 L1 r1 h1 => bindE ppL L1 h1 fun y u F2 H2 s2 L2 r2 h2 => by
    have r1 := r1.mono s2.r
    unfold mulN at h2
    split at h2
    · rename_i as n
      obtain ⟨hl, h3⟩ := PostL.ite h2
      obtain ⟨p, vs, rfl, hp, rp⟩ := r1.lst_inv
      cases r2
      refine ⟨p, _, vs, rfl, rfl, L2.sub _ _ hp, by omega, by omega, by rw [rp.length]; exact Nat.le_trans hl.2.2 line_le, fun z hz => ?_⟩
      exact h3 z _ F2 _ (.of hz) (Step.junk L2.gd hz) (L2.sub.none hz) upd_same (rep_rp rp _)
    · exact h2.elim
/-- x[e], x a list of one's own -/
def ixO (i : Nat) (f : Sto → Res D) : Sto → Res D := fun δ => match δ[i]? with
  | some (.own ds) => (f δ).bind fun k => ixD (.lst ds) k
  | _ => .stuck
theorem de_ixO {x : Str} {b : Expr} {fb : Sto → Res D} {p pos : Pos} (i : Nat) (hb : DE T X W b fb) (hN : X.N[i]? = some x := by rfl) (hv : Vis X.env.scope x := by first | exact Or.inl rfl | exact Or.inr (Or.inl rfl) | exact Or.inr (Or.inr rfl)) (hd : (x == ("__debug__" : Str)) = false := by decide) (hcd : (x == ("__classdict__" : Str)) = false := by decide) (hs : PlainIx b := by exact fun _ _ => rfl) :
    DE T X W (.Subscript (.Name x p) b pos) (ixO i fb) :=
  weakE (pe_ix ix_seq (pe_var (i := i) hN hv hd hcd) hb hs) fun σ H Q ⟨F, δ, L, h⟩ => by
    unfold ixO at h
    split at h
    · rename_i ds e
      obtain ⟨ov, q, p, vs, rfl, nF, hH, rv⟩ := L.slot i _ e
      refine ⟨.ref p, q, bindE ppE L h fun k u F1 H1 s1 L1 r1 h1 => ?_⟩
      obtain ⟨ov, q', p', vs', ev, nF', hH', rv'⟩ := L1.slot i _ e
      rw [q] at q'; cases q'; cases ev
      unfold ixD at h1
      split at h1
      · rename_i xs z hx
        cases hx
        split at h1
        · rename_i d ed
          cases r1
          obtain ⟨w, e2, rw'⟩ := atI_rp rv' ed
          exact .inl ⟨p, vs', z, w, rfl, rfl, .of hH', e2, h1.here L1.gd rw'⟩
        · exact h1.elim
      · rename_i hx; cases hx
      · rename_i hx; cases hx
      · rename_i hx; cases hx
      · exact h1.elim
    · exact h.elim
/-- x[k] = e, x a list of one's own -/
def stoS (i : Nat) (fk fe : Sto → Res D) : Sto → Out := fun δ => match δ[i]? with
  | some (.own ds) => (fe δ).out fun d => (fk δ).out fun k => match k with
    | .int z => match ixN ds.length z with
      | some j => .nx (δ.set i (.own (ds.set j d)))
      | none => .stuck
    | _ => .stuck
  | _ => .stuck
theorem ds_sto {x : Str} {b e : Expr} {fb fe : Sto → Res D} {p p2 pos : Pos} (i : Nat) (he : DE T X W e fe) (hb : DE T X W b fb) (hN : X.N[i]? = some x := by rfl) (hv : Vis X.env.scope x := by first | exact Or.inl rfl | exact Or.inr (Or.inl rfl) | exact Or.inr (Or.inr rfl)) (hd : (x == ("__debug__" : Str)) = false := by decide) (hcd : (x == ("__classdict__" : Str)) = false := by decide)
    (hs : swapsWithSole [.Subscript (.Name x p) b p2] e pos.line X.env = pure false := by rfl) (hw : swappedStores [.Subscript (.Name x p) b p2] e X.env = pure none := by rfl)
    (h1 : (assignEach [.Subscript (.Name x p) b p2] X.env).map (·.2) = [assign (.Subscript (.Name x p) b p2) X.env] := by rfl)
    (ha : ∀ v, assign (.Subscript (.Name x p) b p2) X.env v = (do
      let ov ← holding [v] (eval (.Name x p) X.env)
      let iv ← holding [v, ov] (eval b X.env)
      standAt p2
      holding [v, ov, iv] (setItem ov iv v)
      release [v, ov, iv] []) := by intro _; rfl) : DS T X W (.Assign [.Subscript (.Name x p) b p2] e pos) (stoS i fb fe) :=
  weakS (ps_asg he (pg_sub (pe_var (i := i) hN hv hd hcd) hb set_list ha) hs hw h1) fun D' σ H ⟨F0, H0, F, δ, S, h⟩ => by
    unfold stoS at h
    split at h
    · rename_i ds e1
      refine outE S h fun d v F1 H1 r1 S1 rd h1 => ?_
      obtain ⟨ov, q, p, vs, rfl, nF, hH, rv⟩ := S1.loc.slot i _ e1
      refine ⟨.ref p, q, ?_⟩
      refine outE S1 h1 fun k u F2 H2 r2 S2 rk h2 => ?_
      obtain ⟨ov, q', p', vs', ev, nF', hH', rv'⟩ := S2.loc.slot i _ e1
      rw [q] at q'; cases q'; cases ev
      split at h2
      · rename_i z
        split at h2
        · rename_i j ej
          cases rk
          exact ⟨p, vs', z, j, rfl, rfl, hH', by rw [rv'.length]; exact ej, h2 σ F2 _ (.refl F2) (S2.turn e1 q (rv'.set j (rd.mono r2)))⟩
        · exact h2.elim
      · exact h2.elim
    · exact h.elim
/-! ### x, y = e -/
def tgU (i j : Nat) : D → Sto → Option Sto := fun d δ => match d with
  | .tup [a, b] => some ((δ.set i (.val a)).set j (.val b))
  | .lst [a, b] => some ((δ.set i (.val a)).set j (.val b))
  | _ => none
def asgU (g : D → Sto → Option Sto) (fe : Sto → Res D) : Sto → Out := fun δ => (fe δ).out fun d => match g d δ with
  | some δ' => .nx δ'
  | none => .stuck
theorem PG.or {tg : Expr} {g g' : TG} (h : PG X tg g) (h' : PG X tg g') : PG X tg (fun v σ H Q => g v σ H Q ∨ g' v σ H Q) := ⟨fun pins s σ H v u Q I r q => q.elim (h.run pins s σ H v u Q I r) (h'.run pins s σ H v u Q I r)⟩
theorem ds_unp {x y : Str} {e : Expr} {fe : Sto → Res D} {k : Nat} {p1 p2 tpos pos : Pos} (i j : Nat) (hN : X.N.Nodup) (hc : X.calm = true) (he : DE T X W e fe) (hi : X.N[i]? = some x := by rfl) (hx : L2.Loc X.env.scope x := by first | exact Or.inl rfl | exact Or.inr rfl) (hj : X.N[j]? = some y := by rfl) (hy : L2.Loc X.env.scope y := by first | exact Or.inl rfl | exact Or.inr rfl)
    (hf : X.fn x = true ∨ X.env.scope.names.lookup x = some .local := by first | exact .inl rfl | exact .inr rfl | assumption) (hf2 : X.fn y = true ∨ X.env.scope.names.lookup y = some .local := by first | exact .inl rfl | exact .inr rfl | assumption)
    (hs : (assignEach ((.Name x p1) :: [.Name y p2]) X.env).map (·.2) = assign (.Name x p1) X.env :: (assignEach [.Name y p2] X.env).map (·.2) := by rfl) (hs2 : (assignEach ((.Name y p2) :: []) X.env).map (·.2) = assign (.Name y p2) X.env :: (assignEach [] X.env).map (·.2) := by rfl)
    (hn : (assignEach [.Name x p1, .Name y p2] X.env).length = 2 := by rfl) (hst : (assignEach [.Name x p1, .Name y p2] X.env).findIdx? (·.1) = none := by rfl)
    (hs3 : swapsWithSole [.Tuple [.Name x p1, .Name y p2] k tpos] e pos.line X.env = pure false := by rfl) (hw : swappedStores [.Tuple [.Name x p1, .Name y p2] k tpos] e X.env = pure none := by rfl)
    (h1 : (assignEach [.Tuple [.Name x p1, .Name y p2] k tpos] X.env).map (·.2) = [assign (.Tuple [.Name x p1, .Name y p2] k tpos) X.env] := by rfl) :
    DS T X W (.Assign [.Tuple [.Name x p1, .Name y p2] k tpos] e pos) (asgU (tgU i j) fe) :=
  weakS (ps_asg he (PG.or (pg_tup hc (pgs_cons (pg_name (i := i) hN hi hx hf) (pgs_cons (pg_name (i := j) hN hj hy hf2) pgs_nil hs2) hs) hn hst) (pg_lst hc (pgs_cons (pg_name (i := i) hN hi hx hf) (pgs_cons (pg_name (i := j) hN hj hy hf2) pgs_nil hs2) hs) hn hst)) hs3 hw h1) fun D' σ H ⟨F0, H0, F, δ, S, h⟩ => by
    refine outE S h fun d v F1 H1 r1 S1 rd h1 => ?_
    unfold tgU at h1
    split at h1
    · rename_i δ' z
      split at z
      · cases z
        obtain ⟨p, vs, rfl, e1, q⟩ := rd.tup_inv
        obtain ⟨v1, v2, rfl, r1, r2⟩ := q.two
        exact .inl ⟨p, [v1, v2], rfl, .of (S1.loc.sub _ _ e1), rfl, v1, [v2], rfl, v2, [], rfl, rfl, h1 _ F1 H1 (.refl F1) ((S1.setVal r1).setVal r2)⟩
      · cases z
        obtain ⟨p, vs, rfl, e1, q⟩ := rd.lst_inv
        obtain ⟨v1, v2, rfl, r1, r2⟩ := q.two
        exact .inr ⟨p, [v1, v2], rfl, .of (S1.loc.sub _ _ e1), rfl, v1, [v2], rfl, v2, [], rfl, rfl, h1 _ F1 H1 (.refl F1) ((S1.setVal r1).setVal r2)⟩
      · cases z
    · exact h1.elim
/-- x, y = a, b -/
def asg2 (i j : Nat) (fa : Sto → Res (List D)) : Sto → Out := fun δ => match fa δ with
  | .ok [a, b] => .nx ((δ.set i (.val a)).set j (.val b))
  | .rs c => .rs c
  | _ => .stuck
theorem outA {F0 : Hp} {H0 : Hp × Addr} {F H : Hp} {σ : L2.St} {δ : Sto} {D' : Ends} {f : Sto → Res (List D)} {k : List D → Out} {Q : List V → Hp → Prop} (S : StR K mg T F0 H0 F H σ δ) (h : PostS K mg T F0 H0 F W D' ((f δ).out k))
    (hk : ∀ d v F' H', Rel F F' → StR K mg T F0 H0 F' H' σ δ → RpL K mg F' v d → PostS K mg T F0 H0 F' W D' (k d) → Q v H') : tDA K mg T W f σ H Q := by
  refine ⟨F, δ, S.loc, ?_⟩
  cases e : f δ with
  | ok d => rw [e] at h; exact fun v F' H' st r => hk d v F' H' st.r (S.step st) r (h.shift st.r)
  | rs c => rw [e] at h; exact fun F' H' st => h F' H' (S.st.trans st)
  | stuck => rw [e] at h; exact h
theorem ds_par {x y : Str} {a b : Expr} {fa : Sto → Res (List D)} {kt k2 : Nat} {px py pt pt2 pos : Pos} (i j : Nat) (hN : X.N.Nodup) (hc : X.calm = true) (ha : DA T X W [a, b] fa) (hi : X.N[i]? = some x := by rfl) (hj : X.N[j]? = some y := by rfl) (hij : i ≠ j := by decide)
    (hx : X.env.scope.names.lookup x = some .local := by rfl) (hy : X.env.scope.names.lookup y = some .local := by rfl)
    (hw : swappedStores [.Tuple [.Name x px, .Name y py] kt pt] (.Tuple [a, b] k2 pt2) X.env = pure (some [x, y]) := by rfl)
    (hs : swapsWithSole [.Tuple [.Name x px, .Name y py] kt pt] (.Tuple [a, b] k2 pt2) pos.line X.env = pure false := by rfl) :
    DS T X W (.Assign [.Tuple [.Name x px, .Name y py] kt pt] (.Tuple [a, b] k2 pt2) pos) (asg2 i j fa) :=
  weakS (ps_par hc hN hi hj hij hx hy ha hw hs) fun D' σ H ⟨F0, H0, F, δ, S, h⟩ => by
    have h' : PostS X.K X.mg T F0 H0 F W D' ((fa δ).out fun ds => match ds with | [a, b] => .nx ((δ.set i (.val a)).set j (.val b)) | _ => .stuck) := by
      unfold asg2 at h
      cases e : fa δ with
      | ok ds =>
        rw [e] at h
        match ds, h with
        | [], h => exact h
        | [_], h => exact h
        | [_, _], h => exact h
        | _ :: _ :: _ :: _, h => exact h
      | rs c => rw [e] at h; exact h
      | stuck => rw [e] at h; exact h
    refine outA S h' fun ds vs F1 H1 r1 S1 rd h1 => ?_
    match ds, rd, h1 with
    | [d1, d2], rd, h1 =>
      obtain ⟨v1, v2, rfl, r1, r2⟩ := rd.two
      exact ⟨v1, v2, rfl, h1 _ F1 H1 (.refl F1) ((S1.setVal r1).setVal r2)⟩
    | [], _, h1 => exact (show False from h1).elim
    | [_], _, h1 => exact (show False from h1).elim
    | _ :: _ :: _ :: _, _, h1 => exact (show False from h1).elim
end
/-! ### working out -/
section
variable {δ : Sto}
theorem mulN_lst {a : List D} {n : Int} (h : n < 2 ^ 40 ∧ -(2 ^ 40) < n ∧ a.length * n.toNat ≤ line) : mulN (.lst a) (.int n) = .ok (repL n.toNat a) := if_pos h
theorem shlD_int {i j : Int} (h : 0 ≤ j ∧ j ≤ 10000 ∧ i.natAbs < 2 ^ 10000) : shlD (.int i) (.int j) = .ok (.int (i * 2 ^ j.toNat)) := if_pos h
@[simp] theorem isID_int {i : Int} : isID (.int i) = .ok (.bl true) := nrfl rfl
@[simp] theorem isID_bl {i : Bool} : isID (.bl i) = .ok (.bl true) := nrfl rfl
@[simp] theorem isID_non : isID .non = .ok (.bl false) := nrfl rfl
@[simp] theorem isBD_int {i : Int} : isBD (.int i) = .ok (.bl false) := nrfl rfl
@[simp] theorem isBD_bl {i : Bool} : isBD (.bl i) = .ok (.bl true) := nrfl rfl
@[simp] theorem isBD_non : isBD .non = .ok (.bl false) := nrfl rfl
@[simp] theorem isPD_tup {i : List D} : isPD (.tup i) = .ok (.bl true) := nrfl rfl
@[simp] theorem isLD_lst {i : List D} : isLD (.lst i) = .ok (.bl true) := nrfl rfl
@[simp] theorem isLD_str {i : List Nat} : isLD (.str i) = .ok (.bl false) := nrfl rfl
@[simp] theorem enumD_lst {xs : List D} : enumD [.lst xs] = .ok (xs.mapIdx fun i d => .tup [.int (i : Int), d]) := nrfl rfl
@[simp] theorem zipD_lst {xs ys : List D} : zipD [.lst xs, .lst ys] = .ok (List.zipWith (fun a b => .tup [a, b]) xs ys) := nrfl rfl
@[simp] theorem asgU_eq {g : D → Sto → Option Sto} {fe : Sto → Res D} : asgU g fe δ = (fe δ).out fun d => (match g d δ with | some δ' => .nx δ' | none => .stuck) := nrfl rfl
@[simp] theorem tgU_tup {i j : Nat} {a b : D} : tgU i j (.tup [a, b]) δ = some ((δ.set i (.val a)).set j (.val b)) := nrfl rfl
@[simp] theorem tgU_lst {i j : Nat} {a b : D} : tgU i j (.lst [a, b]) δ = some ((δ.set i (.val a)).set j (.val b)) := nrfl rfl
@[simp] theorem tgP_tup {i j : Nat} {a b : D} : tgP i j (.tup [a, b]) δ = some ((δ.set i (.val a)).set j (.val b)) := nrfl rfl
@[simp] theorem asg2_eq {i j : Nat} {fa : Sto → Res (List D)} : asg2 i j fa δ = (match fa δ with | .ok [a, b] => .nx ((δ.set i (.val a)).set j (.val b)) | .rs c => .rs c | _ => .stuck) := nrfl rfl
@[simp] theorem ixO_eq {i : Nat} {f : Sto → Res D} : ixO i f δ = (match δ[i]? with | some (.own ds) => (f δ).bind fun k => ixD (.lst ds) k | _ => .stuck) := nrfl rfl
@[simp] theorem stoS_eq {i : Nat} {fk fe : Sto → Res D} : stoS i fk fe δ = (match δ[i]? with
  | some (.own ds) => (fe δ).out fun d => (fk δ).out fun k => (match k with
    | .int z => (match ixN ds.length z with
      | some j => .nx (δ.set i (.own (ds.set j d)))
      | none => .stuck)
    | _ => .stuck)
  | _ => .stuck) := nrfl rfl
@[simp] theorem frzS_eq {i : Nat} {f : Sto → Out} : frzS i f δ = (match δ[i]? with | some (.own ds) => f (δ.set i (.val (.lst ds))) | _ => .stuck) := nrfl rfl
@[simp] theorem appS_eq {i : Nat} {f : Sto → Res D} : appS i f δ = (match δ[i]? with | some (.own ds) => (f δ).out fun d => if ds.length < line then .nx (δ.set i (.own (ds ++ [d]))) else .stuck | _ => .stuck) := nrfl rfl
@[simp] theorem lenO_eq {i : Nat} : lenO i δ = (match δ[i]? with | some (.own ds) => .ok (.int ds.length) | _ => .stuck) := nrfl rfl
end
end Dn


set_option Elab.async false
set_option linter.all false
set_option maxRecDepth 100000
set_option maxHeartbeats 4000000
namespace TxS
open PySem PySem.Spec PyProof.Rows L2 PySem.Froz
/-! ### a set of texts that can be walked -/
structure TxR (P : Program) (w : World) (D : SD) (l : List Str) : Prop where
  ok : TxOk P w D l
  nd : l.Nodup
  ris : Ris D.2.2.place.toList
  led : w.params.followText "set-order" = true ∨ D.2.2.led = true
section
variable {P : Program} {w : World} {A : Around} {E : Value → Shared → Prop} {s : Shared}
theorem plain_off (t : SetTable) : (if t.plain = true then { t with plain := false } else t).place = t.place ∧ (if t.plain = true then { t with plain := false } else t).led = t.led := by
  split <;> exact ⟨rfl, rfl⟩
theorem tail_ris {ep : Nat} {es : Array (Int × Value)} {t : SetTable} {b : Bool} (h : Ris t.place.toList) : Ris (tailTx ep es t b).2.2.place.toList ∧ (tailTx ep es t b).2.2.led = t.led := by
  unfold tailTx
  split
  · exact ⟨relayAll_ris t es _, relayAll_led t es _⟩
  · exact ⟨h, rfl⟩
theorem TxR.add {D : SD} {l : List Str} {k : Str} (u : Tok) (R : TxR P w D l) (hk : k ∉ l) : TxR P w (addTx (hashStr w k) (.str k u) D) (k :: l) := by
  obtain ⟨o1, o2⟩ := plain_off (layNew D.2.2 D.1 (hashStr w k) (.str k u)).2.1
  have r1 := layNew_ris D.2.2 D.1 (hashStr w k) (.str k u) R.ris
  have l1 := layNew_led D.2.2 D.1 (hashStr w k) (.str k u)
  obtain ⟨t1, t2⟩ := tail_ris (ep := D.2.1) (es := (layNew D.2.2 D.1 (hashStr w k) (.str k u)).1) (b := (layNew D.2.2 D.1 (hashStr w k) (.str k u)).2.2.1) (t := if (layNew D.2.2 D.1 (hashStr w k) (.str k u)).2.1.plain = true then { (layNew D.2.2 D.1 (hashStr w k) (.str k u)).2.1 with plain := false } else (layNew D.2.2 D.1 (hashStr w k) (.str k u)).2.1) (by rw [o1]; exact r1)
  refine ⟨add_ok u R.ok, List.nodup_cons.mpr ⟨hk, R.nd⟩, t1, R.led.imp id fun z => ?_⟩
  have e : (addTx (hashStr w k) (.str k u) D).2.2.led = D.2.2.led := by
    refine Eq.trans t2 ?_
    rw [o2, l1]
  rw [e]; exact z
/-- the add of a text that is there -/
theorem add_old {a : Addr} {T : String} {D : SD} {l : List Str} {k : Str} {u : Tok} {Q : Bool → Shared → Prop} (ho : s.heap.get? a = some (sObj T D)) (F : TxOk P w D l) (hk : k ∈ l) (hb : l.length < scanBound) (h : Q false s) :
    wpAny (model P w) A (setAddHashed a (.str k u) (hashStr w k)) Q E s := by
  obtain ⟨es, ep, t⟩ := D
  have el : ElemsOf (strKind P w) es.toList := F.el
  obtain ⟨e, he, ie⟩ := (F.mem k).mp hk
  unfold setAddHashed setAddHashedIn
  refine wpAny_holding (wpAny_bind (wpAny_setState_of (es := es) (t := t) ho rfl F.fit ?_))
  dsimp only
  rw [byScan_of rfl (by have := F.sz; simp only at this; omega) el]
  simp only [↓reduceIte]
  unfold setAddByScan
  refine wpAny_bind (wpAny_bind (wpAny_rule (wpAny_bind (wpAny_setScan_of (knd := strKind P w) (k := k) (is_str k u) ho rfl F.fit el ?_))))
  cases z : List.findIdx? (fun e => (strKind P w).is k e.2) es.toList with
  | some j => dsimp only; exact wpAny_pure (wpAny_pure h)
  | none =>
    have c := List.findIdx?_eq_none_iff.mp z e he
    rw [ie] at c
    cases c
/-- what is held of the set's signs behind the first i of a text -/
def Got (x : Str) (i : Nat) (l : List Str) : Prop := ∀ k : Str, k ∈ l ↔ ∃ c ∈ x.cps.toList.take i, k = ⟨#[c]⟩
theorem upd_loop {I : Addr} {fp wr : List Addr} {G : Array GenState → Array GenState → Prop} {St : Nat → Shared → Prop} {R : Result → Shared → Prop} {x : Str}
    (W : WalksS P w A.in1 I fp wr G x.cps.size (SignAt x) St) (S : Addr) (hSf : S ∉ fp) (hb : x.cps.size + 1 < scanBound) :
    ∀ (k i : Nat) (s : Shared), x.cps.size - i = k → i ≤ x.cps.size → St i s → (∃ D l, s.heap.get? S = some (sObj "set" D) ∧ TxR P w D l ∧ Got x i l ∧ l.length ≤ i) →
      (∀ s' D l, Moved (S :: wr) G s s' → s'.heap.get? S = some (sObj "set" D) → TxR P w D l → Got x x.cps.size l → l.length ≤ x.cps.size → R (.ok (.ret .none)) s') →
      codeAny (model P w) A (.builtin "set.update.loop" ⟨[.ref S, .ref I], []⟩) R s := by
  have hSw : S ∉ wr := fun h => hSf (W.sub _ h)
  have more : ∀ b ∈ wr, b ∈ S :: wr := fun b h => List.mem_cons_of_mem _ h
  intro k
  induction k with
  | zero =>
    intro i s hk hi hst ⟨D, l, ho, TR, gt, ll⟩ hR
    obtain rfl : i = x.cps.size := by omega
    refine codeAny_builtin F.entry_set_update_loop ?_
    rw [Around.under_plainId F.plain_set_update_loop _]
    refine wpAny_bind (m := pyNext (.ref I)) (W.done s _ _ hst fun s' hm => ?_)
    exact wpAny_pure (hR s' D l (hm.mono more) (hm.heap S _ hSw ho) TR gt ll)
  | succ k ih =>
    intro i s hk hi hst ⟨D, l, ho, TR, gt, ll⟩ hR
    have hlt : i < x.cps.size := by omega
    refine codeAny_builtin F.entry_set_update_loop ?_
    rw [Around.under_plainId F.plain_set_update_loop _]
    refine wpAny_bind (m := pyNext (.ref I)) (W.item i s _ _ hlt hst fun v s1 hP hst1 hm => ?_)
    obtain ⟨c, u, hc, rfl⟩ := hP
    have ho1 := hm.heap S _ hSw ho
    have hc' : x.cps.toList[i]? = some c := by rw [Array.getElem?_toList]; exact hc
    show wpAny _ A.in1 (holding [Value.str ⟨#[c]⟩ u] (setAdd S (.str ⟨#[c]⟩ u)) >>= _) _ _ s1
    refine wpAny_bind (wpAny_holding ?_)
    unfold setAdd
    refine wpAny_holding (wpAny_bind ((strKind P w).pyHash (k := ⟨#[c]⟩) (is_str _ _) ?_))
    by_cases hin : (⟨#[c]⟩ : Str) ∈ l
    · refine add_old (s := { s1 with toks := s1.toks + 1 }) ho1 TR.ok hin (by omega) ?_
      refine wpAny_pure ⟨plainId_quiet F.plain_set_update_loop _, ih (i + 1) _ (by omega) hlt (W.frame _ s1 _ _ hst1 (Nat.le_succ _) fun b hb o e => e) ⟨D, l, ho1, TR, fun k => ?_, by omega⟩ fun s2 D2 l2 hm2 => hR s2 D2 l2 (Moved.trans W.gtrans ((hm.mono more).then_heap (Nat.le_succ _) fun b o hb e => e) hm2)⟩
      rw [gt k, List.take_add_one, hc']
      constructor
      · rintro ⟨d, hd, e⟩
        exact ⟨d, List.mem_append_left _ hd, e⟩
      · rintro ⟨d, hd, e⟩
        rcases List.mem_append.mp hd with hd | hd
        · exact ⟨d, hd, e⟩
        · have : d = c := by simpa using hd
          rw [this] at e
          rw [e]
          exact (gt _).mp hin
    · refine add_x (s := { s1 with toks := s1.toks + 1 }) ho1 TR.ok hin (by omega) ?_
      have ho2 := get_upd (sObj "set" (addTx (hashStr w ⟨#[c]⟩) (.str ⟨#[c]⟩ u) D)) ho1 rfl
      have oth : ∀ b o, b ≠ S → s1.heap.get? b = some o → (s1.heap.update S (fun _ => sObj "set" (addTx (hashStr w ⟨#[c]⟩) (.str ⟨#[c]⟩ u) D))).get? b = some o := fun b o hb e => PySem.Heap.get?_update_of_ne _ (Ne.symm hb) e
      refine wpAny_pure ⟨plainId_quiet F.plain_set_update_loop _, ih (i + 1) _ (by omega) hlt (W.frame _ s1 _ _ hst1 (Nat.le_succ _) fun b hb o e => oth b o (fun z => hSf (z ▸ hb)) e) ⟨_, _, ho2, TR.add u hin, fun k => ?_, by simp; omega⟩ fun s2 D2 l2 hm2 => hR s2 D2 l2 (Moved.trans W.gtrans ((hm.mono more).then_heap (Nat.le_succ _) fun b o hb e => oth b o (fun z => hb (z ▸ List.mem_cons_self)) e) hm2)⟩
      rw [List.mem_cons, gt k, List.take_add_one, hc']
      constructor
      · rintro (rfl | ⟨d, hd, e⟩)
        · exact ⟨c, List.mem_append_right _ (by simp), rfl⟩
        · exact ⟨d, List.mem_append_left _ hd, e⟩
      · rintro ⟨d, hd, e⟩
        rcases List.mem_append.mp hd with hd | hd
        · exact .inr ⟨d, hd, e⟩
        · have : d = c := by simpa using hd
          exact .inl (by rw [e, this])
end
end TxS


set_option Elab.async false
set_option linter.all false
set_option maxRecDepth 100000
set_option maxHeartbeats 8000000
namespace TxS
open PySem PySem.Spec PyProof.Rows L2 PySem.Froz
section
variable {P : Program} {w : World} {A : Around} {E : Value → Shared → Prop} {s : Shared}
abbrev set0 (w : World) : Obj := { cls := .type "set", dict := none, data := .set #[] 0 (.fresh 0 0 (!w.params.followText "set-order")) }
theorem set0_ok : TxR P w (#[], 0, .fresh 0 0 (!w.params.followText "set-order")) [] := ⟨TxOk.nil (by rfl), .nil, .nil, by
  show _ ∨ (!w.params.followText "set-order") = true
  cases w.params.followText "set-order"
  · exact .inr rfl
  · exact .inl rfl⟩
theorem sub_str_set : isSubtype (.type "str") (.type "set") = pure false := by rw [isSubtype_type]; kernel_rfl
theorem sub_str_frozenset : isSubtype (.type "str") (.type "frozenset") = pure false := by rw [isSubtype_type]; kernel_rfl
theorem call_set_str {x : Str} {t : Tok} {Q : Value → Shared → Prop} (hh : A.handled = none) (hb : x.cps.size + 1 < scanBound)
    (h : ∀ (h' : Heap) (tk : Nat) (D : SD) (l : List Str), h'.get? s.heap.objs.size = some (sObj "set" D) → TxR P w D l → Got x x.cps.size l → l.length ≤ x.cps.size → (∀ b o, s.heap.get? b = some o → h'.get? b = some o) → Q (.ref s.heap.objs.size) { s with heap := h', toks := tk }) :
    wpAny (model P w) A (call (.type "set") [.str x t]) Q E s := by
  obtain ⟨c, tl, hmro⟩ := F.called_set.mro
  have hmade := F.called_set.made
  have hsub := F.called_set.sub
  refine wpAny_call (codeAny_of_tree ?_)
  show wpAny _ _ (callAny (.type "set") _) _ _ _
  refine wpAny_pure ⟨Code.quiet_builtin _ (by decide +kernel), codeAny_builtin F.entry_type_call ?_⟩
  rw [Around.under_plain (weight_type_call_type "set" [.str x t] []) rfl]
  have h1 := F.called_set.notType
  have h2 := F.called_set.canCreate
  have hct := F.typeCall_set_1 (.str x t)
  repeat (any_goals (first | assumption | wp_step))
  refine codeAny_mono (code_set_led1 (.str x t) (E := E) (Q₁ := fun obj s₁ => obj = .ref s.heap.objs.size ∧ s₁ = { s with heap := s.heap.push (set0 w) }) ⟨rfl, rfl⟩) fun r s₁ hr => ?_
  cases r with
  | error e => exact hr
  | ok fl =>
    cases fl with
    | ret obj =>
      obtain ⟨rfl, rfl⟩ := hr
      have hS : (s.heap.push (set0 w)).get? s.heap.objs.size = some (set0 w) := Heap.get?_push_size _ rfl
      have hT : Shared.TypeIs { s with heap := s.heap.push (set0 w) } (.ref s.heap.objs.size) "set" := ⟨_, hS, rfl⟩
      have hli := F.called_set.init.lookup
      have hbi := F.called_set.init.bind (.ref s.heap.objs.size)
      repeat (any_goals (first | assumption | wp_step))
      refine codeAny_mono (codeAny_call_builtin (R := wants (fun r s₂ => r = .none ∧ ∃ h' tk D l, s₂ = { s with heap := h', toks := tk } ∧ h'.get? s.heap.objs.size = some (sObj "set" D) ∧ TxR P w D l ∧ Got x x.cps.size l ∧ l.length ≤ x.cps.size ∧
          (∀ b o, s.heap.get? b = some o → h'.get? b = some o)) E) F.called_set.init.plain F.entry_set_init (PySem.check_set_init_1 hT ?_)) fun r₂ s₂ hr₂ => ?_
      · have hsls := sub_str_set
        have hslf := sub_str_frozenset
        have hne : (Value.type "str" == Value.type "dict") = false := by decide
        unfold Builtin.«set.__init__» noKeywords Builtin.Frozenset.updateFrom
        generalize hPI : pyIter = PI
        wp_walk
        subst hPI
        refine wpAny_pyIter_str fun o St W hst => ?_
        refine wpAny_bind (wpAny_runValue ?_)
        have hz : (s.heap.push (set0 w)).objs.size = s.heap.objs.size + 1 := Heap.size_push ..
        have hSf : s.heap.objs.size ∉ [(s.heap.push (set0 w)).objs.size] := by
          rw [hz]
          intro z
          have := List.mem_singleton.mp z
          omega
        refine upd_loop ((W _ (by simp [hh])).toS) s.heap.objs.size hSf hb x.cps.size 0 _ (by omega) (Nat.zero_le _) hst ⟨(#[], 0, .fresh 0 0 (!w.params.followText "set-order")), [], Heap.get?_push_of_some _ hS, set0_ok, fun k => by simp, Nat.le_refl _⟩ fun s' D l hm ho TR gt ll => ?_
        obtain ⟨h', g2, d', tk', os'⟩ := s'
        have eg : g2 = s.gens := hm.gens
        have ed : d' = s.drawn := hm.drawn
        have eo : os' = s.os := hm.os
        subst eg; subst ed; subst eo
        refine wpAny_pure (wpAny_pure ⟨rfl, h', tk', D, l, rfl, ho, TR, gt, ll, fun b o e => ?_⟩)
        have hb0 : b < s.heap.objs.size := Heap.lt_size e
        refine hm.heap b o (fun z => ?_) (Heap.get?_push_of_some _ (Heap.get?_push_of_some _ e))
        rcases List.mem_cons.mp z with z | z
        · exact Nat.lt_irrefl _ (z ▸ hb0)
        · have q := List.mem_singleton.mp z
          rw [hz] at q
          rw [q] at hb0
          exact absurd hb0 (Nat.not_lt.mpr (Nat.le_succ _))
      · cases r₂ with
        | error e => exact hr₂
        | ok fl₂ =>
          cases fl₂ with
          | ret r =>
            obtain ⟨rfl, h', tk, D, l, rfl, ho, TR, gt, ll, hk'⟩ := hr₂
            repeat (any_goals (first | assumption | wp_step))
            exact h _ _ _ _ ho TR gt ll hk'
          | _ => exact hr₂.elim
    | _ => exact hr.elim
end
end TxS


set_option Elab.async false
set_option linter.all false
set_option maxRecDepth 100000
set_option maxHeartbeats 4000000
namespace TxS
open PySem PySem.Spec PyProof.Rows L2 PySem.Froz
/-- a set of texts in the abstract heap -/
def SetX (P : Program) (w : World) (a : Addr) (l : List Str) : HO := .ext fun h => ∃ D, h.get? a = some (sObj "set" D) ∧ TxR P w D l
theorem nodup_perm {α : Type} [DecidableEq α] : ∀ {l m : List α}, l.Nodup → (∀ x ∈ l, x ∈ m) → m.length ≤ l.length → m.Perm l
  | [], m, _, _, h => by
    have : m = [] := List.eq_nil_of_length_eq_zero (Nat.le_zero.mp h)
    rw [this]
  | x :: l, m, nd, sub, h => by
    obtain ⟨h1, h2⟩ := List.nodup_cons.mp nd
    have hx := sub x List.mem_cons_self
    have p := List.perm_cons_erase hx
    refine p.trans ((nodup_perm h2 (fun y hy => ?_) ?_).cons x)
    · exact (List.mem_erase_of_ne (fun z : y = x => h1 (z ▸ hy))).mpr (sub y (List.mem_cons_of_mem _ hy))
    · have := p.length_eq
      rw [List.length_cons] at this
      rw [List.length_cons] at h
      omega
section
variable {X : Cx}
theorem setX_ok {P : Program} {w : World} {H : Hp} {h : Heap} {a : Addr} {l : List Str} {D : SD} (ho : h.get? a = some (sObj "set" D)) (R : TxR P w D l) : ObjOk P w H h a (SetX P w a l) :=
  ⟨⟨D, ho, R⟩, ⟨_, ho⟩, fun h1 h2 ⟨D, ho, R⟩ k => ⟨D, k _ ho, R⟩⟩
def rSetX (P : Program) (w : World) : List V → Hp → VK → Prop := fun xs H Q => ∃ x : Str, xs = [.str x] ∧ x.length + 1 < scanBound ∧ ∀ p l, H p = none → l.Nodup → (∀ k : Str, k ∈ l ↔ ∃ c ∈ TL.tl x, k = ⟨#[c]⟩) → Q (.ref p) (upd H p (SetX P w p l))
theorem cr_setX (hc : X.calm = true) : CallR X (.type "set") (rSetX X.prog X.w) := by
  intro pins s σ H xs us Q I r h
  obtain ⟨x, rfl, hb, q⟩ := h
  obtain ⟨u, rfl, ru⟩ := vals1 r
  obtain ⟨t, rfl⟩ := ru
  refine call_set_str (I.ok.hd hc) hb fun h' tk D l ho TR gt ll kp => ⟨.ref _, upd H s.heap.objs.size (SetX X.prog X.w s.heap.objs.size l), I.laid (t' := tk) kp (Nat.le_refl _) (setX_ok ho TR), rfl, q _ l (I.hok.fresh (Nat.le_refl _)) TR.nd fun k => ?_⟩
  rw [gt k, List.take_of_length_le (Nat.le_of_eq (Array.length_toList ..))]
def rSortX (P : Program) (w : World) : List V → Hp → VK → Prop := fun vs H Q => ∃ (a : Addr) (l : List Str), vs = [V.ref a] ∧ H a = some (SetX P w a l) ∧ l.length < 64 ∧ ∀ (ys : List Str) (p : Addr), ys.Perm l → sortedS ys = true → H p = none → Q (.ref p) (upd H p (.lst (ys.map V.str)))
theorem isStr_of {k : Str} {v : Value} (h : Value.isStrOf k v = true) : ∃ t, v = .str k t := by
  cases v <;> simp [Value.isStrOf] at h
  rename_i y t
  exact ⟨t, by rw [h]⟩
theorem cr_sortX (hc : X.calm = true) : CallR X (.builtin "sorted") (rSortX X.prog X.w) := by
  intro pins s σ H vs us Q I r h
  obtain ⟨a, l, rfl, ha, h64, q⟩ := h
  rw [Vals.ref1 r]
  obtain ⟨⟨⟨es, ep, t⟩, ho, TR⟩, _, _⟩ := I.hok a _ ha
  have hsz : es.size = l.length := TR.ok.sz
  have hel : ∀ e ∈ es.toList, ∃ k tk, e.2 = Value.str k tk := fun e he => by
    obtain ⟨⟨k, h1, _⟩, _⟩ := TR.ok.el e he
    exact ⟨k, isStr_of h1⟩
  have hh := I.ok.hd hc
  refine Calls.call_function_entry kind_sorted plain_sorted entry_sorted (args_sorted1 _) ?_
  unfold Builtin.«sorted»
  refine wpAny_bind (m := checkCount "sorted" 1 1 _) (wpAny_pure ?_)
  refine wpAny_bind (collect_set (A := X.A.in1) (es := es) (ep := ep) (t := t) hh ⟨_, ho, rfl, rfl⟩ TR.ok.fit (by rw [hsz]; exact Nat.lt_trans h64 (by decide)) TR.ris TR.led fun s1 vs k1 hz g1 o1 pm => ?_)
  have hvl : vs.length = l.length := by rw [pm.length_eq, List.length_map, Array.length_toList, hsz]
  have hS : StrsAre vs (vs.map strOf) := strsAre_map vs fun v hv => by
    obtain ⟨e, he, rfl⟩ := List.mem_map.mp (pm.mem_iff.mp hv)
    exact hel e he
  have pl : (vs.map strOf).Perm l := by
    refine nodup_perm TR.nd (fun k hk => ?_) (by rw [List.length_map, hvl]; exact Nat.le_refl _)
    obtain ⟨e, he, ie⟩ := (TR.ok.mem k).mp hk
    obtain ⟨tk, ek⟩ := isStr_of ie
    exact List.mem_map.mpr ⟨e.2, pm.mem_iff.mpr (List.mem_map.mpr ⟨e, he, rfl⟩), by rw [ek]; rfl⟩
  refine wpAny_bind (wpAny_newList ?_ (by rw [hvl, sizeLine_eq]; omega))
  have hoL : (s1.heap.push (seqObj "list" vs.toArray 0)).get? s1.heap.objs.size = some (seqObj "list" vs.toArray 0) := Heap.get?_push_size _ rfl
  refine wpAny_bind (wpAny_holding (wpAny_call_entry slot_list_sort ⟨_, hoL, rfl⟩ entry_list_sort (list_sort_treeK strKind_oneLt hoL hS.keysOf (fun v₁ v₂ rest e => keyKind_strs (by rw [← e]; exact hS)) (by rw [hvl]; exact h64) fun st' hp hs => ⟨_, rfl, ?_⟩) (args_list_sort _)))
  obtain ⟨ys, a1, a2, a3⟩ := sorted_out_str hS hp hs
  obtain ⟨c, hcp⟩ := sortedHeap_at (vs := vs) (out := (arrOf st').map (·.2)) hoL
  have kp : ∀ b o, s.heap.get? b = some o → (sortedHeap (s1.heap.push (seqObj "list" vs.toArray 0)) s1.heap.objs.size vs ((arrOf st').map (·.2))).get? b = some o := fun b u e => by
    have q := k1 b u e
    have hlt := Heap.lt_size q
    rw [sortedHeap_old (Nat.ne_of_lt hlt) (by rw [size_push']; exact Nat.lt_succ_of_lt hlt)]
    exact Heap.get?_push_of_some _ q
  have hyl : ys.length = l.length := (a2.trans pl).length_eq
  have hn : H s1.heap.objs.size = none := I.hok.fresh hz
  have hl : (ys.map V.str).length ≤ sizeLine := by rw [List.length_map, hyl, sizeLine_eq]; omega
  have J : Inv X pins σ (upd H s1.heap.objs.size (.lst (ys.map V.str))) { s with heap := sortedHeap (s1.heap.push (seqObj "list" vs.toArray 0)) s1.heap.objs.size vs ((arrOf st').map (·.2)), gens := s1.gens, drawn := s1.drawn, toks := s1.toks } :=
    I.call (ch := []) (Un.laid kp hz hn) (I.hok.laid kp hz ⟨hl, ((arrOf st').map (·.2)).toList, c, vals_of_strs a1, hcp⟩) (by rw [g1]; exact I.bare) (fun _ z => nomatch z)
  have e : ({ s1 with heap := sortedHeap (s1.heap.push (seqObj "list" vs.toArray 0)) s1.heap.objs.size vs ((arrOf st').map (·.2)) } : Shared) = { s with heap := sortedHeap (s1.heap.push (seqObj "list" vs.toArray 0)) s1.heap.objs.size vs ((arrOf st').map (·.2)), gens := s1.gens, drawn := s1.drawn, toks := s1.toks } := by
    rw [← o1]
  refine wpAny_pure ⟨_, rfl, ?_⟩
  show EP X pins σ Q (.ref s1.heap.objs.size) { s1 with heap := sortedHeap (s1.heap.push (seqObj "list" vs.toArray 0)) s1.heap.objs.size vs ((arrOf st').map (·.2)) }
  rw [e]
  exact ⟨.ref _, _, J, rfl, q ys _ (a2.trans pl) a3 hn⟩
end
end TxS


set_option Elab.async false
set_option linter.all false
set_option maxRecDepth 100000
set_option maxHeartbeats 4000000
namespace ZpS
open PySem PySem.Spec PyProof.Rows L2
/-! ### zip of a list and a text, enumerate of a text -/
theorem draws {prog : Program} {w : World} {A : Around} (hh : A.handled = none) (it : Addr) (x : Str) (t : Tok) :
    Draws prog w A it [it] x.cps.size (fun i v => ∃ c u, x.cps[i]? = some c ∧ v = .str ⟨#[c]⟩ u) (fun i h => h.IsStrIter it (strIterType x) x t i) := by
  unfold strIterType
  split
  · exact Draws.strAscii hh it x t
  · exact Draws.strWide hh it x t
def ItzS (K : PySem.W.Frag) (a : Addr) (xs : List V) (x : Str) : It :=
  ⟨fun i H => SqL K H a xs ∧ i < xs.length ∧ i < x.cps.size,
    fun i H v H' => ∃ T u c, v = .ref T ∧ H T = none ∧ H' = upd H T (.tup [u, .str ⟨#[c]⟩]) ∧ xs[i]? = some u ∧ x.cps[i]? = some c,
    fun i H => SqL K H a xs ∧ (xs.length ≤ i ∨ x.cps.size ≤ i)⟩
structure Sep (z TI TO i1 i2 a : Addr) : Prop where
  e1 : TI ≠ z
  e2 : TO ≠ z
  e3 : TI ≠ TO
  e4 : TI ≠ i1
  e5 : TI ≠ i2
  e6 : z ≠ i1
  e7 : z ≠ a
  e8 : TO ≠ i1
  e9 : TO ≠ a
  e10 : z ≠ i2
  e11 : TO ≠ i2
  e12 : i1 ≠ i2
  e13 : i2 ≠ a
  e14 : a ≠ i1
theorem Sep.sep {z TI TO i1 i2 a : Addr} (D : Sep z TI TO i1 i2 a) : ZipSep2 z TI TO i1 i2 [i1, a] [i2] where
  TIz := D.e1
  TOz := D.e2
  TITO := D.e3
  TIi1 := D.e4
  mem1 := List.mem_cons_self
  zf1 := by simp [D.e6, D.e7]
  Tf1 := by simp [D.e8, D.e9]
  TIi2 := D.e5
  mem2 := List.mem_cons_self
  zf2 := by simp [D.e10]
  Tf2 := by simp [D.e11]
  sep1_2 := by simp [D.e12]
  sep2_1 := by simp [Ne.symm D.e12, D.e13]
theorem five {z TI TO i1 i2 c : Addr} (h : c ∈ [z, TI, TO, i1, i2]) : c = z ∨ c = TI ∨ c = TO ∨ c = i1 ∨ c = i2 := by simpa using h
theorem turn_zipS {P : Program} {w : World} {K : PySem.W.Frag} {elts : List Expr} {kk : Nat} {tpos : Pos} {a z TI TO i1 i2 : Addr} {xs : List V} {x : Str} {t : Tok} (D : Sep z TI TO i1 i2 a) :
    Turn P w K (.Tuple elts kk tpos) (ItzS K a xs x) [z, TI, TO, i1, i2] z (fun i h => IsZip h z TI TO .none ∧ IsTupOf2 h TI (.ref i1) (.ref i2) ∧ (∃ p q, IsTupOf2 h TO p q) ∧ h.IsListIter i1 a i ∧ h.IsStrIter i2 (strIterType x) x t i ∧ i ≤ xs.length ∧ i ≤ x.cps.size) where
  mem := List.mem_cons_self
  obj := fun i h st c hc => by
    obtain ⟨hz, hTI, ⟨p, q, hTO⟩, ⟨o1, e1, _, d1⟩, ⟨o2, e2, _, d2⟩, _⟩ := st
    rcases five hc with q | q | q | q | q <;> rw [q]
    · exact ⟨_, hz, fun v q => nomatch q⟩
    · exact ⟨_, hTI, fun v q => nomatch q⟩
    · exact ⟨_, hTO, fun v q => nomatch q⟩
    · exact ⟨o1, e1, fun v q => by rw [d1] at q; cases q⟩
    · exact ⟨o2, e2, fun v q => by rw [d2] at q; cases q⟩
  keep := fun i h h' st k => by
    obtain ⟨hz, hTI, ⟨p, q, hTO⟩, h1, ⟨o2, e2, r2⟩, l⟩ := st
    exact ⟨k z (by simp) _ hz, k TI (by simp) _ hTI, ⟨p, q, k TO (by simp) _ hTO⟩, h1.at fun o q => k i1 (by simp) o q, ⟨o2, k i2 (by simp) _ e2, r2⟩, l⟩
  item := by
    intro X hP hw hK hc i pins s σ H E I hf st hg
    subst hP hw hK
    obtain ⟨hz, hTI, ⟨p0, q0, hTO⟩, h1, h2, l1, l2⟩ := st
    obtain ⟨hq, g1, g2⟩ := hg
    obtain ⟨its, rv, pl, _⟩ := I.list hq
    have hl : xs.length = its.length := rv.length
    have hh := I.ok.hd hc
    refine wpAny_pyNext_zipD2_item D.sep (Draws.list (by exact hh) i1 a D.e14 its.toArray) (draws (by exact hh) i2 x t) hz hTI hTO ⟨h1, pl.isList⟩ h2 (by simp; omega) g2 fun u v h' tk pu pv z' TO' st1 st2 hT hsz hk => ?_
    refine ⟨_, rfl, wpAny_letOwnedTupleGo_zip (s := { s with heap := h', toks := tk }) z' fun h'' z'' sb => ?_⟩
    obtain ⟨c, u2, hc2, rfl⟩ := pv
    have hzl : z < s.heap.objs.size := Heap.lt_size hz
    have hx : xs[i]? = some xs[i] := List.getElem?_eq_getElem g1
    obtain ⟨u', hu', ru⟩ := rv.get hx
    have eu : u' = u := by
      have q : its.toArray[i]? = some u := pu
      simp only [List.getElem?_toArray] at q
      rw [hu'] at q
      exact Option.some.inj q
    subst eu
    have hT2 : h''.get? s.heap.objs.size = some { cls := .type "tuple", data := .seq #[u', .str ⟨#[c]⟩ u2] } := (sb.2 _ (Nat.ne_of_gt hzl)).trans hT
    have new : ObjOk X.prog X.w (upd H s.heap.objs.size (.tup [xs[i], .str ⟨#[c]⟩])) h'' s.heap.objs.size (.tup [xs[i], .str ⟨#[c]⟩]) :=
      ⟨by show 2 ≤ sizeLine; decide, [u', .str ⟨#[c]⟩ u2], .cons ru (.cons ⟨_, rfl⟩ .nil), ⟨_, hT2, rfl, _, rfl⟩⟩
    have far : ∀ b o, b ∉ [z, TI, TO, i1, i2] → s.heap.get? b = some o → h''.get? b = some o := fun b o hb q => (sb.2 b (fun e => hb (by simp [e]))).trans (hk b o (fun e => hb (by simp [e])) (fun e => hb (by simp [e])) (fun e => hb (by simp [e])) (fun e => hb (by simp [e])) q)
    refine ⟨.ref s.heap.objs.size, _, I.turnedNew (t' := tk) far hf (Nat.le_refl _) new, rfl, ⟨_, xs[i], c, rfl, I.hok.fresh (Nat.le_refl _), rfl, hx, hc2⟩, ⟨z'', (sb.2 _ D.e1).trans (hk _ _ D.e1 D.e3 D.e4 D.e5 hTI), ⟨_, _, (sb.2 _ D.e2).trans TO'⟩, st1.1.at fun o q => (sb.2 _ (Ne.symm D.e6)).trans q, ?_, g1, g2⟩, fun b hb => ?_⟩
    · obtain ⟨o, ho, r⟩ := st2
      exact ⟨o, (sb.2 _ (Ne.symm D.e10)).trans ho, r⟩
    · have hlt : b < s.heap.objs.size := by
        rcases five hb with e | e | e | e | e <;> rw [e]
        · exact hzl
        · exact Heap.lt_size hTI
        · exact Heap.lt_size hTO
        · obtain ⟨_, e1, _⟩ := h1; exact Heap.lt_size e1
        · obtain ⟨_, e2, _⟩ := h2; exact Heap.lt_size e2
      rw [upd_ne (Nat.ne_of_lt hlt)]
      exact (hf b hb).1
  done := by
    intro X hP hw hK hc i pins s σ H E I hf st hg
    subst hP hw hK
    obtain ⟨hz, hTI, ⟨p0, q0, hTO⟩, h1, h2, l1, l2⟩ := st
    obtain ⟨hq, g⟩ := hg
    obtain ⟨its, rv, pl, _⟩ := I.list hq
    have hl : xs.length = its.length := rv.length
    have hh := I.ok.hd hc
    exact wpAny_pyNext_zipD2_end D.sep (Draws.list (by exact hh) i1 a D.e14 its.toArray) (draws (by exact hh) i2 x t) hz hTI hTO ⟨h1, pl.isList⟩ h2 (by simp; omega) l2 (by simp; omega) fun h' tk hk => ⟨rfl, I.turnedL (t' := tk) (ch := [z, TI, TO, i1, i2]) (fun c o hb q =>
      hk c o (fun e => hb (by simp [e])) (fun e => hb (by simp [e])) (fun e => hb (by simp [e])) (fun e => hb (by simp [e])) q) hf⟩
  self := fun A i s Q E st h => wpAny_pyIter_zip st.1 h
/-! ### the zip itself -/
abbrev zs1 (h : Heap) (l : Addr) : Heap := h.push { cls := .type "list_iterator", data := .fields #[.ref l, .int 0 0] }
abbrev zs2 (h : Heap) (l : Addr) (x : Str) (t : Tok) : Heap := (zs1 h l).push { cls := .type (strIterType x), data := .fields #[.str x t, .int 0 0] }
abbrev zs3 (h : Heap) (l : Addr) (x : Str) (t : Tok) : Heap := (zs2 h l x t).push { cls := .type "tuple", data := .seq #[.ref h.objs.size, .ref (zs1 h l).objs.size] }
abbrev zs4 (h : Heap) (l : Addr) (x : Str) (t : Tok) : Heap := (zs3 h l x t).push { cls := .type "tuple", data := .seq #[.none, .none] }
abbrev zs5 (h : Heap) (l : Addr) (x : Str) (t : Tok) : Heap := (zs4 h l x t).push { cls := .type "zip", data := .fields #[.none, .bool false, .bool false, .ref (zs2 h l x t).objs.size, .ref (zs3 h l x t).objs.size] }
theorem meets_zs (l : Addr) (xs : Array Value) (x : Str) (t : Tok) :
    Meets (Builtin.«zip.__new__» ⟨[.type "zip", .ref l, .str x t], []⟩) (fun _ R s => s.heap.IsList l xs ∧ R (.ok (.ret (.ref (zs4 s.heap l x t).objs.size))) { s with heap := zs5 s.heap l x t }) :=
  .of_wp fun prog w A R s h => by
    obtain ⟨hp, g, d, tk, os⟩ := s; obtain ⟨hl1, h⟩ := h
    have hsub := PySem.sub_zip
    have hL1 : Heap.IsList (Shared.heap ⟨hp, g, d, tk, os⟩) l xs := hl1
    wp_walk using wpAny_pyIter_list hL1, wpAny_pyIter_strU
    exact ⟨_, rfl, h⟩
end ZpS


set_option Elab.async false
set_option linter.all false
set_option maxRecDepth 100000
set_option maxHeartbeats 4000000
namespace ZpS
open PySem PySem.Spec PyProof.Rows L2
section
variable {prog : Program} {w : World} {A : Around} {E : Value → Shared → Prop} {s : Shared}
theorem call_zs {l : Addr} {xs : Array Value} {x : Str} {t : Tok} {Q : Value → Shared → Prop} (hl : s.heap.IsList l xs)
    (h : ∀ h', IsZip h' (s.heap.objs.size + 4) (s.heap.objs.size + 2) (s.heap.objs.size + 3) .none → IsTupOf2 h' (s.heap.objs.size + 2) (.ref s.heap.objs.size) (.ref (s.heap.objs.size + 1)) →
      IsTupOf2 h' (s.heap.objs.size + 3) .none .none → h'.IsListIter s.heap.objs.size l 0 → h'.IsStrIter (s.heap.objs.size + 1) (strIterType x) x t 0 →
      (∀ c o, s.heap.get? c = some o → h'.get? c = some o) → Q (.ref (s.heap.objs.size + 4)) { s with heap := h' }) :
    wpAny (model prog w) A (call (.type "zip") [.ref l, .str x t]) Q E s := by
  refine callType_new PySem.F.called_zip (by decide) (PySem.F.typeCall_zip_2 _ _) (PySem.F.newCall_zip_2 _ _) (fun obj => PySem.F.args_object_init_3 obj _ _) PySem.F.entry_zip_new (meets_zs l xs x t) ⟨hl, ?_⟩
  have z1 : (zs1 s.heap l).objs.size = s.heap.objs.size + 1 := Heap.size_push ..
  have z2 : (zs2 s.heap l x t).objs.size = s.heap.objs.size + 2 := by rw [Heap.size_push, z1]
  have z3 : (zs3 s.heap l x t).objs.size = s.heap.objs.size + 3 := by rw [Heap.size_push, z2]
  have z4 : (zs4 s.heap l x t).objs.size = s.heap.objs.size + 4 := by rw [Heap.size_push, z3]
  have up : ∀ {h : Heap} {c : Addr} {o : Obj} (p : Obj), h.get? c = some o → (h.push p).get? c = some o := fun p e => Heap.get?_push_of_some _ e
  have g5 : (zs5 s.heap l x t).get? (zs4 s.heap l x t).objs.size = some _ := Heap.get?_push_size _ rfl
  have g4 : (zs5 s.heap l x t).get? (zs3 s.heap l x t).objs.size = some _ := up _ (Heap.get?_push_size _ rfl)
  have g3 : (zs5 s.heap l x t).get? (zs2 s.heap l x t).objs.size = some _ := up _ (up _ (Heap.get?_push_size _ rfl))
  have g2 : (zs5 s.heap l x t).get? (zs1 s.heap l).objs.size = some _ := up _ (up _ (up _ (Heap.get?_push_size _ rfl)))
  have g1 : (zs5 s.heap l x t).get? s.heap.objs.size = some _ := up _ (up _ (up _ (up _ (Heap.get?_push_size _ rfl))))
  show _ ∧ _
  rw [z2, z3, z4] at g5
  rw [z1, z2] at g3
  rw [z3] at g4
  rw [z1] at g2
  rw [z4]
  exact ⟨⟨_, g5, rfl⟩, h _ g5 g3 g4 ⟨_, g1, rfl, rfl⟩ ⟨_, g2, rfl, rfl⟩ fun c o e => up _ (up _ (up _ (up _ (up _ e))))⟩
end
theorem sep_of (n a : Nat) (h : a < n) : Sep (n + 4) (n + 2) (n + 3) n (n + 1) a := by
  have ne : ∀ {p q : Nat}, p < q ∨ q < p → p ≠ q := fun h e => by omega
  constructor <;> (apply ne; omega)
def iZipS (K : PySem.W.Frag) (ta : TA) : TI := fun σ H R => ta σ H fun vs H1 => ∃ a xs x, vs = [.ref a, .str x] ∧ SqL K H1 a xs ∧ R (ItzS K a xs x) H1
theorem pi_zipS {X : Cx} {e e2 : Expr} {ta : TA} {p pos tpos : Pos} {elts : List Expr} {kk : Nat} (hg : Gl X "zip") (hm : X.mg "zip" = none) (ha : PA X [e, e2] ta)
    (hs : starEach [e, e2] X.env = (false, eval e X.env) :: starEach [e2] X.env := by rfl) (hpl : (backTo pos (starEach [e2] X.env)).any (·.1) = false := by rfl) :
    PI X (.Tuple elts kk tpos) (.Call (.Name "zip" p) [e, e2] [] pos) (iZipS X.K ta) := by
  refine ⟨fun pins s σ H R I h => ?_⟩
  refine Call_ (ld_blt I hg hm PyProof.Rows.boot_zip (PyProof.Rows.callWith_type1 (thn (ha.run pos pins s σ H _ I h) fun us s1 ⟨vs, H1, I1, r1, q1⟩ => ?_) hs hpl))
  obtain ⟨a, xs, x, rfl, hq, q⟩ := q1
  obtain ⟨u1, u2, rfl, ra, rx⟩ := vals2 r1
  obtain rfl : u1 = Value.ref a := ra
  obtain ⟨t, rfl⟩ := rx
  obtain ⟨its, rv, pl, _⟩ := I1.list hq
  refine call_zs pl.isList fun h' hz hTI hTO h1 h2 hk => wpAny_pyIter_zip hz ?_
  refine ⟨s1.heap.objs.size + 4, [s1.heap.objs.size + 4, s1.heap.objs.size + 2, s1.heap.objs.size + 3, s1.heap.objs.size, s1.heap.objs.size + 1], _, _, H1, rfl, I1.kept (t' := s1.toks) hk, turn_zipS (t := t) (sep_of s1.heap.objs.size a pl.lt), ⟨hz, hTI, ⟨_, _, hTO⟩, h1, h2, Nat.zero_le _, Nat.zero_le _⟩, fun c hc => ?_, q⟩
  have hle : s1.heap.objs.size ≤ c := by
    rcases five hc with z | z | z | z | z <;> rw [z] <;> first | exact Nat.le_refl _ | exact Nat.le_add_right _ _
  exact I1.fpOk hle (I1.hok.fresh hle)
/-! ### enumerate of a text -/
def IteS (x : Str) : It :=
  ⟨fun i _ => i < x.cps.size, fun i H v H' => ∃ T c, v = .ref T ∧ H T = none ∧ H' = upd H T (.tup [.int (i : Nat), .str ⟨#[c]⟩]) ∧ x.cps[i]? = some c, fun i _ => x.cps.size ≤ i⟩
theorem turn_enumS {P : Program} {w : World} {K : PySem.W.Frag} {elts : List Expr} {kk : Nat} {tpos : Pos} {e it : Addr} {x : Str} {t : Tok} (hne : e ≠ it) :
    Turn P w K (.Tuple elts kk tpos) (IteS x) [e, it] e (fun i h => (∃ old, IsEnum h e it ((i : Nat) : Int) old) ∧ h.IsStrIter it (strIterType x) x t i ∧ i ≤ x.cps.size) where
  mem := List.mem_cons_self
  obj := fun i h st b hb => by
    obtain ⟨⟨old, he⟩, ⟨o, ho, hc, hd⟩, _⟩ := st
    rcases (show b = e ∨ b = it by simpa using hb) with z | z <;> rw [z]
    · exact ⟨_, he, fun v q => nomatch q⟩
    · exact ⟨o, ho, fun v q => by rw [hd] at q; cases q⟩
  keep := fun i h h' st k => by
    obtain ⟨⟨old, he⟩, ⟨o, ho, r⟩, l⟩ := st
    exact ⟨⟨old, k e (by simp) _ he⟩, ⟨o, k it (by simp) _ ho, r⟩, l⟩
  item := by
    intro X hP hw hK hc i pins s σ H E I hf st hg
    subst hP hw hK
    obtain ⟨⟨old, he⟩, hit, _⟩ := st
    have hh := I.ok.hd hc
    have hel : e < s.heap.objs.size := Heap.lt_size he
    refine wpAny_pyNext_enum_itemD (draws (by exact hh) it x t) he hit hg hne (by simp [hne]) fun v h' tk pv ho hit' hT hsz hk => ?_
    refine ⟨_, rfl, wpAny_letOwnedTupleGo_enum (s := { s with heap := h', toks := tk + 1 }) ho fun h'' he' sb => ?_⟩
    obtain ⟨c, u, hc2, rfl⟩ := pv
    have hT2 : h''.get? s.heap.objs.size = some { cls := .type "tuple", data := .seq #[.int i tk, .str ⟨#[c]⟩ u] } := (sb.2 _ (Nat.ne_of_gt hel)).trans hT
    have new : ObjOk X.prog X.w (upd H s.heap.objs.size (.tup [.int (i : Nat), .str ⟨#[c]⟩])) h'' s.heap.objs.size (.tup [.int (i : Nat), .str ⟨#[c]⟩]) :=
      ⟨by show 2 ≤ sizeLine; decide, [.int i tk, .str ⟨#[c]⟩ u], .cons ⟨_, rfl⟩ (.cons ⟨_, rfl⟩ .nil), ⟨_, hT2, rfl, _, rfl⟩⟩
    refine ⟨.ref s.heap.objs.size, _, I.turnedNew (t' := tk + 1) (ch := [e, it]) (fun b ob hb q => (sb.2 b (fun z => hb (by simp [z]))).trans (hk b ob (fun z => hb (by simp [z])) (fun z => hb (by simp [z])) q)) hf (Nat.le_refl _) new, rfl, ⟨_, c, rfl, I.hok.fresh (Nat.le_refl _), rfl, hc2⟩, ⟨⟨.str ⟨#[c]⟩ u, ?_⟩, ?_, hg⟩, fun b hb => ?_⟩
    · have e1 : ((i + 1 : Nat) : Int) = (i : Int) + 1 := by omega
      rw [e1]; exact he'
    · obtain ⟨o, ho2, r⟩ := hit'
      exact ⟨o, (sb.2 it (Ne.symm hne)).trans ho2, r⟩
    · have hb' : b < s.heap.objs.size := by
        rcases (show b = e ∨ b = it by simpa using hb) with z | z <;> rw [z]
        · exact hel
        · obtain ⟨_, q, _⟩ := hit; exact Heap.lt_size q
      rw [upd_ne (Nat.ne_of_lt hb')]
      exact (hf b hb).1
  done := by
    intro X hP hw hK hc i pins s σ H E I hf st hg
    subst hP hw hK
    obtain ⟨⟨old, he⟩, hit, l⟩ := st
    have hh := I.ok.hd hc
    obtain rfl : i = x.cps.size := Nat.le_antisymm l hg
    exact wpAny_pyNext_enum_endD (draws (by exact hh) it x t) he hit fun h' eb => ⟨rfl, I.turnedL (t' := s.toks) (ch := [e, it]) (fun b o hb q => eb b o (fun z => hb (by simp [z])) q) hf⟩
  self := fun A i s Q E st h => let ⟨⟨_, he⟩, _⟩ := st; wpAny_pyIter_enum he h
def iEnumS (ta : TA) : TI := fun σ H R => ta σ H fun vs H1 => ∃ x, vs = [.str x] ∧ R (IteS x) H1
theorem pi_enumS {X : Cx} {e : Expr} {ta : TA} {p pos tpos : Pos} {elts : List Expr} {kk : Nat} (hg : Gl X "enumerate") (hm : X.mg "enumerate" = none) (ha : PA X [e] ta) (hs : starEach [e] X.env = [(false, eval e X.env)] := by rfl) :
    PI X (.Tuple elts kk tpos) (.Call (.Name "enumerate" p) [e] [] pos) (iEnumS ta) := by
  refine ⟨fun pins s σ H R I h => ?_⟩
  refine Call_ (ld_blt I hg hm boot_enumerate (PyProof.Rows.callWith_type1 (thn (ha.run pos pins s σ H _ I h) fun us s1 ⟨vs, H1, I1, r1, q1⟩ => ?_) hs rfl))
  obtain ⟨x, rfl, q⟩ := q1
  obtain ⟨u, rfl, ru⟩ := vals1 r1
  obtain ⟨t, rfl⟩ := ru
  refine call_enumerate_str fun h' he hit hsz hk => wpAny_pyIter_enum he ?_
  refine ⟨s1.heap.objs.size + 1, [s1.heap.objs.size + 1, s1.heap.objs.size], _, _, H1, rfl, I1.kept (t' := s1.toks) hk, turn_enumS (t := t) (Nat.succ_ne_self _), ⟨⟨.none, he⟩, hit, Nat.zero_le _⟩, fun b hb => ?_, q⟩
  have hle : s1.heap.objs.size ≤ b := by
    rcases (show b = s1.heap.objs.size + 1 ∨ b = s1.heap.objs.size by simpa using hb) with z | z <;> rw [z]
    · exact Nat.le_add_right _ _
    · exact Nat.le_refl _
  exact I1.fpOk hle (I1.hok.fresh hle)
end ZpS


set_option Elab.async false
set_option linter.all false
set_option maxRecDepth 100000
set_option maxHeartbeats 4000000
namespace Dn
open PySem PySem.Spec PyProof.Rows L2
/-! ### zip, enumerate -/
def enumA : List D → Res (List D)
  | [.lst xs] => .ok (xs.mapIdx fun i d => .tup [.int (i : Int), d])
  | [.str l] => .ok (l.mapIdx fun i c => .tup [.int (i : Int), .str [c]])
  | _ => .stuck
def zipA : List D → Res (List D)
  | [.lst xs, .lst ys] => .ok (List.zipWith (fun a b => .tup [a, b]) xs ys)
  | [.lst xs, .str l] => .ok (List.zipWith (fun a c => .tup [a, .str [c]]) xs l)
  | _ => .stuck
section
variable {T : List (Addr × Str)} {X : Cx} {W : Wi} {K : PySem.W.Frag} {mg : Str → Option Value}
theorem cps_tl (z : Str) (i : Nat) : z.cps[i]? = (TL.tl z)[i]? := by simp [TL.tl]
theorem size_tl (z : Str) : z.cps.size = (TL.tl z).length := by simp [TL.tl]
theorem walk_eS {F : Hp} {z : Str} {l : List Nat} (h : TL.tl z = l) : WalkD K mg T (ZpS.IteS z) F (l.mapIdx fun i c => .tup [.int (i : Int), .str [c]]) := by
  subst h
  intro i F' H' rel gd
  refine ⟨fun d ed => ?_, fun hl => by show z.cps.size ≤ i; rw [size_tl]; rw [List.length_mapIdx] at hl; exact hl⟩
  rw [List.getElem?_mapIdx] at ed
  cases q : (TL.tl z)[i]? with
  | none => rw [q] at ed; cases ed
  | some c =>
    rw [q] at ed
    cases ed
    refine ⟨by show i < z.cps.size; rw [size_tl]; exact (List.getElem?_eq_some_iff.mp q).1, fun x H'' y => ?_⟩
    obtain ⟨t, c', rfl, ht, rfl, hc⟩ := y
    rw [cps_tl, q] at hc
    cases hc
    have st := Step.new (o := .tup [.int (i : Nat), .str ⟨#[c]⟩]) gd ht
    exact ⟨_, st, RpL.tup upd_same (.cons (.int _) (.cons (.str rfl) .nil))⟩
theorem walk_zS {F : Hp} {a : Addr} {vs : List V} {ds : List D} {z : Str} {l : List Nat} (h : F a = some (.lst vs)) (r : RpL K mg F vs ds) (hz : TL.tl z = l) : WalkD K mg T (ZpS.ItzS K a vs z) F (List.zipWith (fun a c => .tup [a, .str [c]]) ds l) := by
  subst hz
  intro i F' H' rel gd
  have hq : SqL K H' a vs := .of (gd.sub _ _ (rel.lst h))
  refine ⟨fun d ed => ?_, fun hl => ⟨hq, by rw [r.length, size_tl]; rw [List.length_zipWith] at hl; omega⟩⟩
  rw [List.getElem?_zipWith] at ed
  cases q : ds[i]? with
  | none => rw [q] at ed; cases ed
  | some d1 =>
    cases q' : (TL.tl z)[i]? with
    | none => rw [q, q'] at ed; cases ed
    | some c =>
      rw [q, q'] at ed
      cases ed
      obtain ⟨v, ev, rv⟩ := r.get1 q
      refine ⟨⟨hq, (List.getElem?_eq_some_iff.mp ev).1, by rw [size_tl]; exact (List.getElem?_eq_some_iff.mp q').1⟩, fun x H'' y => ?_⟩
      obtain ⟨t, u, c', rfl, ht, rfl, hu, hc⟩ := y
      rw [ev] at hu
      cases hu
      rw [cps_tl, q'] at hc
      cases hc
      have st := Step.new (o := .tup [v, .str ⟨#[c]⟩]) gd ht
      exact ⟨_, st, RpL.tup upd_same (.cons ((rv.mono rel).mono st.r) (.cons (.str rfl) .nil))⟩
theorem di_enumA {e : Expr} {elts : List Expr} {kk : Nat} {p pos tpos : Pos} {fa : Sto → Res (List D)} (hm : X.mg "enumerate" = none) (ha : DA T X W [e] fa) (hg : Gl X "enumerate" := by rfl) (hs : starEach [e] X.env = [(false, eval e X.env)] := by rfl) :
    DI T X W (.Tuple elts kk tpos) (.Call (.Name "enumerate" p) [e] [] pos) (rngA enumA fa) :=
  weakI (PI.or (pi_enum hg hm ha hs) (ZpS.pi_enumS hg hm ha hs)) fun σ H R ⟨F, δ, L, h⟩ => by
    have fin : ∀ ds, (∀ vs F1 H1, Lcl X.K X.mg T F1 H1 σ δ → RpL X.K X.mg F1 vs ds → PostI X.K X.mg T F1 H1 W R (enumA ds) → (∃ a xs, vs = [.ref a] ∧ SqL X.K H1 a xs ∧ R (Ite X.K a) H1) ∨ (∃ x, vs = [.str x] ∧ R (ZpS.IteS x) H1)) := fun ds vs F1 H1 L1 r1 h1 => by
      unfold enumA at h1
      split at h1
      · obtain ⟨v, rfl, rv⟩ := r1.one
        obtain ⟨q, us, rfl, e1, r⟩ := rv.lst_inv
        exact .inl ⟨q, us, rfl, .of (L1.sub _ _ e1), h1 _ F1 H1 L1.refl (walk_e e1 r)⟩
      · obtain ⟨v, rfl, rv⟩ := r1.one
        cases rv with
        | str e1 => exact .inr ⟨_, rfl, h1 _ F1 H1 L1.refl (walk_eS e1)⟩
      · exact h1.elim
    unfold rngA at h
    cases ef : fa δ with
    | stuck => rw [ef] at h; exact (show False from h).elim
    | rs c => rw [ef] at h; exact .inl ⟨F, δ, L, by rw [ef]; exact h⟩
    | ok ds =>
      rw [ef] at h
      match ds, ef, h with
      | [.lst xs], ef, h => exact .inl ⟨F, δ, L, by
          rw [ef]
          intro vs F1 H1 s1 r1
          rcases fin _ vs F1 H1 (L.step s1) r1 (ppI.sh _ _ _ _ _ L.gd s1 h) with q | ⟨x, rfl, _⟩
          · exact q
          · obtain ⟨v, e, rv⟩ := r1.one
            cases e
            cases rv⟩
      | [.str l], ef, h => exact .inr ⟨F, δ, L, by
          rw [ef]
          intro vs F1 H1 s1 r1
          rcases fin _ vs F1 H1 (L.step s1) r1 (ppI.sh _ _ _ _ _ L.gd s1 h) with ⟨a, xs, rfl, _⟩ | q
          · obtain ⟨v, e, rv⟩ := r1.one
            cases e
            cases rv
          · exact q⟩
theorem di_zipA {e e2 : Expr} {elts : List Expr} {kk : Nat} {p pos tpos : Pos} {fa : Sto → Res (List D)} (hm : X.mg "zip" = none) (ha : DA T X W [e, e2] fa) (hg : Gl X "zip" := by rfl) (hs : starEach [e, e2] X.env = (false, eval e X.env) :: starEach [e2] X.env := by rfl) (hpl : (backTo pos (starEach [e2] X.env)).any (·.1) = false := by rfl) :
    DI T X W (.Tuple elts kk tpos) (.Call (.Name "zip" p) [e, e2] [] pos) (rngA zipA fa) :=
  weakI (PI.or (pi_zip hg hm ha hs hpl) (ZpS.pi_zipS hg hm ha hs hpl)) fun σ H R ⟨F, δ, L, h⟩ => by
    unfold rngA at h
    cases ef : fa δ with
    | stuck => rw [ef] at h; exact (show False from h).elim
    | rs c => rw [ef] at h; exact .inl ⟨F, δ, L, by rw [ef]; exact h⟩
    | ok ds =>
      rw [ef] at h
      have h' : PostI X.K X.mg T F H W R (zipA ds) := h
      unfold zipA at h'
      split at h'
      · refine .inl ⟨F, δ, L, ?_⟩
        rw [ef]
        intro vs F1 H1 s1 r1
        obtain ⟨v, u, rfl, rv, ru⟩ := r1.two
        obtain ⟨q, us, rfl, e1, r⟩ := rv.lst_inv
        obtain ⟨q', us', rfl, e1', r'⟩ := ru.lst_inv
        exact ⟨q, q', us, us', rfl, .of (s1.sub _ _ e1), .of (s1.sub _ _ e1'), h' _ F1 H1 s1 (walk_z e1 r e1' r')⟩
      · refine .inr ⟨F, δ, L, ?_⟩
        rw [ef]
        intro vs F1 H1 s1 r1
        obtain ⟨v, u, rfl, rv, ru⟩ := r1.two
        obtain ⟨q, us, rfl, e1, r⟩ := rv.lst_inv
        cases ru with
        | str e2 => exact ⟨q, us, _, rfl, .of (s1.sub _ _ e1), h' _ F1 H1 s1 (walk_zS e1 r e2)⟩
      · exact h'.elim
/-! ### sorted(set(text)) -/
def ddp : List Nat → List Nat
  | [] => []
  | c :: r => if c ∈ r then ddp r else c :: ddp r
theorem ddp_mem {c : Nat} : ∀ {l : List Nat}, c ∈ ddp l ↔ c ∈ l
  | [] => Iff.rfl
  | d :: r => by
    unfold ddp
    split
    · rename_i h
      rw [ddp_mem, List.mem_cons]
      exact ⟨.inr, fun q => q.elim (fun e => e ▸ h) id⟩
    · rw [List.mem_cons, ddp_mem, List.mem_cons]
theorem ddp_nodup : ∀ l : List Nat, (ddp l).Nodup
  | [] => .nil
  | d :: r => by
    unfold ddp
    split
    · exact ddp_nodup r
    · rename_i h
      exact List.nodup_cons.mpr ⟨fun q => h (ddp_mem.mp q), ddp_nodup r⟩
def ltN (a b : Nat) : Bool := decide (a < b)
theorem swo_N : SrtO.Swo ltN := ⟨fun x y h => decide_eq_false (by have := of_decide_eq_true h; omega), fun x y z h1 h2 => decide_eq_false (by have := of_decide_eq_false h1; have := of_decide_eq_false h2; omega)⟩
/-- the signs of a text, rising -/
def ltrs (l : List Nat) : List Nat := srtL ltN (ddp l)
theorem ltrs_mem {l : List Nat} {c : Nat} : c ∈ ltrs l ↔ c ∈ l := srt_mem.trans ddp_mem
theorem ltrs_nodup (l : List Nat) : (ltrs l).Nodup := (srt_perm ltN (ddp l)).nodup_iff.mpr (ddp_nodup l)
theorem ltrs_le (l : List Nat) : (ltrs l).Pairwise (· ≤ ·) := (srt_srtd swo_N _).imp fun {x y} h => by have := of_decide_eq_false h; omega
def sgs (l : List Nat) : List D := l.map fun c => .str [c]
def srtSD : List D → Res D
  | [.str l] => if l.length ≤ 4000 ∧ (ltrs l).length < 64 then .ok (.lst (sgs (ltrs l))) else .stuck
  | _ => .stuck
theorem one_lt {a b : Nat} : ([a] < [b]) ↔ a < b := by
  rw [List.cons_lt_cons_iff]
  exact ⟨fun h => h.elim id fun q => (List.lt_irrefl _ q.2).elim, .inl⟩
theorem one_le {a b : Nat} : ([a] ≤ [b]) ↔ a ≤ b := by
  rw [← List.not_lt, one_lt]
  omega
theorem nd_map {α β : Type} (f : α → β) (hf : ∀ a b, f a = f b → a = b) {l : List α} (h : l.Nodup) : (l.map f).Nodup := List.pairwise_map.mpr (h.imp fun {a b} n e => n (hf a b e))
theorem nd_perm {α : Type} [DecidableEq α] : ∀ {l m : List α}, l.Nodup → m.Nodup → (∀ x, x ∈ l ↔ x ∈ m) → l.Perm m
  | [], m, _, _, h => by
    cases m with
    | nil => exact .refl _
    | cons y m => exact ((h y).mpr List.mem_cons_self |> fun z => by cases z)
  | x :: l, m, n1, n2, h => by
    obtain ⟨h1, h2⟩ := List.nodup_cons.mp n1
    have hx := (h x).mp List.mem_cons_self
    refine List.Perm.trans ((nd_perm h2 (n2.erase x) fun y => ?_).cons x) (List.perm_cons_erase hx).symm
    rw [List.Nodup.mem_erase_iff n2, ← h y, List.mem_cons]
    exact ⟨fun q => ⟨fun e => h1 (e ▸ q), .inr q⟩, fun q => q.2.elim (fun e => (q.1 e).elim) id⟩
theorem de_srtSet {e : Expr} {fa : Sto → Res (List D)} {p p2 pos pos2 : Pos} (hc : X.calm = true) (hm : X.mg "sorted" = none) (hm2 : X.mg "set" = none) (ha : DA T X W [e] fa) (hg : Gl X "sorted" := by rfl) (hg2 : Gl X "set" := by rfl) (hs : starEach [e] X.env = (false, eval e X.env) :: starEach [] X.env := by rfl)
    (hs2 : starEach [.Call (.Name "set" p2) [e] [] pos2] X.env = (false, eval (.Call (.Name "set" p2) [e] [] pos2) X.env) :: starEach [] X.env := by rfl) :
    DE T X W (.Call (.Name "sorted" p) [.Call (.Name "set" p2) [e] [] pos2] [] pos) (app srtSD fa) :=
  weakE (pe_callB (TxS.cr_sortX hc) hg hm (by decide +kernel) (pa_cons (pe_callTy (TxS.cr_setX hc) hg2 hm2 (by decide +kernel) ha (by decide) (by decide) hs) pa_nil hs2) (by decide) (by decide) hs2) fun σ H Q ⟨F, δ, L, h⟩ => bindA ppE L h fun ds vs F1 H1 s1 L1 r1 h1 => by
    unfold srtSD at h1
    split at h1
    · rename_i l
      obtain ⟨hl, h2⟩ := PostE.ite h1
      obtain ⟨v, rfl, rv⟩ := r1.one
      cases rv with
      | @str x _ e1 =>
        subst e1
        refine ⟨x, rfl, by rw [TL.len_tl]; exact Nat.lt_of_le_of_lt (Nat.succ_le_succ hl.1) (by decide), fun p ks hp nd mem => ?_⟩
        have st1 := Step.junk (o := TxS.SetX X.prog X.w p ks) L1.gd hp
        have pk : (ks.map TL.tl).Perm ((ltrs (TL.tl x)).map fun c => [c]) := by
          have q := nd_perm (l := ks) (m := (ltrs (TL.tl x)).map fun c => (⟨#[c]⟩ : Str)) nd (nd_map _ (fun a b h => by have := congrArg TL.tl h; simpa using this) (ltrs_nodup _)) fun k => by
            rw [mem k, List.mem_map]
            exact ⟨fun ⟨c, hc, e⟩ => ⟨c, ltrs_mem.mpr hc, e.symm⟩, fun ⟨c, hc, e⟩ => ⟨c, ltrs_mem.mp hc, e.symm⟩⟩
          have q2 := q.map TL.tl
          rw [List.map_map] at q2
          exact q2
        have hkl : ks.length = (ltrs (TL.tl x)).length := by have := pk.length_eq; rwa [List.length_map, List.length_map] at this
        refine ⟨p, ks, rfl, upd_same, by rw [hkl]; exact hl.2, fun ys q py sy hq => ?_⟩
        have st2 := Step.new (o := .lst (ys.map V.str)) st1.gd hq
        have ey : ys.map TL.tl = (ltrs (TL.tl x)).map fun c => [c] := perm_eq (fun a b => List.le_antisymm) (sortedS_le ys sy) (List.pairwise_map.mpr ((ltrs_le _).imp fun {a b} h => one_le.mpr h)) ((py.map TL.tl).trans pk)
        refine h2 _ _ _ (st1.trans st2) (RpL.lst upd_same ?_)
        have := RpL.of_strs (K := X.K) (mg := X.mg) (F := upd F1 q (.lst (ys.map V.str))) ey
        rw [List.map_map] at this
        exact this
    · exact h1.elim
end
end Dn


set_option Elab.async false
set_option linter.all false
set_option maxRecDepth 100000
set_option maxHeartbeats 4000000
namespace Dn
open PySem PySem.Spec PyProof.Rows L2
section
variable {T : List (Addr × Str)} {X : Cx} {W : Wi} {K : PySem.W.Frag} {mg : Str → Option Value}
/-! ### x.index(y) of lists and texts -/
theorem PE.or {e : Expr} {t t' : TE} (h : PE X e t) (k : PE X e t') : PE X e (fun σ H Q => t σ H Q ∨ t' σ H Q) := ⟨fun pins s σ H Q I q => q.elim (h.run pins s σ H Q I) (k.run pins s σ H Q I)⟩
def idxS (l : List Nat) : D → Res D
  | .str [c] => (match l.findIdx? (fun d => d == c) with
    | some j => .ok (.int (j : Nat))
    | none => .stuck)
  | _ => .stuck
def idxE (fo fe : Sto → Res D) : Sto → Res D := fun δ => (fo δ).bind fun x => match x with
  | .lst ds => (fe δ).bind (idxD ds)
  | .str l => (fe δ).bind (idxS l)
  | _ => .stuck
theorem occ_one {x : Str} {c j : Nat} (h : (TL.tl x).findIdx? (fun d => d == c) = some j) : ∃ r, Builtin.Str.occurrences x ⟨#[c]⟩ 0 x.length 1 = j :: r := by
  obtain ⟨hj, pj, mj⟩ := List.findIdx?_eq_some_iff_getElem.mp h
  have at_ : ∀ i, PySem.StrLaws.At x ⟨#[c]⟩ x.length i ↔ (TL.tl x)[i]? = some c := fun i => PySem.StrLaws.subAt_one x c i
  rcases PySem.StrLaws.occ_head x ⟨#[c]⟩ 1 (Nat.le_refl 1) with ⟨_, hn⟩ | ⟨k, r, h0, hk, hn⟩
  · exact (hn j ((at_ j).mpr (by rw [List.getElem?_eq_getElem hj, beq_iff_eq.mp pj]))).elim
  · refine ⟨r, ?_⟩
    rw [h0]
    have hk' := (at_ k).mp hk
    have hkl := (List.getElem?_eq_some_iff.mp hk').1
    have e : k = j := by
      rcases Nat.lt_trichotomy k j with q | q | q
      · have := mj k q
        rw [List.getElem?_eq_getElem hkl] at hk'
        rw [Option.some.inj hk'] at this
        simp at this
      · exact q
      · exact (hn j q ((at_ j).mpr (by rw [List.getElem?_eq_getElem hj, beq_iff_eq.mp pj]))).elim
    rw [e]
theorem de_idx {o e : Expr} {fo fe : Sto → Res D} {apos cpos : Pos} (ho : DE T X W o fo) (he : DE T X W e fe) (hbase : attributeBase o "index" X.env (eval o X.env) = eval o X.env := by rfl)
    (hfew : ((backTo cpos (starEach (e :: []) X.env)).all (fun x => !x.1) && (backToKw cpos (keywordEach [] X.env)).all (fun x => x.1.isSome) && decide ((e :: []).length + ([] : List Keyword).length + (if ([] : List Keyword).isEmpty then 0 else 1) < 30)) = true := by rfl)
    (hline : (apos.endLine == cpos.line) = true := by rfl) (hse : starEach (e :: []) X.env = (false, eval e X.env) :: starEach [] X.env := by rfl) (hplain : (backTo cpos (starEach [] X.env)).any (·.1) = false := by rfl) :
    DE T X W (.Call (.Attribute o "index" apos) [e] [] cpos) (idxE fo fe) :=
  weakE (PE.or (de_index ho he hbase hfew hline hse hplain) (pe_bm PySem.F.plainAttrs_str PySem.F.slot_str_index PySem.F.type_str_index mt_sindex ho (pa_cons he pa_nil hse) hbase hfew hline hse hplain)) fun σ H Q ⟨F, δ, L, h⟩ => by
    unfold idxE at h
    cases ef : fo δ with
    | stuck => rw [ef] at h; exact (show False from h).elim
    | rs c => rw [ef] at h; exact .inl ⟨F, δ, L, by unfold binL; rw [ef]; exact h⟩
    | ok x =>
      rw [ef] at h
      cases x with
      | lst ds => exact .inl ⟨F, δ, L, by unfold binL; rw [ef]; exact h⟩
      | str l =>
        refine .inr ⟨F, δ, L, ?_⟩
        rw [ef]
        intro v F1 H1 s1 r1
        have L1 := L.step s1
        have h1 : PostE X.K X.mg T F1 H1 W Q ((fe δ).bind (idxS l)) := PostE.shift h s1
        cases r1 with
        | @str a _ e0 =>
          refine ⟨rfl, bindE ppE L1 h1 fun y u F2 H2 s2 L2 r2 h2 => ?_⟩
          unfold idxS at h2
          split at h2
          · split at h2
            · rename_i j ej
              cases r2 with
              | str e1 =>
                have e2 := one_sign e1
                subst e2 e0
                obtain ⟨r, eo⟩ := occ_one ej
                exact ⟨a, _, j, r, rfl, rfl, eo, h2.here L2.gd (.int _)⟩
            · exact h2.elim
          · exact h2.elim
      | _ => exact (show False from h).elim
@[simp] theorem idxE_eq {fo fe : Sto → Res D} {δ : Sto} : idxE fo fe δ = (fo δ).bind fun x => (match x with | .lst ds => (fe δ).bind (idxD ds) | .str l => (fe δ).bind (idxS l) | _ => .stuck) := nrfl rfl
/-! ### list(text) -/
def listA : List D → Res D
  | [.lst xs] => .ok (.lst xs)
  | [.tup xs] => .ok (.lst xs)
  | [.str l] => if l.length ≤ line then .ok (.lst (sgs l)) else .stuck
  | _ => .stuck
def rListS : List V → Hp → VK → Prop := fun xs H Q => ∃ x : Str, xs = [.str x] ∧ x.length ≤ sizeLine ∧ ∀ p, H p = none → Q (.ref p) (upd H p (.lst ((TL.tl x).map fun c => V.str ⟨#[c]⟩)))
theorem vals_signs : ∀ {l : List Nat} {us : List Value}, us.length = l.length → (∀ (j : Nat) v, us[j]? = some v → ∃ c u, l[j]? = some c ∧ v = .str ⟨#[c]⟩ u) → Vals (l.map fun c => V.str ⟨#[c]⟩) us
  | [], [], _, _ => .nil
  | [], _ :: _, e, _ => by simp at e
  | _ :: _, [], e, _ => by simp at e
  | c :: l, v :: us, e, h => by
    obtain ⟨c', u, hc, rfl⟩ := h 0 v rfl
    cases hc
    exact .cons ⟨u, rfl⟩ (vals_signs (by simpa using e) fun j w hj => h (j + 1) w (by simpa using hj))
theorem cr_listS (hc : X.calm = true) : CallR X (.type "list") rListS := by
  intro pins s σ H xs us Q I r h
  obtain ⟨x, rfl, hn, q⟩ := h
  obtain ⟨u, rfl, ru⟩ := vals1 r
  obtain ⟨t, rfl⟩ := ru
  refine PySem.call_list_str (I.ok.hd hc) x t (fun h' tk acc c' kp ho it => ?_) (by exact hn)
  have hv : Vals ((TL.tl x).map fun c => V.str ⟨#[c]⟩) acc.toList := vals_signs (by rw [Array.length_toList, it.1, size_tl]) fun j v hj => by
    obtain ⟨c, u, hc, e⟩ := it.2 j v (by rw [← Array.getElem?_toList]; exact hj)
    exact ⟨c, u, by rw [← cps_tl]; exact hc, e⟩
  refine ⟨.ref _, upd H s.heap.objs.size (.lst ((TL.tl x).map fun c => V.str ⟨#[c]⟩)), I.laid (t' := tk) kp (Nat.le_refl _) ⟨by rw [List.length_map, ← TL.len_tl]; exact hn, acc.toList, c', hv, by simpa using ho⟩, rfl, q _ (I.hok.fresh (Nat.le_refl _))⟩
theorem cr_listA (hc : X.calm = true) : CallR X (.type "list") (fun xs H Q => (∃ p ys, xs = [.ref p] ∧ (SqL X.K H p ys ∨ SqT X.K H p ys) ∧ ∀ l, H l = none → Q (.ref l) (upd H l (.lst ys))) ∨ rListS xs H Q) := call_list_of.or (cr_listS hc)
theorem RpL.of_signs {F : Hp} : ∀ l : List Nat, RpL K mg F (l.map fun c => V.str ⟨#[c]⟩) (sgs l)
  | [] => .nil
  | c :: l => .cons (.str rfl) (RpL.of_signs l)
theorem rc_listA : RCD K mg T (fun xs H Q => (∃ p ys, xs = [.ref p] ∧ (SqL K H p ys ∨ SqT K H p ys) ∧ ∀ l, H l = none → Q (.ref l) (upd H l (.lst ys))) ∨ rListS xs H Q) listA := by
  intro F H vs ds W Q gd r h
  unfold listA at h
  split at h
  · exact .inl (rc_list F H vs _ W Q gd r h)
  · exact .inl (rc_list F H vs _ W Q gd r h)
  · obtain ⟨hl, h⟩ := PostE.ite h
    obtain ⟨v, rfl, rv⟩ := r.one
    cases rv with
    | @str x _ e =>
      subst e
      refine .inr ⟨x, rfl, by rw [TL.len_tl]; exact Nat.le_trans hl line_le, fun p hp => ?_⟩
      have st := Step.new (o := .lst ((TL.tl x).map fun c => V.str ⟨#[c]⟩)) gd hp
      exact h _ _ _ st (RpL.lst upd_same (RpL.of_signs _))
  · exact h.elim
/-! ### chains of three -/
def chn3 (g g' g'' : D → D → Res D) (fa fb fc fd : Sto → Res D) : Sto → Res D := fun δ => (fa δ).bind fun x => (fb δ).bind fun y => (g x y).bind (lnk ((fc δ).bind fun z => (g' y z).bind (lnk ((fd δ).bind (g'' z)))))
def tChain3 (r r' r'' : R2) (ta tb tc td : TE) : TE := fun σ H Q => ta σ H fun x H1 => tb σ H1 fun y H2 => r x y H2 fun z H3 => ∃ k, z = .bl k ∧ (if k = true then tc σ H3 fun w H4 => r' y w H4 fun z' H5 => ∃ k', z' = .bl k' ∧ (if k' = true then td σ H5 fun u H6 => r'' w u H6 Q else Q (.bl false) H5) else Q (.bl false) H3)
variable {a b c d : Expr} {ta tb tc td : TE} {fa fb fc fd : Sto → Res D} {pos : Pos} {r r' r'' : R2} {g g' g'' : D → D → Res D} {op op' op'' : CmpOp}
theorem pe_chain3 (ho : OpR X (compareOp op) r) (ho' : OpR X (compareOp op') r') (ho'' : OpR X (compareOp op'') r'') (ha : PE X a ta) (hb : PE X b tb) (hc : PE X c tc) (hd : PE X d td)
    (hm : lastMarks [op, op', op''] [b, c, d] = false := by with_unfolding_all rfl) : PE X (.Compare a [op, op', op''] [b, c, d] pos) (tChain3 r r' r'' ta tb tc td) := by
  refine ⟨fun pins s σ H Q I h => ?_⟩
  refine Compare_chain (thn (ha.run pins s σ H _ I h) fun v s1 ⟨x, H1, I1, r1, q1⟩ => chain_link (thn (hb.run pins s1 σ H1 _ I1 q1) fun u s2 ⟨y, H2, I2, r2, q2⟩ =>
    thn (ho pins s2 σ H2 x y v u _ I2 r1 r2 q2) fun d s3 ⟨z, H3, I3, r3, k, e, q3⟩ => ?_)) hm
  subst e
  cases r3
  refine wpAny_truthy_bool ?_
  cases k with
  | false => exact ite_ff ⟨.bl false, H3, I3, rfl, q3⟩
  | true =>
    refine ite_tt (chain_link (thn (hc.run pins s3 σ H3 _ I3 q3) fun w' s4 ⟨z', H4, I4, r4, q4⟩ => thn (ho' pins s4 σ H4 y z' u w' _ I4 r2 r4 q4) fun d s5 ⟨z, H5, I5, r5, k, e, q5⟩ => ?_))
    subst e
    cases r5
    refine wpAny_truthy_bool ?_
    cases k with
    | false => exact ite_ff ⟨.bl false, H5, I5, rfl, q5⟩
    | true => exact ite_tt (chain_last (thn (hd.run pins s5 σ H5 _ I5 q5) fun w2 s6 ⟨z2, H6, I6, r6, q6⟩ => ho'' pins s6 σ H6 z' z2 w' w2 Q I6 r4 r6 q6))
theorem chn3_read (hr : R2D X.K X.mg T r g) (hr' : R2D X.K X.mg T r' g') (hr'' : R2D X.K X.mg T r'' g'') {σ : L2.St} {F H : Hp} {δ : Sto} {Q : VK} (L : Lcl X.K X.mg T F H σ δ) (h : PostE X.K X.mg T F H W Q (chn3 g g' g'' fa fb fc fd δ)) : tChain3 r r' r'' (tD X.K X.mg T W fa) (tD X.K X.mg T W fb) (tD X.K X.mg T W fc) (tD X.K X.mg T W fd) σ H Q :=
  bindE ppE L h fun x v F1 H1 s1 L1 r1 h1 => bindE ppE L1 h1 fun y u F2 H2 s2 L2 r2 h2 => by
    refine hr F2 H2 v u x y W _ L2.gd (r1.mono s2.r) r2 ?_
    cases z : g x y with
    | stuck => rw [z] at h2; exact h2
    | rs c => rw [z] at h2; exact h2
    | ok d =>
      rw [z] at h2
      intro w F3 H3 s3 r3
      have L3 := L2.step s3
      have h3 : PostE X.K X.mg T F3 H3 W Q (lnk ((fc δ).bind fun z => (g' y z).bind (lnk ((fd δ).bind (g'' z)))) d) := PostE.shift h2 s3
      cases r3 with
      | bl k =>
        refine ⟨k, rfl, ?_⟩
        cases k with
        | false => rw [if_neg Bool.false_ne_true]; exact PostE.here h3 L3.gd (.bl false)
        | true =>
          rw [if_pos rfl]
          refine bindE ppE L3 h3 fun e w F4 H4 s4 L4 r4 h4 => ?_
          refine hr' F4 H4 u w y e W _ L4.gd ((r2.mono s3.r).mono s4.r) r4 ?_
          cases z : g' y e with
          | stuck => rw [z] at h4; exact h4
          | rs c => rw [z] at h4; exact h4
          | ok d =>
            rw [z] at h4
            intro w' F5 H5 s5 r5
            have L5 := L4.step s5
            have h5 : PostE X.K X.mg T F5 H5 W Q (lnk ((fd δ).bind (g'' e)) d) := PostE.shift h4 s5
            cases r5 with
            | bl k =>
              refine ⟨k, rfl, ?_⟩
              cases k with
              | false => rw [if_neg Bool.false_ne_true]; exact PostE.here h5 L5.gd (.bl false)
              | true =>
                rw [if_pos rfl]
                exact bindE ppE L5 h5 fun e2 w2 F6 H6 s6 L6 r6 h6 => hr'' F6 H6 w w2 e e2 W Q L6.gd ((r4.mono s5.r).mono s6.r) r6 h6
            | _ => exact (show False from h5).elim
      | _ => exact (show False from h3).elim
theorem de_chn3 (ho : OpR X (compareOp op) r) (hr : R2D X.K X.mg T r g) (ho' : OpR X (compareOp op') r') (hr' : R2D X.K X.mg T r' g') (ho'' : OpR X (compareOp op'') r'') (hr'' : R2D X.K X.mg T r'' g'') (ha : DE T X W a fa) (hb : DE T X W b fb) (hc : DE T X W c fc) (hd : DE T X W d fd) (hm : lastMarks [op, op', op''] [b, c, d] = false := by with_unfolding_all rfl) :
    DE T X W (.Compare a [op, op', op''] [b, c, d] pos) (chn3 g g' g'' fa fb fc fd) := weakE (pe_chain3 ho ho' ho'' ha hb hc hd hm) fun σ H Q ⟨F, δ, L, h⟩ => chn3_read hr hr' hr'' L h
@[simp] theorem chn3_eq {δ : Sto} : chn3 g g' g'' fa fb fc fd δ = (fa δ).bind fun x => (fb δ).bind fun y => (g x y).bind (lnk ((fc δ).bind fun z => (g' y z).bind (lnk ((fd δ).bind (g'' z))))) := nrfl rfl
@[simp] theorem enumA_lst {xs : List D} : enumA [.lst xs] = .ok (xs.mapIdx fun i d => .tup [.int (i : Int), d]) := nrfl rfl
@[simp] theorem enumA_str {l : List Nat} : enumA [.str l] = .ok (l.mapIdx fun i c => .tup [.int (i : Int), .str [c]]) := nrfl rfl
@[simp] theorem zipA_lst {xs ys : List D} : zipA [.lst xs, .lst ys] = .ok (List.zipWith (fun a b => .tup [a, b]) xs ys) := nrfl rfl
@[simp] theorem zipA_str {xs : List D} {l : List Nat} : zipA [.lst xs, .str l] = .ok (List.zipWith (fun a c => .tup [a, .str [c]]) xs l) := nrfl rfl
end
end Dn


set_option Elab.async false
set_option linter.all false
set_option maxRecDepth 100000
set_option maxHeartbeats 4000000
namespace Dn
open PySem PySem.Spec PyProof.Rows L2
section
variable {T : List (Addr × Str)} {X : Cx} {W : Wi} {K : PySem.W.Frag} {mg : Str → Option Value}
/-! ### x[::-1] -/
def tRevS (te : TE) : TE := fun σ H Q => te σ H fun x H1 => ∃ z : Str, x = .str z ∧ z.length ≤ sizeLine ∧ Q (.str ⟨z.cps.toList.reverse.toArray⟩) H1
theorem revS_ix (z : Str) : (Builtin.Str.strSliceIndices none none (-1) z.length).filterMap (z.cps[·]?) = z.cps.toList.reverse := by
  have e : Builtin.Str.strSliceIndices none none (-1) z.length = sliceRange ((z.length : Int) - 1) (-1) (-1) := rfl
  rw [e, PySem.W.krv_sliceRange, PySem.W.krv_range, List.filterMap_reverse]
  show ((List.range z.cps.size).filterMap (z.cps[·]?)).reverse = _
  rw [PySem.W.krv_all]
theorem pe_revS {e : Expr} {te : TE} {k : Nat} {p1 p2 p3 pos : Pos} (he : PE X e te) : PE X (.Subscript e (.Slice none none (some (.UnaryOp .USub (.Constant (.int 1) k p1) p2)) p3) pos) (tRevS te) := by
  refine ⟨fun pins s σ H Q I h => ?_⟩
  refine Subscript_ (thn (he.run pins s σ H _ I h) fun v s1 ⟨x, H1, I1, r1, q1⟩ => ?_)
  obtain ⟨z, ex, hz, q⟩ := q1
  subst ex
  obtain ⟨t, rfl⟩ := r1
  have hst : PO X (some (.UnaryOp .USub (.Constant (.int 1) k p1) p2)) (tPart (tUn (rU fun i => .int (-i)) (tC (.int 1)))) := po_some (pe_un un_neg pe_int)
  refine wpAny_Slice (thn (po_none.run pins s1 σ H1 (fun o H2 => o = none ∧ H2 = H1) I1 ⟨rfl, rfl⟩) fun vl s2 ⟨l, H2, I2, pl, el, e2⟩ => ?_)
  subst el e2
  refine thn (po_none.run pins s2 σ H2 (fun o H3 => o = none ∧ H3 = H2) I2 ⟨rfl, rfl⟩) fun vu s3 ⟨u, H3, I3, pu, eu, e3⟩ => ?_
  subst eu e3
  refine thn (hst.run pins s3 σ H3 (fun o H4 => o = some (-1) ∧ H4 = H3) I3 ⟨1, rfl, -1, rfl, rfl, rfl⟩) fun vs s4 ⟨o, H4, I4, ps, eo, e4⟩ => ?_
  subst eo e4
  obtain ⟨l', e5, hl'⟩ := IsPart.raw pl
  obtain ⟨u', e6, hu'⟩ := IsPart.raw pu
  obtain ⟨st', e7, hs'⟩ := IsPart.raw ps
  cases l' with
  | some _ => cases hl'
  | none =>
  cases u' with
  | some _ => cases hu'
  | none =>
  cases st' with
  | none => cases hs'
  | some st' =>
  obtain ⟨i, ti⟩ := st'
  obtain rfl : i = -1 := Option.some.inj hs'
  subst e5 e6 e7
  have I5 : Inv X pins σ H4 { s4 with heap := s4.heap.push { cls := .type "slice", data := .fields #[partValue none, partValue none, partValue (some (-1, ti))] } } := I4.kept (t' := s4.toks) fun b ob q => Heap.get?_push_of_some _ q
  refine tail_any (ops := [.str z t, .ref s4.heap.objs.size]) (typeIs_str _ _ _) F.slot_str_getitem.lookup ?_ (by with_unfolding_all rfl)
  refine wpAny_getItem_str_slice (l := none) (u := none) (st := some (-1, ti)) ⟨_, Heap.get?_push_size _ rfl, rfl, rfl⟩ rfl ?_
  show Made.post (if ((-1 : Int) == 1 && _) = true then Made.val (.str z t) else Made.str ⟨((Builtin.Str.strSliceIndices none none (-1) z.length).filterMap (z.cps[·]?)).toArray⟩) (EP X pins σ Q) _
  rw [if_neg (by simp), revS_ix]
  refine ⟨?_, .str _, H4, I5.tok _, ⟨_, rfl⟩, q⟩
  show z.cps.toList.reverse.toArray.size ≤ sizeLine
  rw [List.size_toArray, List.length_reverse, Array.length_toList]
  exact hz
def revD : D → Res D
  | .lst xs => .ok (.lst xs.reverse)
  | .str l => if l.length ≤ line then .ok (.str l.reverse) else .stuck
  | _ => .stuck
theorem RpL.rev {F : Hp} {vs : List V} {ds : List D} (r : RpL K mg F vs ds) : RpL K mg F vs.reverse ds.reverse := by
  induction r with
  | nil => exact .nil
  | cons a b ih => rw [List.reverse_cons, List.reverse_cons]; exact ih.append (.cons a .nil)
theorem de_rev {e : Expr} {fe : Sto → Res D} {k : Nat} {p1 p2 p3 pos : Pos} (he : DE T X W e fe) : DE T X W (.Subscript e (.Slice none none (some (.UnaryOp .USub (.Constant (.int 1) k p1) p2)) p3) pos) (un revD fe) :=
  weakE (PE.or (pe_revL he) (pe_revS he)) fun σ H Q ⟨F, δ, L, h⟩ => by
    unfold un at h
    cases ef : fe δ with
    | stuck => rw [ef] at h; exact (show False from h).elim
    | rs c => rw [ef] at h; exact .inl ⟨F, δ, L, by rw [ef]; exact h⟩
    | ok x =>
      rw [ef] at h
      cases x with
      | lst ds =>
        refine .inl ⟨F, δ, L, ?_⟩
        rw [ef]
        intro v F1 H1 s1 r1
        have L1 := L.step s1
        have h1 : PostE X.K X.mg T F1 H1 W Q (revD (.lst ds)) := PostE.shift h s1
        obtain ⟨p, us, rfl, e1, q⟩ := r1.lst_inv
        refine ⟨p, us, rfl, .of (L1.sub _ _ e1), fun z hz => ?_⟩
        have st := Step.new (o := .lst us.reverse) L1.gd hz
        exact h1 _ _ _ st (RpL.lst upd_same ((RpL.rev q).mono st.r))
      | str l =>
        refine .inr ⟨F, δ, L, ?_⟩
        rw [ef]
        intro v F1 H1 s1 r1
        have L1 := L.step s1
        have h1 : PostE X.K X.mg T F1 H1 W Q (revD (.str l)) := PostE.shift h s1
        obtain ⟨hl, h2⟩ := PostE.ite h1
        cases r1 with
        | @str a _ e0 =>
          refine ⟨a, rfl, by rw [TL.len_tl, e0]; exact Nat.le_trans hl line_le, h2.here L1.gd (.str ?_)⟩
          rw [← e0]
      | _ => exact (show False from h).elim
@[simp] theorem revD_lst {xs : List D} : revD (.lst xs) = .ok (.lst xs.reverse) := nrfl rfl
theorem revD_str {l : List Nat} (h : l.length ≤ line) : revD (.str l) = .ok (.str l.reverse) := if_pos h
/-! ### a def of the law with lambdas of its own: it never raises -/
def okO : Res D → Res D
  | .ok d => .ok d
  | _ => .stuck
@[simp] theorem okO_ok {d : D} : okO (.ok d) = .ok d := nrfl rfl
end
def FnQ (P : Program) (w : World) (K : PySem.W.Frag) (mg : Str → Option Value) (base : Heap) (T : List (Addr × Str)) (k : Nat) (x : Str) (ps : List Str) (g : List D → Res D) : Prop :=
  ∃ f fd, FnOk P w K mg base (L2N.CX P w) k f fd ps (spL K mg T g) ∧ PySem.W.keepIn K (.ref f) = true ∧ L2.Binds K fd ps [] ∧ mg x = some (.ref f)
section
variable {T : List (Addr × Str)} {X : Cx} {W : Wi} {K : PySem.W.Frag} {mg : Str → Option Value}
theorem spL_call {f : List D → Res D} {F H : Hp} {vs : List V} {ds : List D} {Q : VK} {E : XK} (gd : Gd T F H) (r : RpL K mg F vs ds) (h : PostE K mg T F H W Q (okO (f ds))) : spL K mg T f vs H Q E := by
  refine ⟨F, ds, gd, r, ?_⟩
  cases e : f ds with
  | ok d => rw [e] at h; exact ⟨d, rfl, h⟩
  | rs c => rw [e] at h; exact h.elim
  | stuck => rw [e] at h; exact h.elim
theorem de_callQ {k : Nat} {ps : List Str} {g : List D → Res D} {x : Str} {e : Expr} {es : List Expr} {p pos : Pos} {fa : Sto → Res (List D)} (G : FnQ X.prog X.w X.K X.mg X.base T k x ps g) (hr : Room k X.A) (tk : L2N.Takes X (wx X.mg W)) (ha : DA T X W (e :: es) fa)
    (hg : Gl X x := by rfl) (hdb : (x == ("__debug__" : Str)) = false := by decide) (he : starEach (e :: es) X.env = (false, eval e X.env) :: starEach es X.env := by rfl) (hpl : (backTo pos (starEach es X.env)).any (·.1) = false := by rfl) :
    DE T X W (.Call (.Name x p) (e :: es) [] pos) (app (fun xs => okO (g xs)) fa) := by
  obtain ⟨f, fd, Fn, hk, hb, hm⟩ := G
  exact weakE (pe_callS Fn hr hg hm hk hb (fun σ => L2N.passAt tk σ) ha hdb he hpl) fun σ H Q ⟨F, δ, L, h⟩ => bindA ppE L h fun ds vs F1 H1 s1 L1 r1 h1 => spL_call L1.gd r1 h1
end
end Dn


set_option Elab.async false
set_option linter.all false
set_option maxRecDepth 100000
set_option maxHeartbeats 4000000
namespace Dn
open PySem PySem.Spec PyProof.Rows L2
/-! ### sorted(e, key=lambda x: x // y % 2) -/
/-- the lambda's scope: one name of its own, one of the def around it -/
structure LamK (sc scope : Scope) (x y : Str) : Prop where
  kind : scope.kind = .function
  co : scope.isCoroutine = false
  gen : scope.isGenerator = false
  own : ∀ z ∈ scope.names, z.2 ≠ .cell
  lx : scope.names.lookup x = some .local
  ly : scope.names.lookup y = some .free
  ny : ∀ z ∈ scope.names, z.2 = .free → sc.names.lookup z.1 = some .cell
def lamKB (sc scope : Scope) (x y : Str) : Bool :=
  decide (scope.kind = .function) && !scope.isCoroutine && !scope.isGenerator && (scope.names.all fun z => !decide (z.2 = .cell) && (!decide (z.2 = .free) || decide (sc.names.lookup z.1 = some .cell))) && decide (scope.names.lookup x = some .local) && decide (scope.names.lookup y = some .free)
theorem lamK_by {sc scope : Scope} {x y : Str} (h : lamKB sc scope x y = true) : LamK sc scope x y := by
  unfold lamKB at h
  simp only [Bool.and_eq_true, Bool.or_eq_true, Bool.not_eq_true', decide_eq_true_eq, decide_eq_false_iff_not, List.all_eq_true] at h
  obtain ⟨⟨⟨⟨⟨h1, h2⟩, h3⟩, h4⟩, h5⟩, h6⟩ := h
  exact ⟨h1, h2, h3, fun z hz => (h4 z hz).1, h5, h6, fun z hz e => (h4 z hz).2.resolve_left fun n => n e⟩
def kyI (h n : Int) : Int := n / h % 2
section
variable {X : Cx} {pins : List (Addr × Obj)} {σ : L2.St} {H : Hp} {s : Shared}
theorem key_turn {A : Around} {x y : Str} {i : Nat} {hv : Int} {f c' : Addr} {pm ctv : Value} {params : Arguments} {scope : Scope} {p1 p2 p3 q1 q2 : Pos} {j : Nat} (I : Inv X pins σ H s) (Lk : LamK X.env.scope scope x y)
    (hf : s.heap.get? f = some (PySem.W.kla_obj "<lambda>" (X.env.qual ++ "<lambda>") params (.BinOp (.BinOp (.Name x p1) .FloorDiv (.Name y p2) q1) .Mod (.Constant (.int 2) j p3) q2) scope (cloFrom X.env.cells scope.names []) pm c' ctv))
    (hco : H c' = some (LamX.CodeO c' (X.env.qual ++ "<lambda>"))) (hN : X.N[i]? = some y) (hs : σ[i]? = some (some (.int hv))) (h0 : 0 < hv) (hw : CDivW 0 hv) (hd : A.depth < recursionLimit)
    (hbind : ∀ (q : Str) (cl : List (Str × Addr)) (pm cv ctv v : Value), bindArgs (PySem.W.kla_fn "<lambda>" q params (.BinOp (.BinOp (.Name x p1) .FloorDiv (.Name y p2) q1) .Mod (.Constant (.int 2) j p3) q2) scope cl pm cv ctv) ⟨[v], []⟩ = pure [(x, v)])
    (hdx : (x == ("__debug__" : Str)) = false) (hdy : (y == ("__debug__" : Str)) = false) (hcd : (y == ("__classdict__" : Str)) = false)
    (v : Value) (n : Int) (hR : ∃ t, v = .int n t) (h : Heap) (tk : Nat) (kp : ∀ b o, s.heap.get? b = some o → h.get? b = some o) :
    wpAny (model X.prog X.w) A (call (.ref f) [v]) (PySem.W.KeyPure (.int (kyI hv n)) { s with heap := h, toks := tk }) (fun _ _ => False) { s with heap := h, toks := tk } := by
  obtain ⟨t, rfl⟩ := hR
  obtain ⟨⟨oc, vs, tq, hoc, hdc, hvc⟩, _, _⟩ := I.hok c' _ hco
  refine wpAny_call ?_
  refine PySem.W.kla_callFunE hd (kp _ _ hf) rfl Lk.co Lk.gen rfl ⟨c', oc, vs, tq, rfl, kp _ _ hoc, hdc, hvc⟩ ?_
  rw [hbind]
  refine wpAny_pure (wpAny_newFunctionEnv Lk.own (fun z hz => by rw [List.mem_singleton.mp hz]; exact Lk.lx) (fun h1 hns hsb => ⟨(I.nolimit.keeps kp).fresh _ hsb, ?_⟩) Lk.kind)
  show codeAny _ _ (.expr _ (LamX.lamEnv X scope h.objs.size f c')) _ _
  have k1 : ∀ b o, h.get? b = some o → h1.get? b = some o := fun b o e => hsb.extBut b o (Nat.ne_of_lt (Heap.lt_size e)) (Heap.get?_push_of_some _ e)
  -- the cell
  have hvis : Vis X.env.scope y := .inr (.inl (Lk.ny _ (PySem.mem_of_lookup Lk.ly) rfl))
  obtain ⟨m, hn, hl⟩ := I.loc
  obtain ⟨u, ru, l⟩ := hl i y _ hN hs hvis
  obtain ⟨tu, rfl⟩ := ru
  have hkc : X.env.scope.names.lookup y = some .cell := Lk.ny _ (PySem.mem_of_lookup Lk.ly) rfl
  obtain ⟨c, hc, hcell⟩ : ∃ c, X.env.cells.lookup y = some c ∧ s.heap.IsCell c (some (.int hv tu)) := by
    rcases l with ⟨hk, _⟩ | ⟨_, c, hc, hcell⟩
    · have hk : X.env.scope.names.lookup y = some .local := hk
      rw [hkc] at hk; cases hk
    · exact ⟨c, hc, hcell⟩
  have hce : (cloFrom X.env.cells scope.names []).lookup y = some c := by
    obtain ⟨c2, h2⟩ := mem_lookup (cloFrom_has (cells := X.env.cells) (acc := []) (PySem.mem_of_lookup Lk.ly))
    rcases cloFrom_mem (PySem.mem_of_lookup h2) with hm | ⟨_, e⟩
    · cases hm
    · rw [h2, e, hc]; rfl
  have hcell1 : h1.IsCell c (some (.int hv tu)) := by
    obtain ⟨o, ho, hd⟩ := hcell
    exact ⟨o, k1 _ _ (kp _ _ ho), hd⟩
  refine PySem.W.kla_codeExpr ?_
  refine wpAny_BinOp (wpAny_BinOp ?_)
  refine wpAny_Name (wpAny_loadName_local Lk.kind Lk.lx hns (v := .int n t) (by simp [List.lookup]) ?_) hdx
  refine wpAny_Name (wpAny_loadName_free Lk.kind Lk.ly hce hcell1 ?_ hcd) hdy
  refine floordiv_int (by omega) ?_ (.inl (PyProof.noPylong_of_log2 hw.2))
  refine wpAny_Constant_int ?_
  refine mod_int' (by decide) ?_
  refine ⟨h1, _, rfl, k1, ?_⟩
  rw [Int.fdiv_eq_ediv_of_nonneg n (by omega), Int.fmod_eq_emod_of_nonneg _ (by decide)]
  exact .int _ _
end
end Dn


set_option Elab.async false
set_option linter.all false
set_option maxRecDepth 100000
set_option maxHeartbeats 4000000
namespace Dn
open PySem PySem.Spec PyProof.Rows L2
/-! ### a stable sort by a key of 0 and 1 -/
theorem two_parts {k : Int → Int} (hk : ∀ n, k n = 0 ∨ k n = 1) : ∀ {m : List Int}, m.Pairwise (fun a b => decide (k a ≤ k b) = true) → m = m.filter (fun n => k n == 0) ++ m.filter (fun n => k n == 1)
  | [], _ => rfl
  | x :: m, h => by
    obtain ⟨hx, hm⟩ := List.pairwise_cons.mp h
    have ih := two_parts hk hm
    rcases hk x with e | e
    · rw [List.filter_cons_of_pos (by rw [e]; rfl), List.filter_cons_of_neg (by rw [e]; decide), List.cons_append, ← ih]
    · have z : m.filter (fun n => k n == 0) = [] := List.filter_eq_nil_iff.mpr fun y hy => by
        have := of_decide_eq_true (hx y hy)
        rw [beq_iff_eq]; omega
      rw [z, List.nil_append] at ih
      rw [List.filter_cons_of_neg (by rw [e]; decide), List.filter_cons_of_pos (by rw [e]; rfl), z, List.nil_append, ← ih]
theorem sort2 {k : Int → Int} (hk : ∀ n, k n = 0 ∨ k n = 1) (l : List Int) : l.mergeSort (fun a b => decide (k a ≤ k b)) = l.filter (fun n => k n == 0) ++ l.filter (fun n => k n == 1) := by
  have tr : ∀ a b c : Int, decide (k a ≤ k b) = true → decide (k b ≤ k c) = true → decide (k a ≤ k c) = true := fun a b c h1 h2 => decide_eq_true (Int.le_trans (of_decide_eq_true h1) (of_decide_eq_true h2))
  have to : ∀ a b : Int, (decide (k a ≤ k b) || decide (k b ≤ k a)) = true := fun a b => by
    rw [Bool.or_eq_true, decide_eq_true_eq, decide_eq_true_eq]; omega
  have pm := List.mergeSort_perm l fun a b => decide (k a ≤ k b)
  have so := two_parts hk (List.pairwise_mergeSort tr to l)
  generalize hm : l.mergeSort (fun a b => decide (k a ≤ k b)) = m at *
  have fe : ∀ b : Int, m.filter (fun n => k n == b) = l.filter (fun n => k n == b) := fun b => by
    have sub : (l.filter fun n => k n == b).Sublist m := by
      rw [← hm]
      refine List.sublist_mergeSort tr to ?_ List.filter_sublist
      refine List.pairwise_of_forall_mem_list fun x hx y hy => ?_
      have e1 := (List.mem_filter.mp hx).2
      have e2 := (List.mem_filter.mp hy).2
      rw [beq_iff_eq] at e1 e2
      exact decide_eq_true (by omega)
    have s2 := sub.filter (fun n => k n == b)
    rw [List.filter_filter] at s2
    simp only [Bool.and_self] at s2
    exact (s2.eq_of_length (pm.filter _).length_eq.symm).symm
  rw [so, fe, fe]
theorem ky_two (h n : Int) : kyI h n = 0 ∨ kyI h n = 1 := by unfold kyI; omega
def srtKR (i : Nat) (δ : Sto) (x : D) : Res D := match x, δ[i]? with
  | .lst xs, some (.val (.int h)) => if 0 < h ∧ h < 2 ^ 200 then (match intsO xs with
    | some ns => .ok (.lst ((ns.filter (fun n => kyI h n == 0) ++ ns.filter (fun n => kyI h n == 1)).map .int))
    | none => .stuck) else .stuck
  | _, _ => .stuck
def srtK (fe : Sto → Res D) (i : Nat) : Sto → Res D := fun δ => (fe δ).bind (srtKR i δ)
theorem each_ints : ∀ {ns : List Int} {its : List Value}, Vals (ns.map V.int) its → PySem.W.EachIs (fun v n => ∃ t, v = .int n t) its ns
  | [], _, .nil => .nil
  | n :: ns, _, .cons r rs => .cons r (each_ints rs)
theorem vals_each : ∀ {its : List Value} {ns : List Int}, PySem.W.EachIs (fun v n => ∃ t, v = .int n t) its ns → Vals (ns.map V.int) its
  | _, _, .nil => .nil
  | _, _, .cons r rs => .cons r (vals_each rs)
section
variable {T : List (Addr × Str)} {X : Cx} {W : Wi}
theorem de_sortK {k : Nat} {c P' : Addr} {x y : Str} {i : Nat} {params : Arguments} {scope : Scope} {e : Expr} {fe : Sto → Res D} {p lpos pos kpos p1 p2 p3 q1 q2 : Pos} {j : Nat}
    (hm : X.mg "sorted" = none) (he : DE T X W e fe)
    (TB : LamX.TabB X.base X.mg c P') (hcode : X.env.code = .ref c) (hmT : (P', X.env.qual ++ "<lambda>") ∈ T) (hu : ∀ p ∈ T, p.1 = P' → p.2 = X.env.qual ++ "<lambda>") (hr : Room k X.A) (Lk : LamK X.env.scope scope x y) (hN : X.N[i]? = some y)
    (hdef : defaultsOf params X.env = ([], []) := by rfl)
    (hbind : ∀ (q : Str) (cl : List (Str × Addr)) (pm cv ctv v : Value), bindArgs (PySem.W.kla_fn "<lambda>" q params (.BinOp (.BinOp (.Name x p1) .FloorDiv (.Name y p2) q1) .Mod (.Constant (.int 2) j p3) q2) scope cl pm cv ctv) ⟨[v], []⟩ = pure [(x, v)] := by intros; rfl)
    (hg : Gl X "sorted" := by rfl) (hdx : (x == ("__debug__" : Str)) = false := by decide) (hdy : (y == ("__debug__" : Str)) = false := by decide) (hcd : (y == ("__classdict__" : Str)) = false := by decide)
    (hs : starEach [e] X.env = (false, eval e X.env) :: starEach [] X.env := by rfl)
    (he' : backTo pos (starEach [e] X.env) = (false, eval e X.env) :: backTo pos (starEach [] X.env) := by rfl) (hpl : (backTo pos (starEach [e] X.env)).any (·.1) = false := by rfl) :
    DE T X W (.Call (.Name "sorted" p) [e] [⟨some "key", .Lambda params (.BinOp (.BinOp (.Name x p1) .FloorDiv (.Name y p2) q1) .Mod (.Constant (.int 2) j p3) q2) scope lpos, kpos⟩] pos) (srtK fe i) := by
  refine ⟨fun pins s σ H Q I h => ?_⟩
  obtain ⟨F, δ, L, h⟩ := h
  refine wpAny_Call_Name_kw (ld_blt I hg hm (u := .builtin "sorted") (by decide +kernel) ?_)
  refine PyProof.Rows.callWith_kw (thn ((pa_cons he pa_nil hs).run pos pins s σ H (fun vs H1 => ∃ v F1 x, vs = [v] ∧ Lcl X.K X.mg T F1 H1 σ δ ∧ Rp X.K X.mg F1 v x ∧ PostE X.K X.mg T F1 H1 W Q (srtKR i δ x)) I (bindE ppE L h fun x v F1 H1 s1 L1 r1 h1 => ⟨v, F1, x, rfl, L1, r1, h1⟩)) fun us s1 ⟨vs, H1, I1, rv, v, F1, d, ev, L1, r1, h1⟩ => ?_) he' hpl rfl rfl
  subst ev
  show wpAny _ _ (evalAll [do let v ← eval (.Lambda params _ scope lpos) X.env; standAt pos; pure v]) _ _ s1
  have hfree : ∀ z ∈ scope.names, z.2 = .free → ∃ c, X.env.cells.lookup z.1 = some c := fun z hz e => I1.ok.has _ (.inl (Lk.ny z hz e))
  refine wpAny_evalAll_cons (wpAny_bind (LamX.lam_make2 I1 TB hcode hmT hu L1.tabs hdef hfree fun f c' pm' ctv H2 s2 I2 eN T2 hf hfn hfr hco => wpAny_bind (wpAny_standAt (wpAny_pure (wpAny_evalAll_nil ?_)))))
  have hT0 : T ≠ [] := fun z => by rw [z] at hmT; cases hmT
  have st1 : Step T F1 H1 F1 H2 := by
    refine ⟨.refl F1, ⟨fun a o e => eN a o (L1.sub a o e) fun ps z => L1.gd.ntb a ps (by rw [← z]; exact e), T2, L1.gd.ntb⟩, fun a o n e c => eN a o e (c.resolve_left hT0), fun a o n e v => ⟨n, ?_⟩⟩
    rcases v with v | v | ⟨q, v⟩
    · exact (hT0 v).elim
    · exact ⟨o, eN a o e v, .inr (.inl v)⟩
    · obtain ⟨ps, e1, _⟩ := T2 _ v
      exact ⟨_, e1, .inr (.inr ⟨q, v⟩)⟩
  have L2 := L1.step st1
  have h2 := PostE.shift h1 st1
  unfold srtKR at h2
  split at h2
  · rename_i xs hv eδ
    obtain ⟨hh, h3⟩ := PostE.ite h2
    cases ei : intsO xs with
    | none => rw [ei] at h3; exact h3.elim
    | some ns =>
      rw [ei] at h3
      obtain ⟨a, vs', rfl, e1, rr⟩ := r1.lst_inv
      have exs := ints_eq ei
      subst exs
      have evs := RpL.ints rr
      subst evs
      obtain ⟨ov, es, v, ev, rvv⟩ := L2.slot i _ eδ
      subst ev
      cases rvv
      have eus := Vals.ref1 rv
      subst eus
      obtain ⟨its, rI, ht, hz⟩ := I2.list (.of (L2.sub _ _ e1))
      have hlen : its.length = ns.length := by rw [← rI.length, List.length_map]
      have hr2 : X.A.in1.in1.depth < recursionLimit := by have := hr.dp; show X.A.depth < recursionLimit; omega
      show wpAny _ _ (call (.builtin "sorted") [.ref a] [(Str.ofString "key", .ref f)]) _ _ s2
      refine PySem.W.sorted_key_data (b := false) (vs := its) (bs := ns) (R := fun v n => ∃ t, v = .int n t) (fun n => .int (kyI hv n)) ht.isList (each_ints rI) (PySem.W.AllAlike.of fun _ _ => rfl) (.inr fun d hd => ?_) (by rw [List.length_map] at hz; exact hz) (fun n _ => ?_) (ksk_s1 _ _) (fun _ => ksk_l1 _ _) (fun _ => ksk_t1 _ _)
        (fun v n hR _ h tk kp => key_turn I2 Lk hf hco hN es hh.1 ?_ hr2 hbind hdx hdy hcd v n hR h tk kp) fun out cc h' tk kp fresh hD hlo eo => ?_
      · obtain ⟨n, _, rfl⟩ := List.mem_map.mp hd
        exact ⟨(by intro z; cases z), (by intro xs z; cases z)⟩
      · have := hr.un
        show X.A.units + 2 + 0 < cLine
        omega
      · exact wide_div (i := 0) hh.1 (b := 200) (by have := hh.1; have := hh.2; omega) (by decide) (by decide)
      · rw [PySem.W.dataLe_int, sort2 (ky_two hv)] at eo
        have st2 := Step.new (o := .lst ((ns.filter (fun n => kyI hv n == 0) ++ ns.filter (fun n => kyI hv n == 1)).map V.int)) L2.gd (I2.hok.fresh (Nat.le_succ _))
        refine ⟨.ref _, _, I2.laid (t' := tk) (o := .lst ((ns.filter (fun n => kyI hv n == 0) ++ ns.filter (fun n => kyI hv n == 1)).map V.int)) kp (Nat.le_succ _) ⟨?_, out, cc, vals_each eo, hD⟩, rfl, h3 _ _ _ st2 (RpL.lst upd_same (RpL.of_ints _))⟩
        rw [List.length_map, ← eo.length, hlo]
        rw [List.length_map] at hz
        exact hz
  · exact h2.elim
end
end Dn


set_option Elab.async false
set_option linter.all false
set_option maxRecDepth 100000
set_option maxHeartbeats 4000000
namespace Dn
open PySem PySem.Spec PyProof.Rows L2
/-! ### defs that hold lambdas -/
structure Lm (base : Heap) (mg : Str → Option Value) (T : List (Addr × Str)) (c P' : Addr) (q : Str) : Prop where
  TB : LamX.TabB base mg c P'
  hm : (P', q) ∈ T
  hu : ∀ p ∈ T, p.1 = P' → p.2 = q
def lamQ (x : Str) : Str := (x ++ ".<locals>.") ++ "<lambda>"
/-- a def at f with its code object at c and its table at P' -/
structure FnL (K : PySem.W.Frag) (mg : Str → Option Value) (base : Heap) (T : List (Addr × Str)) (x : Str) (st : Stmt) (ps : List Str) (f c P' : Addr) (oc : Value) (od an : Option Addr) (osl : Array (Option Value)) (kV doc pm ct : Value) : Prop where
  lk : K.lookup f = some ⟨oc, od, .func (PySem.W.fnOf x x (defArgs st) (defBody st) (defScope st) .none kV doc pm an (.ref c) ct), osl⟩
  cd : PySem.W.codeIn K (.ref c) x = true
  kp : PySem.W.keepIn K (.ref f) = true
  b : L2.Binds K (PySem.W.fnOf x x (defArgs st) (defBody st) (defScope st) .none kV doc pm an (.ref c) ct) ps []
  g : mg x = some (.ref f)
  m : Lm base mg T c P' (lamQ x)
def FnLam (K : PySem.W.Frag) (mg : Str → Option Value) (base : Heap) (T : List (Addr × Str)) (x : Str) (st : Stmt) (ps : List Str) : Prop :=
  ∃ f c P' oc od an osl kV doc pm ct, FnL K mg base T x st ps f c P' oc od an osl kV doc pm ct
section
variable {P : Program} {w : World} {K : PySem.W.Frag} {mg : Str → Option Value} {base : Heap} {T : List (Addr × Str)}
theorem fnQ {x : Str} {st : Stmt} {N ps : List Str} {k : Nat} {fb : Sto → Out} (n m : Nat) (Fn : FnLam K mg base T x st ps) (S : FnScope N ps (defScope st)) (hps : ps.length = n) (hN : N.length = n + m)
    (hbody : ∀ (f c P' : Addr), Lm base mg T c P' (lamQ x) → ∀ (A : Around) (outer : List Env) (s : Shared) (H : Hp) (E : XK), Room k (A.deeper (envOfC x (defScope st) s.heap.objs.size f (.ref c))) →
      DSs T (cxOf (L2N.CX P w) P w K mg base N x (defScope st) f (.ref c) A outer s H E) (fun c H => E (clsOf mg c) none H) (defBody st) fb) : FnQ P w K mg base T (k + 1) x ps (runF n m fb) := by
  obtain ⟨f, c, P', oc, od, an, osl, kV, doc, pm, ct, L⟩ := Fn
  exact ⟨f, _, fnL n m L.lk L.cd S hps hN (hbody f c P' L.m), L.kp, L.b, L.g⟩
/-- a def without lambdas of its own that calls such -/
theorem fnV {x : Str} {st : Stmt} {N ps : List Str} {k : Nat} {fb : Sto → Out} (n m : Nat) (Fn : FnT K mg x st ps) (S : FnScope N ps (defScope st)) (hps : ps.length = n) (hN : N.length = n + m)
    (hbody : ∀ (f : Addr) (cdv : Value) (A : Around) (outer : List Env) (s : Shared) (H : Hp) (E : XK), Room k (A.deeper (envOfC x (defScope st) s.heap.objs.size f cdv)) →
      DSs T (cxOf (L2N.CX P w) P w K mg base N x (defScope st) f cdv A outer s H E) (fun c H => E (clsOf mg c) none H) (defBody st) fb) : FnQ P w K mg base T (k + 1) x ps (runF n m fb) := by
  obtain ⟨f, fd, F, b, g⟩ := Fn
  obtain ⟨oc, od, kV, doc, pm, an, cdv, ct, osl, efd, lk, hcd⟩ := F.ex
  subst efd
  exact ⟨f, _, fnL n m lk hcd S hps hN (hbody f cdv), F.kp, b, g⟩
end
/-! ### the end with many tables -/
theorem walk_ofOwns {l : PySem.W.OpenLaw} {n k : Nat} {q : Program} {loose : List Str} {XP : (Str → Option Value) → Heap → Prop} {YP : World → Heap → Prop} {d : DefRec} {K : Params → PySem.W.Frag} {CX : World → CXT} {x : Str} (xs : List Str)
    (hn : l.most = some n) (hn2 : n ≤ sizeLine) (hdf : d.params.defaults = []) (hr : Room k callerA) (hrec : (xs.all fun y => (recsOf q).any fun e => e.name == y) = true) (hY : ∀ (w : World) (h : Heap), YP w h → (K w.params).In h)
    (F : ∀ (w : World) (mg : Str → Option Value) (fa : Addr) (h : Heap), YP w h → (K w.params).In h → h.Ns mainGlobals mg → mg d.name = some (.ref fa) → (∀ y ∈ xs, ∀ fa', mg y = some (.ref fa') → LamX.OwnTab (K w.params) fa' h) → LamX.LawAtS l w (K w.params) (CX w) k n x mg fa h)
    (hCX : ∀ (w : World) (H : Hp) (s : Shared) (e : Value) (s' : Shared), CX w [] H s (fun _ _ _ => False) e s' → False) :
    PySem.W.WalkO q loose XP YP l.row.toRowW d [] (fun f vs => PySem.call f vs) := by
  refine Att.attach_callB hn hdf fun w s₀ s₁ mg mb fa o pm cd doc a vs ns G Y ho hd hcd hmg hobj hints hlen hbits hg => ?_
  have KX := hY w _ Y
  have own : ∀ y ∈ xs, ∀ fa', mg y = some (.ref fa') → LamX.OwnTab (K w.params) fa' s₁.heap := fun y hy fa' hfa' c P o1 fd1 e dd vs1 sl k1 k2 k3 k4 k5 => by
    obtain ⟨dL, hm, hn1⟩ := List.any_eq_true.mp (List.all_eq_true.mp hrec y hy)
    have hn2 : dL.name = y := beq_iff_eq.mp hn1
    obtain ⟨a', o', fd', c', P', h1, h2, h3, h4, h5, h6⟩ := G.T.tab dL hm
    rw [hn2, hfa'] at h1
    cases h1
    have g1 := KX _ _ k1
    rw [g1] at h2
    cases h2
    rw [k2] at h3
    cases h3
    rw [k3] at h4
    cases h4
    obtain ⟨⟨oc, vc, e1, _, e3, e4⟩, hP⟩ := h6
    have g2 := KX _ _ k4
    rw [g2] at e1
    cases e1
    cases e3
    rw [k5] at e4
    cases e4
    exact hP
  obtain ⟨fd, cs, sp, hT, nT, C, hb, hsp, hF⟩ := F w mg fa _ Y KX G.T.g hmg own
  exact LamX.law_callTs KX G.T.g G.T.b G.T.builtins G.T.nolimit hg hT nT C G.T.bmain hobj hints (Nat.le_trans hlen hn2) hr hF hb (fun H hH hS => hsp H a ns hlen hbits hH hS) fun H e s' => hCX w H s₁ e s'
/-- a table of a def, as the written part tells it -/
structure TabK (K : PySem.W.Frag) (h : Heap) (c P' : Addr) : Prop where
  e : h.get? P' = some { cls := .none, data := .fields #[] }
  n : K.lookup P' = none
  c : PySem.W.CodeHd h c P'
theorem tabK_mk {K : PySem.W.Frag} {h : Heap} {mg : Str → Option Value} {x : Str} {st : Stmt} {f c P' : Addr} {oc : Value} {od an : Option Addr} {osl : Array (Option Value)} {kV doc pm ct : Value} {e : Value} {dd : Option Addr} {vs : Array Value} {sl : Array (Option Value)}
    (X : K.In h) (own : LamX.OwnTab K f h) (lk : K.lookup f = some ⟨oc, od, .func (PySem.W.fnOf x x (defArgs st) (defBody st) (defScope st) .none kV doc pm an (.ref c) ct), osl⟩)
    (lc : K.lookup c = some ⟨e, dd, .fields vs, sl⟩) (h11 : vs[11]? = some (.ref P')) (hd : PySem.W.codeHdIn K c P' = true) (np : K.lookup P' = none) : TabK K h c P' :=
  ⟨own c P' _ _ _ _ _ _ lk rfl rfl lc h11, np, PySem.W.codeHd_of_K X hd⟩
theorem law_atN {l : PySem.W.OpenLaw} {w : World} {K : PySem.W.Frag} {k : Nat} {mg : Str → Option Value} {fa f : Addr} {h : Heap} {st : Stmt} {cdv : Value} {an : Option Addr} {kV doc pm ct : Value} {d : List D → Res D}
    (cs : List (Addr × Addr)) (T : List (Addr × Str)) (hT : ∀ p ∈ T, ∃ q ∈ cs, q.2 = p.1) (X : K.In h) (G : h.Ns mainGlobals mg) (hfa : mg "law" = some (.ref fa)) (a : PySem.W.nsIn K mainGlobals "law" = some (some (.ref f)))
    (tb : ∀ p ∈ cs, TabK K h p.1 p.2)
    (hb : ∀ (s : Shared) (u : Value), BindsTo s (PySem.W.fnOf "law" "law" (defArgs st) (defBody st) (defScope st) .none kV doc pm an cdv ct) ⟨[u], []⟩ [("script", u)])
    (hm : ∀ ns : List Int, ns.length ≤ 63 → (∀ z ∈ ns, Builtin.Int.intBits z ≤ 1048576) → d [.scr ns] = .ok (.bl true))
    (hF : ∀ base : Heap, K.In base → base.Ns mainGlobals mg → (∀ p ∈ cs, LamX.TabB base mg p.1 p.2) → FnOk l.prog w K mg base (L2N.CX l.prog w) k f (PySem.W.fnOf "law" "law" (defArgs st) (defBody st) (defScope st) .none kV doc pm an cdv ct) ["script"] (spL K mg T d)) :
    LamX.LawAtS l w K (L2N.CX l.prog w) k 63 "script" mg fa h := by
  have e := hfa.symm.trans (PySem.W.mg_of X G a)
  cases e
  refine ⟨_, cs, spL K mg T d, fun p hp => (tb p hp).e, fun p hp => (tb p hp).n, fun p hp => (tb p hp).c, hb, fun H a ns hl hbits hH hS => ?_, fun base KX G' TB => hF base KX G' TB⟩
  refine law_start (fun p hp => ?_) hS (hm ns hl hbits)
  obtain ⟨q, hq, e⟩ := hT p hp
  rw [← e]
  exact hH q hq
theorem lm_mk {base : Heap} {mg : Str → Option Value} {cs : List (Addr × Addr)} {T : List (Addr × Str)} {c P' : Addr} {q : Str} (nd : (T.map (·.1)).Nodup) (TB : ∀ p ∈ cs, LamX.TabB base mg p.1 p.2) (hc : (c, P') ∈ cs) (hT : (P', q) ∈ T) : Lm base mg T c P' q := by
  refine ⟨TB _ hc, hT, fun p hp e => ?_⟩
  have : ∀ {T : List (Addr × Str)}, (T.map (·.1)).Nodup → ∀ {p r : Addr × Str}, p ∈ T → r ∈ T → p.1 = r.1 → p = r := by
    intro T nd
    induction T with
    | nil => intro p r hp; cases hp
    | cons t T ih =>
      intro p r hp hr e
      rw [List.map_cons, List.nodup_cons] at nd
      rcases List.mem_cons.mp hp with e1 | hp'
      · rcases List.mem_cons.mp hr with e2 | hr'
        · rw [e1, e2]
        · exact (nd.1 (List.mem_map.mpr ⟨r, hr', by rw [← e, e1]⟩)).elim
      · rcases List.mem_cons.mp hr with e2 | hr'
        · exact (nd.1 (List.mem_map.mpr ⟨p, hp', by rw [e, e2]⟩)).elim
        · exact ih nd.2 hp' hr' e
  have := this nd hp hT e
  rw [this]
end Dn


set_option Elab.async false
set_option linter.all false
set_option maxRecDepth 100000
set_option maxHeartbeats 4000000
namespace Dn
open PySem PySem.Spec PyProof.Rows L2
section
variable {T : List (Addr × Str)} {X : Cx} {W : Wi} {K : PySem.W.Frag} {mg : Str → Option Value}
/-! ### in, not in: a sign in a text, a flat thing in a list -/
def inA (x : D) : D → Res D
  | .lst ds => if flatD x = true ∧ ds.all flatD = true then .ok (.bl (ds.any fun y => eqFD y x)) else .stuck
  | y => inD x y
def ninA (x : D) : D → Res D
  | .lst ds => if flatD x = true ∧ ds.all flatD = true then .ok (.bl (!(ds.any fun y => eqFD y x))) else .stuck
  | y => ninD x y
theorem inV_rp {F : Hp} {v : V} {x : D} (rv : Rp K mg F v x) (hx : flatD x = true) : ∀ {us : List V} {ds : List D}, RpL K mg F us ds → ds.all flatD = true → inV v us = ds.any fun y => eqFD y x
  | _, _, .nil, _ => rfl
  | _, _, .cons r t, h => by
    rw [List.all_cons, Bool.and_eq_true] at h
    show (eqV _ v || inV v _) = (eqFD _ x || _)
    rw [inV_rp rv hx t h.2, eqF_rp r rv h.1 hx]
theorem r_inA {neg : Bool} {g : D → D → Res D} (hg : ∀ x ds, g x (.lst ds) = if flatD x = true ∧ ds.all flatD = true then .ok (.bl (if neg then !(ds.any fun y => eqFD y x) else ds.any fun y => eqFD y x)) else .stuck) {F H : Hp} {v u : V} {x : D} {ds : List D} {W : Wi} {Q : VK} (gd : Gd T F H) (rv : Rp K mg F v x) (ru : Rp K mg F u (.lst ds)) (h : PostE K mg T F H W Q (g x (.lst ds))) : rIn K neg v u H Q := by
  rw [hg] at h
  obtain ⟨⟨h1, h2⟩, h3⟩ := PostE.ite h
  obtain ⟨p, us, rfl, e1, q⟩ := ru.lst_inv
  refine ⟨p, us, rfl, .inl (.of (gd.sub _ _ e1)), flat_rp rv h1, all_flat q h2, ?_⟩
  rw [inV_rp rv h1 q h2]
  exact h3.here gd (.bl _)
theorem op_inA : OpR X (compareOp .In) (fun x y H Q => (∃ (c : Nat) (z : Str), x = .str ⟨#[c]⟩ ∧ y = .str z ∧ Q (.bl (decide (c ∈ z.cps.toList))) H) ∨ rIn X.K false x y H Q) := op_in_sign.or op_in_seq
theorem op_ninA : OpR X (compareOp .NotIn) (fun x y H Q => (∃ (c : Nat) (z : Str), x = .str ⟨#[c]⟩ ∧ y = .str z ∧ Q (.bl (!decide (c ∈ z.cps.toList))) H) ∨ rIn X.K true x y H Q) := op_notIn_sign.or op_notIn_seq
theorem r_inB : R2D K mg T (fun x y H Q => (∃ (c : Nat) (z : Str), x = .str ⟨#[c]⟩ ∧ y = .str z ∧ Q (.bl (decide (c ∈ z.cps.toList))) H) ∨ rIn K false x y H Q) inA := by
  intro F H v u x y W Q gd rv ru h
  cases y with
  | lst ds => exact .inr (r_inA (neg := false) (g := inA) (fun x ds => rfl) gd rv ru h)
  | _ => exact .inl (r_in F H v u x _ W Q gd rv ru h)
theorem r_ninB : R2D K mg T (fun x y H Q => (∃ (c : Nat) (z : Str), x = .str ⟨#[c]⟩ ∧ y = .str z ∧ Q (.bl (!decide (c ∈ z.cps.toList))) H) ∨ rIn K true x y H Q) ninA := by
  intro F H v u x y W Q gd rv ru h
  cases y with
  | lst ds => exact .inr (r_inA (neg := true) (g := ninA) (fun x ds => rfl) gd rv ru h)
  | _ => exact .inl (r_nin F H v u x _ W Q gd rv ru h)
/-! ### a, b, c, d = e -/
def tgU4 (i j k l : Nat) : D → Sto → Option Sto
  | .tup [a, b, c, d], δ => some ((((δ.set i (.val a)).set j (.val b)).set k (.val c)).set l (.val d))
  | _, _ => none
theorem RpL.four {F : Hp} {vs : List V} {a b c d : D} (r : RpL K mg F vs [a, b, c, d]) : ∃ v1 v2 v3 v4, vs = [v1, v2, v3, v4] ∧ Rp K mg F v1 a ∧ Rp K mg F v2 b ∧ Rp K mg F v3 c ∧ Rp K mg F v4 d := by
  cases r with
  | cons r1 t =>
    cases t with
    | cons r2 t =>
      obtain ⟨v3, v4, rfl, r3, r4⟩ := RpL.two t
      exact ⟨_, _, _, _, rfl, r1, r2, r3, r4⟩
theorem ds_unp4 {x1 x2 x3 x4 : Str} {e : Expr} {fe : Sto → Res D} {kk : Nat} {p1 p2 p3 p4 tpos pos : Pos} (i j k l : Nat) (hN : X.N.Nodup) (hc : X.calm = true) (he : DE T X W e fe) (hi : X.N[i]? = some x1 := by rfl) (hx : L2.Loc X.env.scope x1 := by first | exact Or.inl rfl | exact Or.inr rfl) (hj : X.N[j]? = some x2 := by rfl) (hy : L2.Loc X.env.scope x2 := by first | exact Or.inl rfl | exact Or.inr rfl)
    (hk : X.N[k]? = some x3 := by rfl) (hz : L2.Loc X.env.scope x3 := by first | exact Or.inl rfl | exact Or.inr rfl) (hl : X.N[l]? = some x4 := by rfl) (hw' : L2.Loc X.env.scope x4 := by first | exact Or.inl rfl | exact Or.inr rfl)
    (hf : X.fn x1 = true ∨ X.env.scope.names.lookup x1 = some .local := by first | exact .inl rfl | exact .inr rfl | assumption) (hf2 : X.fn x2 = true ∨ X.env.scope.names.lookup x2 = some .local := by first | exact .inl rfl | exact .inr rfl | assumption)
    (hf3 : X.fn x3 = true ∨ X.env.scope.names.lookup x3 = some .local := by first | exact .inl rfl | exact .inr rfl | assumption) (hf4 : X.fn x4 = true ∨ X.env.scope.names.lookup x4 = some .local := by first | exact .inl rfl | exact .inr rfl | assumption)
    (hs1 : (assignEach ((.Name x1 p1) :: [.Name x2 p2, .Name x3 p3, .Name x4 p4]) X.env).map (·.2) = assign (.Name x1 p1) X.env :: (assignEach [.Name x2 p2, .Name x3 p3, .Name x4 p4] X.env).map (·.2) := by rfl) (hs2 : (assignEach ((.Name x2 p2) :: [.Name x3 p3, .Name x4 p4]) X.env).map (·.2) = assign (.Name x2 p2) X.env :: (assignEach [.Name x3 p3, .Name x4 p4] X.env).map (·.2) := by rfl)
    (hs3 : (assignEach ((.Name x3 p3) :: [.Name x4 p4]) X.env).map (·.2) = assign (.Name x3 p3) X.env :: (assignEach [.Name x4 p4] X.env).map (·.2) := by rfl) (hs4 : (assignEach ((.Name x4 p4) :: []) X.env).map (·.2) = assign (.Name x4 p4) X.env :: (assignEach [] X.env).map (·.2) := by rfl)
    (hn : (assignEach [.Name x1 p1, .Name x2 p2, .Name x3 p3, .Name x4 p4] X.env).length = 4 := by rfl) (hst : (assignEach [.Name x1 p1, .Name x2 p2, .Name x3 p3, .Name x4 p4] X.env).findIdx? (·.1) = none := by rfl)
    (hs5 : swapsWithSole [.Tuple [.Name x1 p1, .Name x2 p2, .Name x3 p3, .Name x4 p4] kk tpos] e pos.line X.env = pure false := by rfl) (hw : swappedStores [.Tuple [.Name x1 p1, .Name x2 p2, .Name x3 p3, .Name x4 p4] kk tpos] e X.env = pure none := by rfl)
    (h1 : (assignEach [.Tuple [.Name x1 p1, .Name x2 p2, .Name x3 p3, .Name x4 p4] kk tpos] X.env).map (·.2) = [assign (.Tuple [.Name x1 p1, .Name x2 p2, .Name x3 p3, .Name x4 p4] kk tpos) X.env] := by rfl) :
    DS T X W (.Assign [.Tuple [.Name x1 p1, .Name x2 p2, .Name x3 p3, .Name x4 p4] kk tpos] e pos) (asgU (tgU4 i j k l) fe) :=
  weakS (ps_asg he (pg_tup hc (pgs_cons (pg_name (i := i) hN hi hx hf) (pgs_cons (pg_name (i := j) hN hj hy hf2) (pgs_cons (pg_name (i := k) hN hk hz hf3) (pgs_cons (pg_name (i := l) hN hl hw' hf4) pgs_nil hs4) hs3) hs2) hs1) hn hst) hs5 hw h1) fun D' σ H ⟨F0, H0, F, δ, S, h⟩ => by
    refine outE S h fun d v F1 H1 r1 S1 rd h1 => ?_
    unfold tgU4 at h1
    split at h1
    · rename_i δ' z
      split at z
      · cases z
        obtain ⟨p, vs, rfl, e1, q⟩ := rd.tup_inv
        obtain ⟨v1, v2, v3, v4, rfl, r1, r2, r3, r4⟩ := RpL.four q
        exact ⟨p, [v1, v2, v3, v4], rfl, .of (S1.loc.sub _ _ e1), rfl, v1, [v2, v3, v4], rfl, v2, [v3, v4], rfl, v3, [v4], rfl, v4, [], rfl, rfl, h1 _ F1 H1 (.refl F1) ((((S1.setVal r1).setVal r2).setVal r3).setVal r4)⟩
      · cases z
    · exact h1.elim
@[simp] theorem tgU4_tup {i j k l : Nat} {a b c d : D} {δ : Sto} : tgU4 i j k l (.tup [a, b, c, d]) δ = some ((((δ.set i (.val a)).set j (.val b)).set k (.val c)).set l (.val d)) := nrfl rfl
end
end Dn


set_option Elab.async false
set_option linter.all false
set_option maxRecDepth 100000
set_option maxHeartbeats 4000000
namespace Dn
open PySem PySem.Spec PyProof.Rows L2
/-! ### what stands beside a store: cells of the heap that are not frozen -/
def Own (σ : L2.St) (δ : Sto) (a : Addr) : Prop := ∃ (i : Nat) (s : Slot), δ[i]? = some s ∧ s.owned = true ∧ σ[i]? = some (some (.ref a))
open Classical in
/-- the heap without the lists that the store owns -/
noncomputable def hide (σ : L2.St) (δ : Sto) (H : Hp) : Hp := fun a => if Own σ δ a then none else H a
def NoIns (δ : Sto) : Prop := ∀ (i : Nat) c fs, δ[i]? ≠ some (.ins c fs)
section
variable {K : PySem.W.Frag} {mg : Str → Option Value} {T : List (Addr × Str)} {F0 H0 F H F' H' : Hp} {σ σ' : L2.St} {δ δ' : Sto} {W : Wi} {D' : Ends}
theorem hide_own {a : Addr} (h : Own σ δ a) : hide σ δ H a = none := by unfold hide; rw [if_pos h]
theorem hide_ne {a : Addr} (h : ¬ Own σ δ a) : hide σ δ H a = H a := by unfold hide; rw [if_neg h]
theorem hide_some {a : Addr} {o : HO} (h : hide σ δ H a = some o) : ¬ Own σ δ a ∧ H a = some o := by
  by_cases q : Own σ δ a
  · rw [hide_own q] at h; cases h
  · rw [hide_ne q] at h; exact ⟨q, h⟩
theorem Lcl.own_at (L : Lcl K mg T F H σ δ) (hn : NoIns δ) {a : Addr} (h : Own σ δ a) : F a = none ∧ ∃ vs, H a = some (.lst vs) := by
  obtain ⟨i, s, e, o, q⟩ := h
  obtain ⟨ov, q1, ok⟩ := L.slot i s e
  rw [q] at q1; cases q1
  cases s with
  | no => cases o
  | val d => cases o
  | own ds =>
    obtain ⟨b, vs, e1, n, hH, r⟩ := ok
    cases e1
    exact ⟨n, vs, hH⟩
  | ins c fs => exact (hn i c fs e).elim
theorem Lcl.step_hide (L : Lcl K mg T F H σ δ) (hn : NoIns δ) : Step T F (hide σ δ H) F H :=
  ⟨.refl F, L.gd, fun a o _ e _ => (hide_some e).2, fun a o n e v => ⟨n, o, (hide_some e).2, v⟩⟩
theorem Lcl.str (L : Lcl K mg T F H σ δ) (hn : NoIns δ) : StR K mg T F (hide σ δ H, 0) F H σ δ := by
  refine ⟨fun a o e => ?_, L.step_hide hn, L, fun i s a e o q => ⟨.of (hide_own ⟨i, s, e, o, q⟩), fun C dx gs z => ?_⟩⟩
  · have hno : ¬ Own σ δ a := fun z => by rw [(L.own_at hn z).1] at e; cases e
    show hide σ δ H a = some o
    rw [hide_ne hno]
    exact L.sub a o e
  · obtain ⟨_, vs, e2⟩ := L.own_at hn ⟨i, s, e, o, q⟩
    rw [e2] at z; cases z
/-- a state since an entry -/
structure En (K : PySem.W.Frag) (mg : Str → Option Value) (T : List (Addr × Str)) (F0 H0 F H : Hp) (σ : L2.St) (δ : Sto) : Prop where
  sub0 : Sub F0 H0
  st : Step T F0 H0 F H
  L : Lcl K mg T F H σ δ
  ni : NoIns δ
  fr : ∀ a, Own σ δ a → Fr0 T H0 a
theorem En.of_str {H0' : Hp × Addr} (S : StR K mg T F0 H0' F H σ δ) (ni : NoIns δ) : En K mg T F0 H0'.1 F H σ δ := ⟨S.sub0, S.st, S.loc, ni, fun a ⟨i, s, e, o, q⟩ => (S.fresh i s a e o q).1⟩
theorem fr0_back (sub0 : Sub F0 H0) (s : Step T F0 H0 F H) (ho : ∀ a, Own σ δ a → Fr0 T H0 a) {a : Addr} (h : Fr0 T (hide σ δ H) a) : Fr0 T H0 a := by
  by_cases q : Own σ δ a
  · exact ho a q
  · intro o e v
    have h' : Fr0 T H a := fun o' e' v' => h o' (by rw [hide_ne q]; exact e') v'
    exact s.back sub0 h' o e v
theorem step_trans (s : Step T F0 H0 F H) (ho : ∀ a, Own σ δ a → Fr0 T H0 a) (st : Step T F (hide σ δ H) F' H') : Step T F0 H0 F' H' := by
  refine ⟨s.r.trans st.r, st.gd, fun a o n e c => ?_, fun a o n e v => ?_⟩
  · have q : ¬ Own σ δ a := fun z => ho a z o e (vis_of c)
    exact st.fr a o (s.off a o n e (vis_of c)).1 (by rw [hide_ne q]; exact s.fr a o n e c) c
  · have q : ¬ Own σ δ a := fun z => ho a z o e v
    obtain ⟨n1, o1, e1, v1⟩ := s.off a o n e v
    exact st.off a o1 n1 (by rw [hide_ne q]; exact e1) v1
theorem En.next (E : En K mg T F0 H0 F H σ δ) (st : Step T F (hide σ δ H) F' H') (L' : Lcl K mg T F' H' σ' δ') (ni' : NoIns δ') (fr' : ∀ a, Own σ' δ' a → Fr0 T (hide σ δ H) a) : En K mg T F0 H0 F' H' σ' δ' :=
  ⟨E.sub0, step_trans E.st E.fr st, L', ni', fun a h => fr0_back E.sub0 E.st E.fr (fr' a h)⟩
/-- a cell: a list that is not frozen, beside the store's own -/
structure Cell (F H : Hp) (a : Addr) (vs : List V) : Prop where
  n : F a = none
  e : H a = some (.lst vs)
theorem Cell.step {a : Addr} {vs : List V} (c : Cell F H a vs) (st : Step T F H F' H') : Cell F' H' a vs := ⟨(st.off a _ c.n c.e (.inr (.inl fun _ z => by cases z))).1, st.fr a _ c.n c.e (.inr fun _ z => by cases z)⟩
theorem Cell.next {a : Addr} {vs : List V} (c : Cell F H a vs) (ho : ¬ Own σ δ a) (st : Step T F (hide σ δ H) F' H') : Cell F' H' a vs := Cell.step (H := hide σ δ H) ⟨c.n, by rw [hide_ne ho]; exact c.e⟩ st
theorem Cell.not_own {a : Addr} {vs : List V} (c : Cell F H a vs) (ho : ¬ Own σ δ a) (fr' : ∀ a, Own σ' δ' a → Fr0 T (hide σ δ H) a) : ¬ Own σ' δ' a := fun z => fr' a z (.lst vs) (by rw [hide_ne ho]; exact c.e) (.inr (.inl fun _ z => by cases z))
/-- a statement of the layer, beside cells -/
def PostW (K : PySem.W.Frag) (mg : Str → Option Value) (T : List (Addr × Str)) (F H : Hp) (σ : L2.St) (δ : Sto) (W : Wi) (D' : Ends) : Out → Prop
  | .nx δ' => ∀ σ' F' H', Step T F (hide σ δ H) F' H' → Lcl K mg T F' H' σ' δ' → (∀ a, Own σ' δ' a → Fr0 T (hide σ δ H) a) → D'.nx σ' H'
  | .rt d => ∀ v F' H', Step T F (hide σ δ H) F' H' → Rp K mg F' v d → D'.rt v H'
  | .rs c => ∀ F' H', Step T F (hide σ δ H) F' H' → W c H'
  | .bk δ' => ∀ σ' F' H', Step T F (hide σ δ H) F' H' → Lcl K mg T F' H' σ' δ' → (∀ a, Own σ' δ' a → Fr0 T (hide σ δ H) a) → D'.bk σ' H'
  | .ct δ' => ∀ σ' F' H', Step T F (hide σ δ H) F' H' → Lcl K mg T F' H' σ' δ' → (∀ a, Own σ' δ' a → Fr0 T (hide σ δ H) a) → D'.ct σ' H'
  | .stuck => False
def tW (K : PySem.W.Frag) (mg : Str → Option Value) (T : List (Addr × Str)) (W : Wi) (f : Sto → Out) : TS := fun D' σ H => ∃ F δ, Lcl K mg T F H σ δ ∧ NoIns δ ∧ PostW K mg T F H σ δ W D' (f δ)
theorem postW_S {o : Out} (h : PostW K mg T F H σ δ W D' o) : PostS K mg T F (hide σ δ H, 0) F W D' o := by
  have fr : ∀ {σ' F' H' δ'}, StR K mg T F (hide σ δ H, 0) F' H' σ' δ' → ∀ a, Own σ' δ' a → Fr0 T (hide σ δ H) a := fun S a ⟨i, s, e, o, q⟩ => (S.fresh i s a e o q).1
  cases o with
  | nx δ' => exact fun σ' F' H' r S => h σ' F' H' S.st S.loc (fr S)
  | bk δ' => exact fun σ' F' H' r S => h σ' F' H' S.st S.loc (fr S)
  | ct δ' => exact fun σ' F' H' r S => h σ' F' H' S.st S.loc (fr S)
  | rt d => exact h
  | rs c => exact h
  | stuck => exact h
theorem tW_nx {f : Sto → Out} (E : En K mg T F0 H0 F H σ δ) (e : f δ = .nx δ') (ni : NoIns δ')
    (k : ∀ σ' F' H', Step T F (hide σ δ H) F' H' → (∀ a, Own σ' δ' a → Fr0 T (hide σ δ H) a) → En K mg T F0 H0 F' H' σ' δ' → D'.nx σ' H') : tW K mg T W f D' σ H :=
  ⟨F, δ, E.L, E.ni, by rw [e]; exact fun σ' F' H' st L fr => k σ' F' H' st fr (E.next st L ni fr)⟩
end
section
variable {T : List (Addr × Str)} {X : Cx} {W : Wi} {st : Stmt} {rest : List Stmt} {f g : Sto → Out} {pos : Pos}
theorem lift (h : DS T X W st f) : PS X st (tW X.K X.mg T W f) := weakS h fun D' σ H ⟨F, δ, L, ni, q⟩ => ⟨F, (hide σ δ H, 0), F, δ, L.str ni, postW_S q⟩
theorem lifts (h : DSs T X W rest f) : PSs X rest (tW X.K X.mg T W f) := weakSs h fun D' σ H ⟨F, δ, L, ni, q⟩ => ⟨F, (hide σ δ H, 0), F, δ, L.str ni, postW_S q⟩
/-- a walk by an invariant -/
theorem ps_walk {tg iter : Expr} {bd : List Stmt} {fi : Sto → Res (List D)} {i : Nat} {tb : TS} (hp : PassesOwn (model X.prog X.w) X.A X.env X.xe) (hc : X.calm = true) (hi : DI T X W tg iter fi) (hg : DG T X tg (tgN i)) (hb : PSs X bd tb)
    (hs : ∀ x, foldedSetIterable iter X.env x = pure x := by intro _; rfl) : PS X (.For tg iter bd [] pos) (fun D' σ H => ∃ F δ ds, Lcl X.K X.mg T F H σ δ ∧ NoIns δ ∧ fi δ = .ok ds ∧ ∃ Iv : Nat → Hp → Sto → L2.St → Hp → Prop,
      Iv 0 F δ σ H ∧ (∀ k F δ σ H, Iv k F δ σ H → Lcl X.K X.mg T F H σ δ ∧ NoIns δ ∧ ∀ F' H', Step T F H F' H' → Iv k F' δ σ H') ∧
      (∀ k d, ds[k]? = some d → ∀ F1 δ1 σ1 H1, Iv k F1 δ1 σ1 H1 → ∀ σ2 F2 H2, Step T F1 (hide σ1 δ1 H1) F2 H2 → (∀ a, Own σ2 (δ1.set i (.val d)) a → Fr0 T (hide σ1 δ1 H1) a) → Lcl X.K X.mg T F2 H2 σ2 (δ1.set i (.val d)) → NoIns (δ1.set i (.val d)) →
        ∀ D2 : Ends, (∀ F δ σ H, Rel F2 F → Iv (k + 1) F δ σ H → D2.nx σ H) → D2.rt = D'.rt → tb D2 σ2 H2) ∧
      (∀ F δ σ H, Iv ds.length F δ σ H → D'.nx σ H)) :=
  weakS (ps_for hp hc hi hg hb hs) fun D' σ H ⟨F, δ, ds, L, ni, e, Iv, i0, icl, istep, iend⟩ => by
    refine ⟨F, δ, L, ?_⟩
    rw [e]
    intro J F1 H1 st1 wk
    refine ⟨fun k m σ H => m = ds.length - k ∧ k ≤ ds.length ∧ ∃ F δ, Rel F1 F ∧ Iv k F δ σ H, ⟨ds.length, by simp, Nat.zero_le _, F1, δ, .refl F1, (icl 0 F δ σ H i0).2.2 F1 H1 st1⟩, ?_⟩
    rintro k m σ H ⟨rfl, hk, F, δ, rel, iv⟩
    obtain ⟨L, ni, cl⟩ := icl k F δ σ H iv
    by_cases hlt : k < ds.length
    · have ed : ds[k]? = some ds[k] := List.getElem?_eq_getElem hlt
      obtain ⟨go, yl⟩ := (wk k F H rel L.gd).1 ds[k] ed
      refine .inr ⟨go, fun σ' H' => ∃ F' δ', Rel F1 F' ∧ Iv (k + 1) F' δ' σ' H', fun σ' H' ⟨F', δ', r', iv'⟩ => ⟨ds.length - (k + 1), by omega, rfl, hlt, F', δ', r', iv'⟩, fun x H' y => ?_⟩
      obtain ⟨F2, st2, rx⟩ := yl x H' y
      have iv2 := cl F2 H' st2
      have L2' := L.step st2
      refine ⟨F2, (hide σ δ H', 0), F2, δ, ds[k], L2'.str ni, rx, ?_⟩
      show ∀ σ' F' H'', Rel F2 F' → StR X.K X.mg T F2 (hide σ δ H', 0) F' H'' σ' (δ.set i (.val ds[k])) → _
      intro σ3 F3 H3 r3 S3
      have ni3 : NoIns (δ.set i (.val ds[k])) := fun j c fs z => by
        rcases set_cases z with ⟨_, e, _⟩ | ⟨_, e⟩
        · cases e
        · exact ni j c fs e
      exact istep k ds[k] ed F2 δ σ H' iv2 σ3 F3 H3 S3.st (fun a ⟨i, s, e, o, q⟩ => (S3.fresh i s a e o q).1) S3.loc ni3 _ (fun F4 δ4 σ4 H4 r4 iv4 => ⟨F4, δ4, ((rel.trans st2.r).trans r3).trans r4, iv4⟩) rfl
    · have e : k = ds.length := by omega
      subst e
      exact .inl ⟨(wk _ F H rel L.gd).2 (Nat.le_refl _), iend F δ σ H iv⟩
end
end Dn


set_option Elab.async false
set_option linter.all false
set_option maxRecDepth 100000
set_option maxHeartbeats 4000000
namespace Dn
open PySem PySem.Spec PyProof.Rows L2
/-! ### trees whose nodes are numbered -/
inductive LT where
  | nd (k : Nat) (cs : List LT)
def LT.lab : LT → Nat
  | .nd k _ => k
def putL {α : Type} (i : Nat) (x : α) (l : List α) : List α := l.take i ++ [x] ++ l.drop i
mutual
def LT.toD : LT → D
  | .nd _ cs => .lst (LT.toDs cs)
def LT.toDs : List LT → List D
  | [] => []
  | c :: cs => c.toD :: LT.toDs cs
end
mutual
def LT.cnt (j : Nat) : LT → Nat
  | .nd k cs => (if k = j then 1 else 0) + LT.cnts j cs
def LT.cnts (j : Nat) : List LT → Nat
  | [] => 0
  | c :: cs => c.cnt j + LT.cnts j cs
end
mutual
def LT.size : LT → Nat
  | .nd _ cs => 1 + LT.sizes cs
def LT.sizes : List LT → Nat
  | [] => 0
  | c :: cs => c.size + LT.sizes cs
end
mutual
def LT.ins (j i n : Nat) : LT → LT
  | .nd k cs => if k = j then .nd k (putL i (.nd n []) (LT.inss j i n cs)) else .nd k (LT.inss j i n cs)
def LT.inss (j i n : Nat) : List LT → List LT
  | [] => []
  | c :: cs => c.ins j i n :: LT.inss j i n cs
end
mutual
def LT.At (C : Nat → List Nat → Prop) : LT → Prop
  | .nd k cs => C k (cs.map LT.lab) ∧ LT.Ats C cs
def LT.Ats (C : Nat → List Nat → Prop) : List LT → Prop
  | [] => True
  | c :: cs => c.At C ∧ LT.Ats C cs
end
mutual
def LT.kids (j : Nat) : LT → Option (List Nat)
  | .nd k cs => if k = j then some (cs.map LT.lab) else LT.kidss j cs
def LT.kidss (j : Nat) : List LT → Option (List Nat)
  | [] => none
  | c :: cs => match c.kids j with
    | some ks => some ks
    | none => LT.kidss j cs
end
theorem putL_map {α β : Type} (f : α → β) (i : Nat) (x : α) (l : List α) : (putL i x l).map f = putL i (f x) (l.map f) := by
  unfold putL; rw [List.map_append, List.map_append, List.map_take, List.map_drop]; rfl
theorem ins_lab (j i n : Nat) (t : LT) : (t.ins j i n).lab = t.lab := by
  cases t with
  | nd k cs =>
    rw [LT.ins]
    split <;> rfl
theorem inss_lab (j i n : Nat) : ∀ cs : List LT, (LT.inss j i n cs).map LT.lab = cs.map LT.lab
  | [] => by rw [LT.inss]
  | c :: cs => by rw [LT.inss, List.map_cons, List.map_cons, ins_lab, inss_lab j i n cs]
theorem Ats_iff {C : Nat → List Nat → Prop} : ∀ {cs : List LT}, LT.Ats C cs ↔ ∀ c ∈ cs, c.At C
  | [] => by rw [LT.Ats]; simp
  | c :: cs => by rw [LT.Ats, Ats_iff]; simp
theorem mem_putL {α : Type} {i : Nat} {x y : α} {l : List α} (h : y ∈ putL i x l) : y = x ∨ y ∈ l := by
  unfold putL at h
  rw [List.mem_append, List.mem_append, List.mem_singleton] at h
  rcases h with (h | h) | h
  · exact .inr (List.mem_of_mem_take h)
  · exact .inl h
  · exact .inr (List.mem_of_mem_drop h)
mutual
theorem At_ins {C C' : Nat → List Nat → Prop} {j i n : Nat} (h1 : ∀ k ks, C k ks → k ≠ j → C' k ks) (h2 : ∀ ks, C j ks → C' j (putL i n ks)) (h3 : C' n []) : ∀ {t : LT}, t.At C → (t.ins j i n).At C'
  | .nd k cs, h => by
    rw [LT.At] at h
    rw [LT.ins]
    have hs := Ats_ins h1 h2 h3 h.2
    by_cases e : k = j
    · rw [if_pos e, LT.At]
      subst e
      refine ⟨?_, ?_⟩
      · rw [putL_map, inss_lab]
        exact h2 _ h.1
      · rw [Ats_iff] at hs ⊢
        intro c hc
        rcases mem_putL hc with q | q
        · subst q
          rw [LT.At]
          exact ⟨h3, by rw [LT.Ats]; trivial⟩
        · exact hs c q
    · rw [if_neg e, LT.At, inss_lab]
      exact ⟨h1 _ _ h.1 e, hs⟩
theorem Ats_ins {C C' : Nat → List Nat → Prop} {j i n : Nat} (h1 : ∀ k ks, C k ks → k ≠ j → C' k ks) (h2 : ∀ ks, C j ks → C' j (putL i n ks)) (h3 : C' n []) : ∀ {cs : List LT}, LT.Ats C cs → LT.Ats C' (LT.inss j i n cs)
  | [], _ => by rw [LT.inss, LT.Ats]; trivial
  | c :: cs, h => by
    rw [LT.Ats] at h
    rw [LT.inss, LT.Ats]
    exact ⟨At_ins h1 h2 h3 h.1, Ats_ins h1 h2 h3 h.2⟩
end
mutual
theorem At_mono {C C' : Nat → List Nat → Prop} (h : ∀ k ks, C k ks → C' k ks) : ∀ {t : LT}, t.At C → t.At C'
  | .nd k cs, q => by
    rw [LT.At] at q ⊢
    exact ⟨h _ _ q.1, Ats_mono h q.2⟩
theorem Ats_mono {C C' : Nat → List Nat → Prop} (h : ∀ k ks, C k ks → C' k ks) : ∀ {cs : List LT}, LT.Ats C cs → LT.Ats C' cs
  | [], _ => by rw [LT.Ats]; trivial
  | c :: cs, q => by
    rw [LT.Ats] at q ⊢
    exact ⟨At_mono h q.1, Ats_mono h q.2⟩
end
mutual
theorem At_kids {C : Nat → List Nat → Prop} {j : Nat} {ks : List Nat} : ∀ {t : LT}, t.At C → t.kids j = some ks → C j ks
  | .nd k cs, h, e => by
    rw [LT.At] at h
    rw [LT.kids] at e
    by_cases q : k = j
    · rw [if_pos q] at e
      cases e
      rw [← q]
      exact h.1
    · rw [if_neg q] at e
      exact Ats_kids h.2 e
theorem Ats_kids {C : Nat → List Nat → Prop} {j : Nat} {ks : List Nat} : ∀ {cs : List LT}, LT.Ats C cs → LT.kidss j cs = some ks → C j ks
  | [], _, e => by rw [LT.kidss] at e; cases e
  | c :: cs, h, e => by
    rw [LT.Ats] at h
    rw [LT.kidss] at e
    cases q : c.kids j with
    | some ks' => rw [q] at e; cases e; exact At_kids h.1 q
    | none => rw [q] at e; exact Ats_kids h.2 e
end
mutual
theorem kids_some {j : Nat} : ∀ {t : LT}, 0 < t.cnt j → ∃ ks, t.kids j = some ks
  | .nd k cs, h => by
    rw [LT.cnt] at h
    rw [LT.kids]
    by_cases q : k = j
    · rw [if_pos q]; exact ⟨_, rfl⟩
    · rw [if_neg q] at h ⊢
      exact kidss_some (by omega)
theorem kidss_some {j : Nat} : ∀ {cs : List LT}, 0 < LT.cnts j cs → ∃ ks, LT.kidss j cs = some ks
  | [], h => by rw [LT.cnts] at h; omega
  | c :: cs, h => by
    rw [LT.cnts] at h
    rw [LT.kidss]
    cases q : c.kids j with
    | some ks' => exact ⟨_, rfl⟩
    | none =>
      have : c.cnt j = 0 := by
        by_cases z : 0 < c.cnt j
        · obtain ⟨ks, e⟩ := kids_some z
          rw [q] at e; cases e
        · omega
      exact kidss_some (by omega)
end
theorem cnts_app (j : Nat) : ∀ a b : List LT, LT.cnts j (a ++ b) = LT.cnts j a + LT.cnts j b
  | [], b => by rw [List.nil_append, LT.cnts]; omega
  | c :: a, b => by rw [List.cons_append, LT.cnts, LT.cnts, cnts_app j a b]; omega
theorem sizes_app : ∀ a b : List LT, LT.sizes (a ++ b) = LT.sizes a + LT.sizes b
  | [], b => by rw [List.nil_append, LT.sizes]; omega
  | c :: a, b => by rw [List.cons_append, LT.sizes, LT.sizes, sizes_app a b]; omega
theorem cnts_putL (k i n : Nat) (l : List LT) : LT.cnts k (putL i (.nd n []) l) = LT.cnts k l + (if n = k then 1 else 0) := by
  unfold putL
  rw [cnts_app, cnts_app, LT.cnts, LT.cnts, LT.cnt, LT.cnts]
  have := cnts_app k (l.take i) (l.drop i)
  rw [List.take_append_drop] at this
  omega
theorem sizes_putL (i n : Nat) (l : List LT) : LT.sizes (putL i (.nd n []) l) = LT.sizes l + 1 := by
  unfold putL
  rw [sizes_app, sizes_app, LT.sizes, LT.sizes, LT.size, LT.sizes]
  have := sizes_app (l.take i) (l.drop i)
  rw [List.take_append_drop] at this
  omega
mutual
theorem cnt_ins (k j i n : Nat) : ∀ t : LT, (t.ins j i n).cnt k = t.cnt k + (if n = k then t.cnt j else 0)
  | .nd m cs => by
    have ih := cnts_inss k j i n cs
    rw [LT.ins, LT.cnt, LT.cnt]
    by_cases e : m = j
    · rw [if_pos e, LT.cnt, cnts_putL, ih, if_pos e]
      by_cases q : n = k
      · rw [if_pos q, if_pos q, if_pos q]; omega
      · rw [if_neg q, if_neg q, if_neg q]; omega
    · rw [if_neg e, LT.cnt, ih, if_neg e]
      by_cases q : n = k
      · rw [if_pos q, if_pos q]; omega
      · rw [if_neg q, if_neg q]; omega
theorem cnts_inss (k j i n : Nat) : ∀ cs : List LT, LT.cnts k (LT.inss j i n cs) = LT.cnts k cs + (if n = k then LT.cnts j cs else 0)
  | [] => by rw [LT.inss, LT.cnts, LT.cnts]; split <;> rfl
  | c :: cs => by
    rw [LT.inss, LT.cnts, LT.cnts, LT.cnts, cnt_ins k j i n c, cnts_inss k j i n cs]
    split <;> omega
end
mutual
theorem size_ins (j i n : Nat) : ∀ t : LT, (t.ins j i n).size = t.size + t.cnt j
  | .nd m cs => by
    have ih := sizes_inss j i n cs
    rw [LT.ins, LT.cnt]
    by_cases e : m = j
    · rw [if_pos e, LT.size, LT.size, sizes_putL, ih, if_pos e]; omega
    · rw [if_neg e, LT.size, LT.size, ih, if_neg e]; omega
theorem sizes_inss (j i n : Nat) : ∀ cs : List LT, LT.sizes (LT.inss j i n cs) = LT.sizes cs + LT.cnts j cs
  | [] => by rw [LT.inss, LT.sizes, LT.cnts]
  | c :: cs => by
    rw [LT.inss, LT.sizes, LT.sizes, LT.cnts, size_ins j i n c, sizes_inss j i n cs]; omega
end
/-! ### the law's own tree -/
def atW (more here : Int) (n : Nat) : Int := if more % 4 = 0 then here % n else if more % 4 = 1 then n - 1 else if more % 4 = 2 then 0 else max 0 (n - 1 - here % 3)
def lenW (t : LT) (j : Nat) : Nat := ((t.kids j).getD []).length
def posW (here : Int) (m : Nat) : Int := here / 64 % ((m : Int) + 1)
def stepW (more here : Int) (n : Nat) (t : LT) : LT := t.ins (atW more here n).toNat (posW here (lenW t (atW more here n).toNat)).toNat n
/-- the tree of m + 1 nodes -/
def treeW (dr : Nat → Int) (more : Int) : Nat → LT
  | 0 => .nd 0 []
  | m + 1 => stepW more (dr m) (m + 1) (treeW dr more m)
theorem atW_ok (more here : Int) {n : Nat} (h : 0 < n) : 0 ≤ atW more here n ∧ atW more here n < n := by
  unfold atW
  have h1 := Int.emod_nonneg here (show (n : Int) ≠ 0 by omega)
  have h2 := Int.emod_lt_of_pos here (show (0 : Int) < n by omega)
  split
  · omega
  · split
    · omega
    · split <;> omega
theorem treeW_cnt (dr : Nat → Int) (more : Int) : ∀ (m k : Nat), (treeW dr more m).cnt k = if k ≤ m then 1 else 0
  | 0, k => by
    rw [treeW, LT.cnt, LT.cnts]
    by_cases h : k = 0
    · rw [if_pos h.symm, if_pos (by omega)]
    · rw [if_neg (fun z => h z.symm), if_neg (by omega)]
  | m + 1, k => by
    rw [treeW, stepW, cnt_ins, treeW_cnt dr more m, treeW_cnt dr more m]
    have ha := atW_ok more (dr m) (n := m + 1) (by omega)
    by_cases h : m + 1 = k
    · rw [if_pos h, if_neg (by omega), if_pos (by omega), if_pos (by omega)]
    · rw [if_neg h]
      by_cases q : k ≤ m
      · rw [if_pos q, if_pos (by omega)]
      · rw [if_neg q, if_neg (by omega)]
theorem treeW_size (dr : Nat → Int) (more : Int) : ∀ m : Nat, (treeW dr more m).size = m + 1
  | 0 => by rw [treeW, LT.size, LT.sizes]
  | m + 1 => by
    have ha := atW_ok more (dr m) (n := m + 1) (by omega)
    rw [treeW, stepW, size_ins, treeW_size dr more m, treeW_cnt, if_pos (by omega)]
theorem treeW_lab (dr : Nat → Int) (more : Int) : ∀ m : Nat, (treeW dr more m).lab = 0
  | 0 => rfl
  | m + 1 => by rw [treeW, stepW, ins_lab, treeW_lab dr more m]
end Dn


set_option Elab.async false
set_option linter.all false
set_option maxRecDepth 100000
set_option maxHeartbeats 4000000
namespace Dn
open PySem PySem.Spec PyProof.Rows L2
/-! ### a pool of lists that hold one another -/
def CW (H : Hp) (ps : List Addr) (k : Nat) (ks : List Nat) : Prop := (∀ j ∈ ks, j < ps.length) ∧ ∃ p, ps[k]? = some p ∧ H p = some (.lst (ks.map fun j => .ref (ps.getD j 0)))
structure Pool (T : List (Addr × Str)) (H0 F H : Hp) (σ : L2.St) (δ : Sto) (ps : List Addr) (t : LT) : Prop where
  nd : ps.Nodup
  cell : ∀ p ∈ ps, F p = none ∧ (∃ vs, H p = some (.lst vs)) ∧ Fr0 T H0 p ∧ ¬ Own σ δ p
  at' : t.At (CW H ps)
section
variable {K : PySem.W.Frag} {mg : Str → Option Value} {T : List (Addr × Str)} {F0 H0 F H F' H' : Hp} {σ σ' : L2.St} {δ δ' : Sto} {W : Wi} {D' : Ends} {ps : List Addr} {t : LT}
theorem Pool.next (P : Pool T H0 F H σ δ ps t) (st : Step T F (hide σ δ H) F' H') (fr' : ∀ a, Own σ' δ' a → Fr0 T (hide σ δ H) a) : Pool T H0 F' H' σ' δ' ps t := by
  have cc : ∀ p ∈ ps, ∀ vs, H p = some (.lst vs) → Cell F' H' p vs := fun p hp vs e => Cell.next ⟨(P.cell p hp).1, e⟩ (P.cell p hp).2.2.2 st
  refine ⟨P.nd, fun p hp => ?_, At_mono (fun k ks ⟨h1, p, e, q⟩ => ⟨h1, p, e, (cc p (List.mem_of_getElem? e) _ q).e⟩) P.at'⟩
  obtain ⟨n, ⟨vs, e⟩, f, o⟩ := P.cell p hp
  have c := cc p hp vs e
  exact ⟨c.n, ⟨vs, c.e⟩, f, Cell.not_own ⟨n, e⟩ o fr'⟩
theorem Pool.step (P : Pool T H0 F H σ δ ps t) (st : Step T F H F' H') : Pool T H0 F' H' σ δ ps t := by
  have cc : ∀ p ∈ ps, ∀ vs, H p = some (.lst vs) → Cell F' H' p vs := fun p hp vs e => Cell.step ⟨(P.cell p hp).1, e⟩ st
  refine ⟨P.nd, fun p hp => ?_, At_mono (fun k ks ⟨h1, p, e, q⟩ => ⟨h1, p, e, (cc p (List.mem_of_getElem? e) _ q).e⟩) P.at'⟩
  obtain ⟨n, ⟨vs, e⟩, f, o⟩ := P.cell p hp
  have c := cc p hp vs e
  exact ⟨c.n, ⟨vs, c.e⟩, f, o⟩
theorem Pool.own (P : Pool T H0 F H σ δ ps t) (h : ∀ a, Own σ' δ' a → Own σ δ a) : Pool T H0 F H σ' δ' ps t :=
  ⟨P.nd, fun p hp => by obtain ⟨a, b, c, d⟩ := P.cell p hp; exact ⟨a, b, c, fun z => d (h p z)⟩, P.at'⟩
theorem CW.more {k : Nat} {ks : List Nat} (f : Addr) (h : CW H ps k ks) : CW H (ps ++ [f]) k ks := by
  obtain ⟨h1, p, e, q⟩ := h
  refine ⟨fun j hj => by rw [List.length_append]; have := h1 j hj; omega, p, ?_, ?_⟩
  · rw [List.getElem?_append_left (List.getElem?_eq_some_iff.mp e).1]; exact e
  · rw [q]
    congr 2
    refine List.map_congr_left fun j hj => ?_
    rw [List.getD_eq_getElem?_getD, List.getD_eq_getElem?_getD, List.getElem?_append_left (h1 j hj)]
theorem Pool.more (P : Pool T H0 F H σ δ ps t) {f : Addr} (n : F f = none) (e : H f = some (.lst [])) (fr : Fr0 T H0 f) (o : ¬ Own σ δ f) (nf : f ∉ ps) : Pool T H0 F H σ δ (ps ++ [f]) t := by
  refine ⟨?_, fun p hp => ?_, At_mono (fun k ks h => h.more f) P.at'⟩
  · rw [List.nodup_append]
    refine ⟨P.nd, by simp, fun a ha b hb => ?_⟩
    rw [List.mem_singleton] at hb
    intro z
    rw [z, hb] at ha
    exact nf ha
  · rcases List.mem_append.mp hp with h | h
    · exact P.cell p h
    · rw [List.mem_singleton] at h
      subst h
      exact ⟨n, ⟨_, e⟩, fr, o⟩
theorem Pool.ins (P : Pool T H0 F H σ δ ps t) {j i n : Nat} {p f : Addr} {xs : List V} (hj : ps[j]? = some p) (hn : ps[n]? = some f) (hx : H p = some (.lst xs)) (hf : H f = some (.lst [])) (hpf : f ≠ p) : Pool T H0 F (upd H p (.lst (putL i (.ref f) xs))) σ δ ps (t.ins j i n) := by
  have hnl : n < ps.length := (List.getElem?_eq_some_iff.mp hn).1
  refine ⟨P.nd, fun q hq => ?_, At_ins (C := CW H ps) (fun k ks h hk => ?_) (fun ks h => ?_) ?_ P.at'⟩
  · obtain ⟨a, ⟨vs, b⟩, c, d⟩ := P.cell q hq
    refine ⟨a, ?_, c, d⟩
    by_cases z : q = p
    · rw [z, upd_same]; exact ⟨_, rfl⟩
    · rw [upd_ne z]; exact ⟨vs, b⟩
  · obtain ⟨h1, q, e, e2⟩ := h
    refine ⟨h1, q, e, ?_⟩
    have : q ≠ p := fun z => hk (by
      subst z
      have l1 := (List.getElem?_eq_some_iff.mp e)
      have l2 := (List.getElem?_eq_some_iff.mp hj)
      obtain ⟨a1, b1⟩ := l1
      obtain ⟨a2, b2⟩ := l2
      exact (List.getElem_inj P.nd).mp (b1.trans b2.symm))
    rw [upd_ne this]
    exact e2
  · obtain ⟨h1, q, e, e2⟩ := h
    rw [hj] at e
    cases e
    refine ⟨fun a ha => ?_, p, hj, ?_⟩
    · rcases mem_putL ha with z | z
      · rw [z]; exact hnl
      · exact h1 a z
    · rw [upd_same, putL_map]
      rw [hx] at e2
      cases e2
      rw [List.getD_eq_getElem?_getD, hn]
      rfl
  · exact ⟨fun a ha => (by cases ha), f, hn, by rw [upd_ne hpf]; exact hf⟩
open Classical in
/-- all cells are frozen -/
noncomputable def frzA (F H : Hp) (ps : List Addr) : Hp := fun a => if a ∈ ps then H a else F a
theorem frzA_in {a : Addr} (h : a ∈ ps) : frzA F H ps a = H a := by unfold frzA; rw [if_pos h]
theorem frzA_out {a : Addr} (h : a ∉ ps) : frzA F H ps a = F a := by unfold frzA; rw [if_neg h]
theorem step_frzA (s : Step T F0 H0 F H) (h : ∀ p ∈ ps, F p = none ∧ (∃ vs, H p = some (.lst vs)) ∧ Fr0 T H0 p) : Step T F0 H0 (frzA F H ps) H ∧ Rel F (frzA F H ps) := by
  have rel : Rel F (frzA F H ps) := fun a o e => ⟨o, by rw [frzA_out fun z => by rw [(h a z).1] at e; cases e]; exact e, .refl o⟩
  refine ⟨⟨s.r.trans rel, ⟨fun a o e => ?_, s.gd.tabs, fun a q e => ?_⟩, s.fr, fun a o n e v => ?_⟩, rel⟩
  · by_cases z : a ∈ ps
    · rw [frzA_in z] at e; exact e
    · rw [frzA_out z] at e; exact s.gd.sub a o e
  · by_cases z : a ∈ ps
    · obtain ⟨_, ⟨vs, e2⟩, _⟩ := h a z
      rw [frzA_in z, e2] at e; cases e
    · rw [frzA_out z] at e; exact s.gd.ntb a _ e
  · obtain ⟨n1, r⟩ := s.off a o n e v
    refine ⟨?_, r⟩
    rw [frzA_out fun z => (h a z).2.2 o e v]
    exact n1
mutual
theorem rp_tree {F1 : Hp} (h : ∀ p ∈ ps, F1 p = H p) : ∀ {t : LT}, t.At (CW H ps) → ∀ p, ps[t.lab]? = some p → Rp K mg F1 (.ref p) t.toD
  | .nd k cs, ha, p, hp => by
    rw [LT.At] at ha
    obtain ⟨⟨h1, q, e, e2⟩, h2⟩ := ha
    rw [LT.toD]
    change ps[k]? = some p at hp
    rw [e] at hp
    cases hp
    exact RpL.lst ((h p (List.mem_of_getElem? e)).trans e2) (rp_trees h h2 h1)
theorem rp_trees {F1 : Hp} (h : ∀ p ∈ ps, F1 p = H p) : ∀ {cs : List LT}, LT.Ats (CW H ps) cs → (∀ j ∈ cs.map LT.lab, j < ps.length) → RpL K mg F1 ((cs.map LT.lab).map fun j => .ref (ps.getD j 0)) (LT.toDs cs)
  | [], _, _ => by rw [LT.toDs]; exact .nil
  | c :: cs, ha, hl => by
    rw [LT.Ats] at ha
    rw [LT.toDs]
    have hc : c.lab < ps.length := hl _ (by simp)
    refine .cons (rp_tree h ha.1 _ ?_) (rp_trees h ha.2 fun j hj => hl j (by rw [List.map_cons]; exact List.mem_cons_of_mem _ hj))
    rw [List.getD_eq_getElem?_getD, List.getElem?_eq_getElem hc]
    rfl
end
/-- a list of one's own as a place -/
theorem En.flip (E : En K mg T F0 H0 F H σ δ) {i : Nat} {ds : List D} (e : δ[i]? = some (.own ds)) : ∃ a vs, σ[i]? = some (some (.ref a)) ∧ F a = none ∧ H a = some (.lst vs) ∧ RpL K mg F vs ds ∧ Own σ δ a ∧ Fr0 T H0 a ∧
    En K mg T F0 H0 F H σ (δ.set i (.val (.opq a))) ∧ (∀ b, Own σ (δ.set i (.val (.opq a))) b → Own σ δ b ∧ b ≠ a) := by
  obtain ⟨ov, q, a, vs, rfl, nF, hH, rv⟩ := E.L.slot i _ e
  have ow : Own σ δ a := ⟨i, _, e, rfl, q⟩
  have sub : ∀ b, Own σ (δ.set i (.val (.opq a))) b → Own σ δ b ∧ b ≠ a := fun b ⟨j, s, e1, o1, q1⟩ => by
    rcases set_cases e1 with ⟨_, e2, _⟩ | ⟨hj, e2⟩
    · rw [e2] at o1; cases o1
    · exact ⟨⟨j, s, e2, o1, q1⟩, fun z => E.L.apart j i s _ b hj e2 e o1 rfl q1 (by rw [z]; exact q)⟩
  have L' := E.L.set (i := i) (ov := some (.ref a)) (s := .val (.opq a)) (fun _ => ⟨_, rfl, .opq a⟩) (fun z => by cases z)
  have es : σ.set i (some (.ref a)) = σ := by
    obtain ⟨hl, ev⟩ := List.getElem?_eq_some_iff.mp q
    rw [← ev]; exact List.set_getElem_self hl
  rw [es] at L'
  refine ⟨a, vs, q, nF, hH, rv, ow, E.fr a ow, ⟨E.sub0, E.st, L', fun j c fs z => ?_, fun b hb => E.fr b (sub b hb).1⟩, sub⟩
  rcases set_cases z with ⟨_, e2, _⟩ | ⟨_, e2⟩
  · cases e2
  · exact E.ni j c fs e2
/-- a cell is turned -/
theorem En.turn (E : En K mg T F0 H0 F H σ δ) {p : Addr} {xs us : List V} (n : F p = none) (e : H p = some (.lst xs)) (fr : Fr0 T H0 p) (o : ¬ Own σ δ p) : En K mg T F0 H0 F (upd H p (.lst us)) σ δ := by
  have st : Step T F0 H0 F (upd H p (.lst us)) := E.st.turn fr n (fun ps z => by rw [e] at z; cases z) (fun φ z => by rw [e] at z; cases z)
  refine ⟨E.sub0, st, ⟨st.gd, E.L.len, fun i s h => ?_, E.L.apart⟩, E.ni, E.fr⟩
  obtain ⟨ov, q, ok⟩ := E.L.slot i s h
  refine ⟨ov, q, ?_⟩
  cases s with
  | no => trivial
  | val d => exact ok
  | own ds =>
    obtain ⟨b, vs, rfl, nb, hb, rb⟩ := ok
    have : b ≠ p := fun z => o (by rw [← z]; exact ⟨i, _, h, rfl, q⟩)
    exact ⟨b, vs, rfl, nb, by rw [upd_ne this]; exact hb, rb⟩
  | ins c fs => exact (E.ni i c fs h).elim
theorem En.step (E : En K mg T F0 H0 F H σ δ) (st : Step T F H F' H') : En K mg T F0 H0 F' H' σ δ := ⟨E.sub0, E.st.trans st, E.L.step st, E.ni, E.fr⟩
theorem NoIns.set (h : NoIns δ) {i : Nat} {s : Slot} (hs : ∀ c fs, s ≠ .ins c fs := by intro _ _ z; cases z) : NoIns (δ.set i s) := fun j c fs z => by
  rcases set_cases z with ⟨_, e, _⟩ | ⟨_, e⟩
  · exact hs c fs e.symm
  · exact h j c fs e
end
end Dn


set_option Elab.async false
set_option linter.all false
set_option maxRecDepth 100000
set_option maxHeartbeats 4000000
namespace Dn
open PySem PySem.Spec PyProof.Rows L2
/-! ### the law's own tree, built in the heap -/
def nIns : Slot → Bool
  | .ins _ _ => false
  | _ => true
theorem NoIns.of {δ : Sto} (h : δ.all nIns = true) : NoIns δ := fun i c fs e => by
  have := List.all_eq_true.mp h _ (List.mem_of_getElem? e)
  cases this
theorem nIns_of {s : Slot} (h : s.owned = false) : nIns s = true := by cases s <;> first | rfl | cases h
section
variable {T : List (Addr × Str)} {X : Cx} {W : Wi} {pos pos' : Pos}
/-- x = [[]] -/
def tNest (i : Nat) : TS := fun D' σ H => ∀ a b, H a = none → H b = none → a ≠ b → D'.nx (σ.set i (some (.ref b))) (upd (upd H a (.lst [])) b (.lst [.ref a]))
theorem ps_nest {x : Str} {p1 p2 : Pos} (i : Nat) (hN : X.N.Nodup) (hi : X.N[i]? = some x := by rfl) (hx : L2.Loc X.env.scope x := by first | exact Or.inl rfl | exact Or.inr rfl) (hs : swapsWith (.List [.List [] p1] p2) (some (.Name x pos')) pos.line X.env = pure false := by rfl) (hf : X.fn x = true ∨ X.env.scope.names.lookup x = some .local := by first | exact .inl rfl | exact .inr rfl | assumption)
    (hse : starEach [.List [] p1] X.env = (false, eval (.List [] p1) X.env) :: starEach [] X.env := by rfl) : PS X (.Assign [.Name x pos'] (.List [.List [] p1] p2) pos) (tNest i) :=
  weakS (ps_set hN hi hx (pe_lst (pa_cons (pe_lst pa_nil) pa_nil hse)) hs hf) fun D' σ H h => by
    refine ⟨by decide, fun a ha => ⟨(by show 1 ≤ sizeLine; decide), fun b hb => ?_⟩⟩
    have hab : b ≠ a := fun z => by rw [z, upd_same] at hb; cases hb
    rw [upd_ne hab] at hb
    exact h a b ha hb (Ne.symm hab)
/-- x[y].insert(z // 64 % (len(x[y]) + 1), w) -/
def tIns (K : PySem.W.Frag) (mg : Str → Option Value) (T : List (Addr × Str)) (x y z w : Nat) : TS := fun D' σ H => ∃ F δ p f xs hr, Lcl K mg T F H σ δ ∧ ixO x (vr y) δ = .ok (.opq p) ∧ vr z δ = .ok (.int hr) ∧ vr w δ = .ok (.opq f) ∧ Cell F H p xs ∧ xs.length < 1000 ∧
  ∀ F' H', Step T F H F' H' → D'.nx σ (upd H' p (.lst (putL (posW hr xs.length).toNat (.ref f) xs)))
theorem posW_ok (h : Int) (m : Nat) : 0 ≤ posW h m ∧ posW h m ≤ m := by
  unfold posW
  have h1 := Int.emod_nonneg (h / 64) (show ((m : Int) + 1) ≠ 0 by omega)
  have h2 := Int.emod_lt_of_pos (h / 64) (show (0 : Int) < (m : Int) + 1 by omega)
  omega
theorem ps_ins {x y z w : Str} {p1 p2 p3 p4 p5 p6 p7 p8 q1 q2 q3 q4 q5 q6 q7 pa pc : Pos} {j1 j2 : Nat} (ix iy iz iw : Nat) (hm : X.mg "len" = none)
    (hx : DE T X W (.Subscript (.Name x p1) (.Name y p2) p3) (ixO ix (vr iy))) (hx2 : DE T X W (.Subscript (.Name x q1) (.Name y q2) q3) (ixO ix (vr iy))) (hz : DE T X W (.BinOp (.Name z p4) .FloorDiv (.Constant (.int 64) j1 p5) p6) (bin fdivD (vr iz) (cst (.int 64)))) (hw : DE T X W (.Name w p7) (vr iw))
    (hg : Gl X "len" := by rfl)
    (hsw : swapsWith (.Call (.Attribute (.Subscript (.Name x p1) (.Name y p2) p3) "insert" pa) [.BinOp (.BinOp (.Name z p4) .FloorDiv (.Constant (.int 64) j1 p5) p6) .Mod (.BinOp (.Call (.Name "len" q4) [.Subscript (.Name x q1) (.Name y q2) q3] [] q5) .Add (.Constant (.int 1) j2 q6) q7) p8, .Name w p7] [] pc) none pos.line X.env = pure false := by rfl)
    (hse : starEach (.BinOp (.BinOp (.Name z p4) .FloorDiv (.Constant (.int 64) j1 p5) p6) .Mod (.BinOp (.Call (.Name "len" q4) [.Subscript (.Name x q1) (.Name y q2) q3] [] q5) .Add (.Constant (.int 1) j2 q6) q7) p8 :: [.Name w p7]) X.env = (false, eval (.BinOp (.BinOp (.Name z p4) .FloorDiv (.Constant (.int 64) j1 p5) p6) .Mod (.BinOp (.Call (.Name "len" q4) [.Subscript (.Name x q1) (.Name y q2) q3] [] q5) .Add (.Constant (.int 1) j2 q6) q7) p8) X.env) :: starEach [.Name w p7] X.env := by rfl)
    (hbase : attributeBase (.Subscript (.Name x p1) (.Name y p2) p3) "insert" X.env (eval (.Subscript (.Name x p1) (.Name y p2) p3) X.env) = eval (.Subscript (.Name x p1) (.Name y p2) p3) X.env := by rfl)
    (hfew : ((backTo pc (starEach (.BinOp (.BinOp (.Name z p4) .FloorDiv (.Constant (.int 64) j1 p5) p6) .Mod (.BinOp (.Call (.Name "len" q4) [.Subscript (.Name x q1) (.Name y q2) q3] [] q5) .Add (.Constant (.int 1) j2 q6) q7) p8 :: [.Name w p7]) X.env)).all (fun x => !x.1) && (backToKw pc (keywordEach [] X.env)).all (fun x => x.1.isSome)
      && decide (([.BinOp (.BinOp (.Name z p4) .FloorDiv (.Constant (.int 64) j1 p5) p6) .Mod (.BinOp (.Call (.Name "len" q4) [.Subscript (.Name x q1) (.Name y q2) q3] [] q5) .Add (.Constant (.int 1) j2 q6) q7) p8, .Name w p7] : List Expr).length + ([] : List Keyword).length + (if ([] : List Keyword).isEmpty then 0 else 1) < 30)) = true := by rfl)
    (hline : (pa.endLine == pc.line) = true := by rfl) (hplain : (backTo pc (starEach [.Name w p7] X.env)).any (·.1) = false := by rfl) :
    PS X (.Expr (.Call (.Attribute (.Subscript (.Name x p1) (.Name y p2) p3) "insert" pa) [.BinOp (.BinOp (.Name z p4) .FloorDiv (.Constant (.int 64) j1 p5) p6) .Mod (.BinOp (.Call (.Name "len" q4) [.Subscript (.Name x q1) (.Name y q2) q3] [] q5) .Add (.Constant (.int 1) j2 q6) q7) p8, .Name w p7] [] pc) pos) (tIns X.K X.mg T ix iy iz iw) :=
  weakS (ps_expr (pe_bm PySem.F.plainAttrs_list PySem.F.slot_list_insert PySem.F.type_list_insert mt_insert hx (pa_cons (pe_op op_mod hz (pe_op op_add (pe_callB call_len hg hm PySem.boot_len (pa_cons hx2 pa_nil)) pe_int)) (pa_cons hw pa_nil) hse) hbase hfew hline hse hplain) hsw) fun D' σ H ⟨F, δ, p, f, xs, hr, L, e1, e2, e3, c, hlen, k⟩ => by
    refine ⟨F, δ, L, ?_⟩
    rw [e1]
    intro v F1 H1 s1 r1
    cases r1
    have c1 := c.step s1
    refine ⟨.inl ⟨rfl, xs, .of c1.e⟩, ?_⟩
    refine ⟨F1, δ, L.step s1, ?_⟩
    rw [bin_eq, e2, bind_ok, cst_eq, bind_ok]
    show PostE X.K X.mg T F1 H1 W _ (.ok (.int (hr / 64)))
    intro v2 F2 H2 s2 r2
    cases r2
    have c2 := c1.step s2
    refine ⟨F2, δ, (L.step s1).step s2, ?_⟩
    rw [e1]
    intro v3 F3 H3 s3 r3
    cases r3
    have c3 := c2.step s3
    refine ⟨_, xs.length, rfl, .inl ⟨xs, .of c3.e, rfl⟩, ?_⟩
    refine ⟨_, _, rfl, rfl, ?_⟩
    refine ⟨_, _, rfl, rfl, by omega, ?_⟩
    refine ⟨F3, δ, ((L.step s1).step s2).step s3, ?_⟩
    rw [e3]
    intro v4 F4 H4 s4 r4
    cases r4
    have c4 := c3.step s4
    have hp := posW_ok hr xs.length
    refine ⟨p, xs, _, _, rfl, rfl, c4.e, Nat.lt_of_lt_of_le hlen (by decide), hp.1, by unfold posW at hp; omega, ?_⟩
    exact k F4 H4 (((s1.trans s2).trans s3).trans s4)
end
end Dn


set_option Elab.async false
set_option linter.all false
set_option maxRecDepth 100000
set_option maxHeartbeats 4000000
namespace Dn
open PySem PySem.Spec PyProof.Rows L2
theorem atI_nn {α : Type} {l : List α} {i : Int} (h0 : 0 ≤ i) (h1 : i < l.length) : atI l i = l[i.toNat]? := by
  unfold atI ixN
  rw [if_pos h0, if_pos h1]
  rfl
theorem ixD_at {xs : List D} {i : Int} {d : D} (h : atI xs i = some d) : ixD (.lst xs) (.int i) = .ok d := by
  show (match atI xs i with | some d => Res.ok d | none => .stuck) = _
  rw [h]
theorem sizes_len : ∀ cs : List LT, cs.length ≤ LT.sizes cs
  | [] => by rw [LT.sizes]; exact Nat.le_refl _
  | .nd k ds :: cs => by rw [LT.sizes, LT.size, List.length_cons]; have := sizes_len cs; omega
mutual
theorem kids_len {j : Nat} {ks : List Nat} : ∀ {t : LT}, t.kids j = some ks → ks.length < t.size
  | .nd k cs, e => by
    rw [LT.kids] at e
    rw [LT.size]
    by_cases q : k = j
    · rw [if_pos q] at e
      cases e
      rw [List.length_map]
      have := sizes_len cs
      omega
    · rw [if_neg q] at e
      have := kidss_len e
      omega
theorem kidss_len {j : Nat} {ks : List Nat} : ∀ {cs : List LT}, LT.kidss j cs = some ks → ks.length < LT.sizes cs
  | [], e => by rw [LT.kidss] at e; cases e
  | c :: cs, e => by
    rw [LT.kidss] at e
    rw [LT.sizes]
    cases q : c.kids j with
    | some ks' => rw [q] at e; cases e; have := kids_len q; omega
    | none => rw [q] at e; have := kidss_len e; omega
end
def dW (more many : Int) (p0 : Addr) (ps : List Addr) (s5 s6 s7 s8 : Slot) : Sto := [.val (.int more), .val (.int many), .val (.lst [.opq p0]), .own (ps.map .opq), .val (.lst []), s5, s6, s7, s8]
def okDr (dd : List D → Res D) (more : Int) (j : Nat) : Bool := match dd [.int more, .int j] with
  | .ok (.int _) => true
  | _ => false
def drF (dd : List D → Res D) (more : Int) (j : Nat) : Int := match dd [.int more, .int j] with
  | .ok (.int z) => z
  | _ => 0
theorem drF_ok {dd : List D → Res D} {more : Int} {j : Nat} (h : okDr dd more j = true) : dd [.int more, .int j] = .ok (.int (drF dd more j)) := by
  unfold okDr at h
  unfold drF
  split at h
  · rename_i z e; rw [e]
  · cases h
def f1W (dd : List D → Res D) : Sto → Out := asg 6 (app dd (consA (vr 0) (consA (vr 5) nilA)))
def f2W : Sto → Out := asg 7 (bin ixD (app mkL (consA (bin modD (vr 6) (lenO 3)) (consA (bin subD (lenO 3) (cst (.int 1))) (consA (cst (.int 0)) (consA (app max2D (consA (cst (.int 0)) (consA (bin subD (bin subD (lenO 3) (cst (.int 1))) (bin modD (vr 6) (cst (.int 3)))) nilA))) nilA))))) (bin modD (vr 0) (cst (.int 4))))
def f3W : Sto → Out := asgN 8 (newA nilA)
def f5W : Sto → Out := appS 3 (vr 8)
theorem f1W_is {dd : List D → Res D} {more many : Int} {p0 : Addr} {ps : List Addr} {s6 s7 s8 : Slot} {k : Nat} (h : okDr dd more k = true) : f1W dd (dW more many p0 ps (.val (.int k)) s6 s7 s8) = .nx (dW more many p0 ps (.val (.int k)) (.val (.int (drF dd more k))) s7 s8) := by
  unfold f1W dW
  simp only [seqS_eq, seq_nx, seq_rt, seq_rs, asg_eq, asgN_eq, drp_eq, retS_eq, retN_eq, rais_eq, ifS_eq, forF_eq, itS_eq, rngA_eq, vr_eq, cst_eq, bin_eq, un_eq, consA_eq, nilA_eq, app_eq, tst_eq, asB_bl, andT_eq, orT_eq, notT_eq, notD_bl, ifE_eq, newA_eq, lstE_eq, noP_eq, part_eq, asP_int, slc_eq, binS_eq, yes_eq, List.getElem?_cons_succ, List.getElem?_cons_zero, List.set, bind_ok, bind_rs, out_ok, out_rs, fin_rt, fin_rs, fin_nx, if_true, Bool.false_eq_true, if_false, Bool.not_true, Bool.not_false, decide_true, decide_false, nopS_eq, addD_int, subD_int, negD_int, ltD_int, leD_int, gtD_int, geD_int, eqD_int, neD_int, eqD_str, neD_str, lenD_lst, lenD_tup, lenD_scr, max2D_int, min2D_int, asSeq_lst, asSeq_tup, asSeq_str, binN_eq, frzS_eq, appS_eq, ixO_eq, stoS_eq, lenO_eq, asgU_eq, tgU_tup, tgU_lst, tgP_tup, asg2_eq, chn_eq, lnk_bl, isID_int, isID_bl, isID_non, isBD_int, isBD_bl, isBD_non, isPD_tup, isLD_lst, isLD_str, enumD_lst, zipD_lst, List.map_cons, List.map_nil, List.replicate_succ, List.replicate_zero, List.cons_append, List.nil_append, drF_ok h]
theorem f2W_is {more many hr : Int} {p0 : Addr} {ps : List Addr} {s5 s7 s8 : Slot} (h : 0 < ps.length) : f2W (dW more many p0 ps s5 (.val (.int hr)) s7 s8) = .nx (dW more many p0 ps s5 (.val (.int hr)) (.val (.int (atW more hr ps.length))) s8) := by
  unfold f2W dW
  have hp : (0 : Int) < ((ps.map D.opq).length : Nat) := by rw [List.length_map]; omega
  have e1 : modD (.int hr) (.int ((ps.map D.opq).length : Nat)) = .ok (.int (hr % ((ps.map D.opq).length : Nat))) := by
    exact modD_int hp
  have e2 : modD (.int hr) (.int 3) = .ok (.int (hr % 3)) := modD_int (by decide)
  have e3 : modD (.int more) (.int 4) = .ok (.int (more % 4)) := modD_int (by decide)
  simp only [seqS_eq, seq_nx, seq_rt, seq_rs, asg_eq, asgN_eq, drp_eq, retS_eq, retN_eq, rais_eq, ifS_eq, forF_eq, itS_eq, rngA_eq, vr_eq, cst_eq, bin_eq, un_eq, consA_eq, nilA_eq, app_eq, tst_eq, asB_bl, andT_eq, orT_eq, notT_eq, notD_bl, ifE_eq, newA_eq, lstE_eq, noP_eq, part_eq, asP_int, slc_eq, binS_eq, yes_eq, List.getElem?_cons_succ, List.getElem?_cons_zero, List.set, bind_ok, bind_rs, out_ok, out_rs, fin_rt, fin_rs, fin_nx, if_true, Bool.false_eq_true, if_false, Bool.not_true, Bool.not_false, decide_true, decide_false, nopS_eq, addD_int, subD_int, negD_int, ltD_int, leD_int, gtD_int, geD_int, eqD_int, neD_int, eqD_str, neD_str, lenD_lst, lenD_tup, lenD_scr, max2D_int, min2D_int, asSeq_lst, asSeq_tup, asSeq_str, binN_eq, frzS_eq, appS_eq, ixO_eq, stoS_eq, lenO_eq, asgU_eq, tgU_tup, tgU_lst, tgP_tup, asg2_eq, chn_eq, lnk_bl, isID_int, isID_bl, isID_non, isBD_int, isBD_bl, isBD_non, isPD_tup, isLD_lst, isLD_str, enumD_lst, zipD_lst, List.map_cons, List.map_nil, List.replicate_succ, List.replicate_zero, List.cons_append, List.nil_append, e1, e2, e3]
  have e4 : ∀ a b c d : D, mkL [a, b, c, d] = .ok (.lst [a, b, c, d]) := fun a b c d => mkL_ok (by show 4 ≤ line; decide)
  rw [e4]
  simp only [bind_ok]
  have hm := Int.emod_nonneg more (show (4 : Int) ≠ 0 by decide)
  have hm2 := Int.emod_lt_of_pos more (show (0 : Int) < 4 by decide)
  unfold atW
  rw [List.length_map]
  rcases (show more % 4 = 0 ∨ more % 4 = 1 ∨ more % 4 = 2 ∨ more % 4 = 3 by omega) with e | e | e | e
  · rw [e]; rfl
  · rw [e]; rfl
  · rw [e]; rfl
  · rw [e]; rfl
theorem f3W_is {more many : Int} {p0 : Addr} {ps : List Addr} {s5 s6 s7 s8 : Slot} : f3W (dW more many p0 ps s5 s6 s7 s8) = .nx (dW more many p0 ps s5 s6 s7 (.own [])) := by
  unfold f3W dW
  have e : mkN [] = .ok [] := by unfold mkN; rw [if_pos (by decide)]
  simp only [seqS_eq, seq_nx, seq_rt, seq_rs, asg_eq, asgN_eq, drp_eq, retS_eq, retN_eq, rais_eq, ifS_eq, forF_eq, itS_eq, rngA_eq, vr_eq, cst_eq, bin_eq, un_eq, consA_eq, nilA_eq, app_eq, tst_eq, asB_bl, andT_eq, orT_eq, notT_eq, notD_bl, ifE_eq, newA_eq, lstE_eq, noP_eq, part_eq, asP_int, slc_eq, binS_eq, yes_eq, List.getElem?_cons_succ, List.getElem?_cons_zero, List.set, bind_ok, bind_rs, out_ok, out_rs, fin_rt, fin_rs, fin_nx, if_true, Bool.false_eq_true, if_false, Bool.not_true, Bool.not_false, decide_true, decide_false, nopS_eq, addD_int, subD_int, negD_int, ltD_int, leD_int, gtD_int, geD_int, eqD_int, neD_int, eqD_str, neD_str, lenD_lst, lenD_tup, lenD_scr, max2D_int, min2D_int, asSeq_lst, asSeq_tup, asSeq_str, binN_eq, frzS_eq, appS_eq, ixO_eq, stoS_eq, lenO_eq, asgU_eq, tgU_tup, tgU_lst, tgP_tup, asg2_eq, chn_eq, lnk_bl, isID_int, isID_bl, isID_non, isBD_int, isBD_bl, isBD_non, isPD_tup, isLD_lst, isLD_str, enumD_lst, zipD_lst, List.map_cons, List.map_nil, List.replicate_succ, List.replicate_zero, List.cons_append, List.nil_append, e]
theorem f5W_is {more many : Int} {p0 f : Addr} {ps : List Addr} {s5 s6 s7 : Slot} (h : ps.length < 1000) : f5W (dW more many p0 ps s5 s6 s7 (.val (.opq f))) = .nx (dW more many p0 (ps ++ [f]) s5 s6 s7 (.val (.opq f))) := by
  unfold f5W dW
  have e : (ps.map D.opq).length < line := by rw [List.length_map]; exact Nat.lt_of_lt_of_le h (by decide)
  simp only [seqS_eq, seq_nx, seq_rt, seq_rs, asg_eq, asgN_eq, drp_eq, retS_eq, retN_eq, rais_eq, ifS_eq, forF_eq, itS_eq, rngA_eq, vr_eq, cst_eq, bin_eq, un_eq, consA_eq, nilA_eq, app_eq, tst_eq, asB_bl, andT_eq, orT_eq, notT_eq, notD_bl, ifE_eq, newA_eq, lstE_eq, noP_eq, part_eq, asP_int, slc_eq, binS_eq, yes_eq, List.getElem?_cons_succ, List.getElem?_cons_zero, List.set, bind_ok, bind_rs, out_ok, out_rs, fin_rt, fin_rs, fin_nx, if_true, Bool.false_eq_true, if_false, Bool.not_true, Bool.not_false, decide_true, decide_false, nopS_eq, addD_int, subD_int, negD_int, ltD_int, leD_int, gtD_int, geD_int, eqD_int, neD_int, eqD_str, neD_str, lenD_lst, lenD_tup, lenD_scr, max2D_int, min2D_int, asSeq_lst, asSeq_tup, asSeq_str, binN_eq, frzS_eq, appS_eq, ixO_eq, stoS_eq, lenO_eq, asgU_eq, tgU_tup, tgU_lst, tgP_tup, asg2_eq, chn_eq, lnk_bl, isID_int, isID_bl, isID_non, isBD_int, isBD_bl, isBD_non, isPD_tup, isLD_lst, isLD_str, enumD_lst, zipD_lst, List.map_cons, List.map_nil, List.replicate_succ, List.replicate_zero, List.cons_append, List.nil_append, if_pos e, List.map_append]
theorem dW_ni {more many : Int} {p0 : Addr} {ps : List Addr} {s5 s6 s7 s8 : Slot} (h5 : nIns s5 = true) (h6 : nIns s6 = true) (h7 : nIns s7 = true) (h8 : nIns s8 = true) : NoIns (dW more many p0 ps s5 s6 s7 s8) := .of (by
  show (true && (true && (true && (true && (true && (nIns s5 && (nIns s6 && (nIns s7 && (nIns s8 && true))))))))) = true
  rw [h5, h6, h7, h8]; rfl)
structure TW (K : PySem.W.Frag) (mg : Str → Option Value) (T : List (Addr × Str)) (dd : List D → Res D) (more many : Int) (F0 H0 : Hp) (p0 : Addr) (k : Nat) (F : Hp) (δ : Sto) (σ : L2.St) (H : Hp) (ps : List Addr) (s5 s6 s7 s8 : Slot) : Prop where
  E : En K mg T F0 H0 F H σ δ
  P : Pool T H0 F H σ δ ps (treeW (drF dd more) more k)
  n : ps.length = k + 1
  z : ps[0]? = some p0
  d : δ = dW more many p0 ps s5 s6 s7 s8
  h5 : nIns s5 = true
  h6 : nIns s6 = true
  h7 : nIns s7 = true
  h8 : s8.owned = false
section
variable {T : List (Addr × Str)} {X : Cx} {W : Wi} {pos pos' : Pos} {st1 st2 st3 st4 st5 : Stmt} {dd : List D → Res D}
def tBody (K : PySem.W.Frag) (mg : Str → Option Value) (T : List (Addr × Str)) (dd : List D → Res D) : TS := fun D' σ H => ∃ more many F0 H0 p0 k F δ ps s6 s7 s8, TW K mg T dd more many F0 H0 p0 k F δ σ H ps (.val (.int (k : Nat))) s6 s7 s8 ∧ okDr dd more k = true ∧ k < 900 ∧
  ∀ F' δ' σ' H' ps' s5' s6' s7' s8', Rel F F' → TW K mg T dd more many F0 H0 p0 (k + 1) F' δ' σ' H' ps' s5' s6' s7' s8' → D'.nx σ' H'
theorem pss_body (h1 : DS T X W st1 (f1W dd)) (h2 : DS T X W st2 f2W) (h3 : DS T X W st3 f3W) (h4 : PS X st4 (tIns X.K X.mg T 3 7 6 8)) (h5 : DS T X W st5 f5W) : PSs X [st1, st2, st3, st4, st5] (tBody X.K X.mg T dd) :=
  weakSs (pss_cons (lift h1) (pss_cons (lift h2) (pss_cons (lift h3) (pss_cons h4 (pss_one (lift h5)))))) fun D' σ H ⟨more, many, F0, H0, p0, k, F, δ, ps, s6, s7, s8, S, hd, hk, K⟩ => by
    obtain ⟨E, P, hn, hz, rfl, _, h6, h7, h8⟩ := S
    refine tW_nx E (f1W_is hd) (dW_ni rfl rfl h7 (nIns_of h8)) fun σ1 F1 H1 t1 fr1 E1 => ?_
    have P1 := P.next t1 fr1
    refine tW_nx E1 (f2W_is (by omega)) (dW_ni rfl rfl rfl (nIns_of h8)) fun σ2 F2 H2 t2 fr2 E2 => ?_
    have P2 := P1.next t2 fr2
    refine tW_nx E2 f3W_is (dW_ni rfl rfl rfl rfl) fun σ3 F3 H3 t3 fr3 E3 => ?_
    have P3 := P2.next t3 fr3
    obtain ⟨f, vs, q, nF, hH, rv, ow, frf, E4, sub⟩ := E3.flip (i := 8) (ds := []) rfl
    cases rv
    have P4 := P3.own (σ' := σ3) fun a h => (sub a h).1
    have nf : f ∉ ps := fun z => (P3.cell f z).2.2.2 ow
    have P5 := P4.more nF hH frf (fun z => (sub f z).2 rfl) nf
    have ha := atW_ok more (drF dd more k) (n := ps.length) (by omega)
    have hlt : (atW more (drF dd more k) ps.length).toNat < ps.length := by omega
    have cnt := treeW_cnt (drF dd more) more k (atW more (drF dd more k) ps.length).toNat
    rw [if_pos (by omega)] at cnt
    obtain ⟨ks, hks⟩ := kids_some (t := treeW (drF dd more) more k) (j := (atW more (drF dd more k) ps.length).toNat) (by omega)
    obtain ⟨hkl, p, hp, hHp⟩ := At_kids P5.at' hks
    have hp' : ps[(atW more (drF dd more k) ps.length).toNat]? = some p := by
      rw [List.getElem?_append_left hlt] at hp
      exact hp
    have hmem : p ∈ ps := List.mem_of_getElem? hp'
    obtain ⟨c1, _, c3, c4⟩ := P4.cell p hmem
    have hkn : ks.length < 1000 := by
      have h1 := kids_len hks
      rw [treeW_size] at h1
      omega
    refine ⟨F3, _, p, f, _, drF dd more k, E4.L, ?_, rfl, rfl, ⟨c1, hHp⟩, by rw [List.length_map]; exact hkn, fun F5 H5 t5 => ?_⟩
    · show (Res.ok (D.int (atW more (drF dd more k) ps.length))).bind (fun k => ixD (.lst (ps.map .opq)) k) = _
      rw [bind_ok]
      have : atI (ps.map D.opq) (atW more (drF dd more k) ps.length) = some (.opq p) := by
        rw [atI_map, atI_nn ha.1 (by omega), hp']
        rfl
      exact ixD_at this
    · have E5 := E4.step t5
      have P6 := P5.step t5
      have c5 := Cell.step (F := F3) ⟨c1, hHp⟩ t5
      have f5 := Cell.step (F := F3) ⟨nF, hH⟩ t5
      have hfp : f ≠ p := fun z => nf (by rw [z]; exact hmem)
      have P7 := P6.ins (i := (posW (drF dd more k) ks.length).toNat) (n := ps.length) hp (by rw [List.getElem?_append_right (Nat.le_refl _)]; simp) c5.e f5.e hfp
      have E7 := E5.turn (us := putL (posW (drF dd more k) ks.length).toNat (V.ref f) (ks.map fun j => .ref ((ps ++ [f]).getD j 0))) c5.n c5.e c3 c4
      rw [List.length_map]
      refine tW_nx E7 (f5W_is (by omega)) (dW_ni rfl rfl rfl rfl) fun σ8 F8 H8 t8 fr8 E8 => ?_
      have P8 := P7.next t8 fr8
      refine K F8 _ σ8 H8 (ps ++ [f]) _ _ _ _ ((((t1.r.trans t2.r).trans t3.r).trans t5.r).trans t8.r) ⟨E8, ?_, by rw [List.length_append, hn]; rfl, by rw [List.getElem?_append_left (by omega)]; exact hz, rfl, rfl, rfl, rfl, rfl⟩
      have : treeW (drF dd more) more (k + 1) = LT.ins (atW more (drF dd more k) ps.length).toNat (posW (drF dd more k) ks.length).toNat ps.length (treeW (drF dd more) more k) := by
        rw [treeW, stepW, hn]
        unfold lenW
        rw [← hn, hks]
        rfl
      rw [this]
      exact P8
/-- what the whole computes -/
def lawTreeF (dd : List D → Res D) : Sto → Out
  | [.val (.int more), .val (.int many), .no, .no, .no, .no, .no, .no, .no] => if 1 ≤ many ∧ many ≤ 800 ∧ (List.range 800).all (okDr dd more) = true then .rt (treeW (drF dd more) more (many - 1).toNat).toD else .stuck
  | _ => .stuck
theorem upTo_get {lo : Int} {n k : Nat} {d : D} (h : (upTo lo n)[k]? = some d) : d = .int (lo + k) ∧ k < n := by
  unfold upTo at h
  rw [List.getElem?_map] at h
  cases q : (List.range n)[k]? with
  | none => rw [q] at h; cases h
  | some j =>
    rw [q] at h
    cases h
    have hl := (List.getElem?_eq_some_iff.mp q)
    obtain ⟨h1, h2⟩ := hl
    rw [List.length_range] at h1
    rw [List.getElem_range] at h2
    subst h2
    exact ⟨rfl, h1⟩
theorem dss_lawtree {iter tg : Expr} {s1 s2 s3 s5 : Stmt} {bd : List Stmt} (hp : PassesOwn (model X.prog X.w) X.A X.env X.xe) (hc : X.calm = true)
    (h1 : PS X s1 (tNest 2)) (h2 : DS T X W s2 (asgN 3 (newA (consA (bin ixD (vr 2) (cst (.int 0))) nilA)))) (h3 : DS T X W s3 (asg 4 (app mkL nilA))) (hi : DI T X W tg iter (rngA asRng1 (consA (bin subD (vr 1) (cst (.int 1))) nilA))) (hg : DG T X tg (tgN 5))
    (hb : PSs X bd (tBody X.K X.mg T dd)) (hr : PS X s5 (tRet (tD X.K X.mg T W (bin ixD (vr 2) (cst (.int 0)))))) (hs : ∀ x, foldedSetIterable iter X.env x = pure x := by intro _; rfl) :
    DSs T X W [s1, s2, s3, .For tg iter bd [] pos, s5] (lawTreeF dd) :=
  weakSs (pss_cons h1 (pss_cons (lift h2) (pss_cons (lift h3) (pss_cons (ps_walk hp hc hi hg hb hs) (pss_one hr))))) fun D' σ H ⟨F0, H0, F, δ, S, h⟩ => by
    unfold lawTreeF at h
    split at h
    · rename_i more many
      split at h
      · rename_i hc
        obtain ⟨m1, m2, hdr⟩ := hc
        have E : En X.K X.mg T F0 H0.1 F H σ _ := .of_str S (.of rfl)
        intro a b ha hb hab
        have nFa : F a = none := E.L.sub.none ha
        have E1 := E.step (Step.junk (o := .lst []) E.L.gd ha)
        have hb1 : upd H a (.lst []) b = none := by rw [upd_ne (Ne.symm hab)]; exact hb
        have sn := Step.new (o := .lst [.ref a]) E1.L.gd hb1
        have E2 := E1.step sn
        have own0 : ∀ c, ¬ Own σ [Slot.val (.int more), .val (.int many), .no, .no, .no, .no, .no, .no, .no] c := fun c ⟨i, s, e, o, _⟩ => by
          have hm := List.mem_of_getElem? e
          simp at hm
          rcases hm with q | q | q <;> rw [q] at o <;> cases o
        have L3 := E2.L.set (i := 2) (ov := some (.ref b)) (s := .val (.lst [.opq a])) (fun _ => ⟨_, rfl, RpL.lst upd_same (.cons (.opq a) .nil)⟩) (fun z => by cases z)
        have own3 : ∀ c, ¬ Own (σ.set 2 (some (.ref b))) [Slot.val (.int more), .val (.int many), .val (.lst [.opq a]), .no, .no, .no, .no, .no, .no] c := fun c ⟨i, s, e, o, _⟩ => by
          have hm := List.mem_of_getElem? e
          simp at hm
          rcases hm with q | q | q | q <;> rw [q] at o <;> cases o
        have E3 : En X.K X.mg T F0 H0.1 _ _ (σ.set 2 (some (.ref b))) [Slot.val (.int more), .val (.int many), .val (.lst [.opq a]), .no, .no, .no, .no, .no, .no] := ⟨E2.sub0, E2.st, L3, .of rfl, fun c z => (own3 c z).elim⟩
        have P3 : Pool T H0.1 (upd F b (.lst [.ref a])) (upd (upd H a (.lst [])) b (.lst [.ref a])) (σ.set 2 (some (.ref b))) [Slot.val (.int more), .val (.int many), .val (.lst [.opq a]), .no, .no, .no, .no, .no, .no] [a] (.nd 0 []) := by
          refine ⟨by simp, fun p hp => ?_, ?_⟩
          · rw [List.mem_singleton] at hp
            subst hp
            exact ⟨by rw [upd_ne hab]; exact nFa, ⟨[], by rw [upd_ne hab, upd_same]⟩, S.st.back S.sub0 (.of ha), own3 p⟩
          · rw [LT.At, LT.Ats]
            exact ⟨⟨fun j hj => (by cases hj), a, rfl, (by rw [upd_ne hab, upd_same]; rfl)⟩, trivial⟩
        have e2 : asgN 3 (newA (consA (bin ixD (vr 2) (cst (.int 0))) nilA)) [Slot.val (.int more), .val (.int many), .val (.lst [.opq a]), .no, .no, .no, .no, .no, .no] = .nx [Slot.val (.int more), .val (.int many), .val (.lst [.opq a]), .own [.opq a], .no, .no, .no, .no, .no] := rfl
        refine tW_nx E3 e2 (.of rfl) fun σ4 F4 H4 t4 fr4 E4 => ?_
        have P4 := P3.next t4 fr4
        have e3 : asg 4 (app mkL nilA) [Slot.val (.int more), .val (.int many), .val (.lst [.opq a]), .own [.opq a], .no, .no, .no, .no, .no] = .nx [Slot.val (.int more), .val (.int many), .val (.lst [.opq a]), .own [.opq a], .val (.lst []), .no, .no, .no, .no] := rfl
        refine tW_nx E4 e3 (.of rfl) fun σ5 F5 H5 t5 fr5 E5 => ?_
        have P5 := P4.next t5 fr5
        have ei : rngA asRng1 (consA (bin subD (vr 1) (cst (.int 1))) nilA) [Slot.val (.int more), .val (.int many), .val (.lst [.opq a]), .own [.opq a], .val (.lst []), .no, .no, .no, .no] = .ok (upTo 0 (many - 1).toNat) := by
          simp only [seqS_eq, seq_nx, seq_rt, seq_rs, asg_eq, asgN_eq, drp_eq, retS_eq, retN_eq, rais_eq, ifS_eq, forF_eq, itS_eq, rngA_eq, vr_eq, cst_eq, bin_eq, un_eq, consA_eq, nilA_eq, app_eq, tst_eq, asB_bl, andT_eq, orT_eq, notT_eq, notD_bl, ifE_eq, newA_eq, lstE_eq, noP_eq, part_eq, asP_int, slc_eq, binS_eq, yes_eq, List.getElem?_cons_succ, List.getElem?_cons_zero, List.set, bind_ok, bind_rs, out_ok, out_rs, fin_rt, fin_rs, fin_nx, if_true, Bool.false_eq_true, if_false, Bool.not_true, Bool.not_false, decide_true, decide_false, nopS_eq, addD_int, subD_int, negD_int, ltD_int, leD_int, gtD_int, geD_int, eqD_int, neD_int, eqD_str, neD_str, lenD_lst, lenD_tup, lenD_scr, max2D_int, min2D_int, asSeq_lst, asSeq_tup, asSeq_str, binN_eq, frzS_eq, appS_eq, ixO_eq, stoS_eq, lenO_eq, asgU_eq, tgU_tup, tgU_lst, tgP_tup, asg2_eq, chn_eq, lnk_bl, isID_int, isID_bl, isID_non, isBD_int, isBD_bl, isBD_non, isPD_tup, isLD_lst, isLD_str, enumD_lst, zipD_lst, List.map_cons, List.map_nil, List.replicate_succ, List.replicate_zero, List.cons_append, List.nil_append]
          exact rng1 (okI_of (by omega) (by omega))
        refine ⟨F5, _, _, E5.L, E5.ni, ei, fun k F δ σ H => ∃ ps s5 s6 s7 s8, TW X.K X.mg T dd more many F0 H0.1 a k F δ σ H ps s5 s6 s7 s8, ?_, ?_, ?_, ?_⟩
        · exact ⟨[a], _, _, _, _, E5, P5, rfl, rfl, rfl, rfl, rfl, rfl, rfl⟩
        · rintro k F δ σ H ⟨ps, s5, s6, s7, s8, Z⟩
          exact ⟨Z.E.L, Z.E.ni, fun F' H' st => ⟨ps, s5, s6, s7, s8, Z.E.step st, Z.P.step st, Z.n, Z.z, Z.d, Z.h5, Z.h6, Z.h7, Z.h8⟩⟩
        · rintro k d hd F1 δ1 σ1 H1 ⟨ps, s5, s6, s7, s8, Z⟩ σ2 F2 H2 st fr L2 ni2 D2 hnx hrt
          obtain ⟨rfl, hk⟩ := upTo_get hd
          obtain ⟨ZE, ZP, Zn, Zz, rfl, Z5, Z6, Z7, Z8⟩ := Z
          have e0 : ((0 : Int) + (k : Nat)) = (k : Nat) := by omega
          rw [e0] at fr L2 ni2
          refine ⟨more, many, F0, H0.1, a, k, F2, _, ps, s6, s7, s8, ⟨ZE.next st L2 ni2 fr, ZP.next st fr, Zn, Zz, rfl, rfl, Z6, Z7, Z8⟩, List.all_eq_true.mp hdr k (List.mem_range.mpr (by omega)), by omega, fun F' δ' σ' H' ps' s5' s6' s7' s8' rel Z' => hnx F' δ' σ' H' rel ⟨ps', s5', s6', s7', s8', Z'⟩⟩
        · rintro F6 δ6 σ6 H6 ⟨ps, s5, s6, s7, s8, Z⟩
          have hl : (upTo 0 (many - 1).toNat).length = (many - 1).toNat := by unfold upTo; simp
          rw [hl] at Z
          obtain ⟨ZE, ZP, Zn, Zz, rfl, Z5, Z6, Z7, Z8⟩ := Z
          refine ⟨F6, _, ZE.L, ?_⟩
          show PostE X.K X.mg T F6 H6 W _ (.ok (.opq a))
          intro v F7 H7 t7 rv
          cases rv
          have E7 := ZE.step t7
          have P7 := ZP.step t7
          obtain ⟨s8', _⟩ := step_frzA E7.st fun p hp => ⟨(P7.cell p hp).1, (P7.cell p hp).2.1, (P7.cell p hp).2.2.1⟩
          exact h _ _ _ s8' (rp_tree (fun p hp => frzA_in hp) P7.at' a (by rw [treeW_lab]; exact Zz))
      · exact h.elim
    · exact h.elim
end
end Dn


set_option Elab.async false
set_option linter.all false
set_option maxRecDepth 100000
set_option maxHeartbeats 4000000
namespace Dn
open PySem PySem.Spec PyProof.Rows L2
/-! ### a list of lists of one's own -/
section
variable {K : PySem.W.Frag} {mg : Str → Option Value} {T : List (Addr × Str)} {F0 H0 F H F' H' : Hp} {σ σ' : L2.St} {δ δ' : Sto}
theorem En.toStR (E : En K mg T F0 H0 F H σ δ) : StR K mg T F0 (H0, 0) F H σ δ := ⟨E.sub0, E.st, E.L, fun i s a e o q => ⟨E.fr a ⟨i, s, e, o, q⟩, fun C dx gs z => by
  obtain ⟨_, vs, e2⟩ := E.L.own_at E.ni ⟨i, s, e, o, q⟩
  rw [e2] at z; cases z⟩⟩
theorem En.turnO (E : En K mg T F0 H0 F H σ δ) {i : Nat} {ds : List D} {p : Addr} {us : List V} {es : List D} (e : δ[i]? = some (.own ds)) (q : σ[i]? = some (some (.ref p))) (r : RpL K mg F us es) : En K mg T F0 H0 F (upd H p (.lst us)) σ (δ.set i (.own es)) :=
  .of_str (H0' := (H0, 0)) (E.toStR.turn e q r) E.ni.set
theorem En.frz (E : En K mg T F0 H0 F H σ δ) {ps : List Addr} (h : ∀ p ∈ ps, F p = none ∧ (∃ vs, H p = some (.lst vs)) ∧ Fr0 T H0 p ∧ ¬ Own σ δ p) : En K mg T F0 H0 (frzA F H ps) H σ δ ∧ Rel F (frzA F H ps) := by
  obtain ⟨st, rel⟩ := step_frzA E.st fun p hp => ⟨(h p hp).1, (h p hp).2.1, (h p hp).2.2.1⟩
  refine ⟨⟨E.sub0, st, ⟨st.gd, E.L.len, fun i s e => ?_, E.L.apart⟩, E.ni, E.fr⟩, rel⟩
  obtain ⟨ov, q, ok⟩ := E.L.slot i s e
  refine ⟨ov, q, ?_⟩
  cases s with
  | no => trivial
  | val d =>
    obtain ⟨v, e1, r⟩ := ok
    exact ⟨v, e1, r.mono rel⟩
  | own ds =>
    obtain ⟨b, vs, rfl, nb, hb, rb⟩ := ok
    exact ⟨b, vs, rfl, by rw [frzA_out fun z => (h b z).2.2.2 ⟨i, _, e, rfl, q⟩]; exact nb, hb, rb.mono rel⟩
  | ins c fs => exact (E.ni i c fs e).elim
theorem En.setV (E : En K mg T F0 H0 F H σ δ) {i : Nat} {v : V} {d : D} (r : Rp K mg F v d) : En K mg T F0 H0 F H (σ.set i (some v)) (δ.set i (.val d)) :=
  .of_str (H0' := (H0, 0)) (E.toStR.setVal r) E.ni.set
/-- an owned list seen anew -/
theorem En.view (E : En K mg T F0 H0 F H σ δ) {i : Nat} {ds es : List D} (e : δ[i]? = some (.own ds)) (h : ∀ vs, RpL K mg F vs ds → RpL K mg F vs es) : En K mg T F0 H0 F H σ (δ.set i (.own es)) := by
  obtain ⟨ov, q, a, vs, rfl, nF, hH, rv⟩ := E.L.slot i _ e
  have := E.turnO e q (h vs rv)
  have eu : upd H a (.lst vs) = H := by
    funext b
    by_cases z : b = a
    · rw [z, upd_same, hH]
    · rw [upd_ne z]
  rw [eu] at this
  exact this
end
/-! ### the tree of bits -/
def runB : List Nat → List (List D) → Option (List (List D))
  | [], rs => some rs
  | c :: l, rs => if c = 49 then runB l ([] :: rs) else match rs with
    | top :: prev :: rest => runB l ((prev ++ [.lst top]) :: rest)
    | _ => none
def cellQ (K : PySem.W.Frag) (mg : Str → Option Value) (T : List (Addr × Str)) (H0 F H : Hp) (σ : L2.St) (δ : Sto) (q : Addr × List D) : Prop := F q.1 = none ∧ (∃ vs, H q.1 = some (.lst vs) ∧ RpL K mg F vs q.2) ∧ Fr0 T H0 q.1 ∧ ¬ Own σ δ q.1
def dB (l : List Nat) (qs : List (Addr × List D)) (s2 s3 : Slot) : Sto := [.val (.str l), .own ((qs.reverse).map fun q => .opq q.1), s2, s3]
structure TB (K : PySem.W.Frag) (mg : Str → Option Value) (T : List (Addr × Str)) (l : List Nat) (F0 H0 : Hp) (k : Nat) (F : Hp) (δ : Sto) (σ : L2.St) (H : Hp) (qs : List (Addr × List D)) (s2 s3 : Slot) : Prop where
  E : En K mg T F0 H0 F H σ δ
  nd : (qs.map Prod.fst).Nodup
  cell : ∀ q ∈ qs, cellQ K mg T H0 F H σ δ q
  n : qs.length ≤ k + 1
  m : ∀ q ∈ qs, q.2.length ≤ k
  d : δ = dB l qs s2 s3
  h2 : s2.owned = false
  h3 : s3.owned = false
section
variable {K : PySem.W.Frag} {mg : Str → Option Value} {T : List (Addr × Str)} {F0 H0 F H F' H' : Hp} {σ σ' : L2.St} {δ δ' : Sto}
theorem cellQ.next {q : Addr × List D} (c : cellQ K mg T H0 F H σ δ q) (st : Step T F (hide σ δ H) F' H') (fr' : ∀ a, Own σ' δ' a → Fr0 T (hide σ δ H) a) : cellQ K mg T H0 F' H' σ' δ' q := by
  obtain ⟨n, ⟨vs, e, r⟩, f, o⟩ := c
  have c' := Cell.next ⟨n, e⟩ o st
  exact ⟨c'.n, ⟨vs, c'.e, r.mono st.r⟩, f, Cell.not_own ⟨n, e⟩ o fr'⟩
theorem cellQ.step {q : Addr × List D} (c : cellQ K mg T H0 F H σ δ q) (st : Step T F H F' H') : cellQ K mg T H0 F' H' σ δ q := by
  obtain ⟨n, ⟨vs, e, r⟩, f, o⟩ := c
  have c' := Cell.step ⟨n, e⟩ st
  exact ⟨c'.n, ⟨vs, c'.e, r.mono st.r⟩, f, o⟩
end
section
variable {T : List (Addr × Str)} {X : Cx} {W : Wi} {pos pos' : Pos}
/-- x.append([]) -/
def tAppN (i : Nat) : TS := fun D' σ H => ∃ r xs, σ[i]? = some (some (.ref r)) ∧ H r = some (.lst xs) ∧ xs.length < 100000 ∧ ∀ a, H a = none → D'.nx σ (upd (upd H a (.lst [])) r (.lst (xs ++ [.ref a])))
theorem ps_appN {x : Str} {p1 px pa pc : Pos} (i : Nat) (hN : X.N[i]? = some x := by rfl) (hv : Vis X.env.scope x := by first | exact Or.inl rfl | exact Or.inr (Or.inl rfl) | exact Or.inr (Or.inr rfl)) (hd : (x == ("__debug__" : Str)) = false := by decide) (hcd : (x == ("__classdict__" : Str)) = false := by decide)
    (hsw : swapsWith (.Call (.Attribute (.Name x px) "append" pa) [.List [] p1] [] pc) none pos.line X.env = pure false := by rfl) (hse : starEach (.List [] p1 :: []) X.env = (false, eval (.List [] p1) X.env) :: starEach [] X.env := by rfl)
    (hbase : attributeBase (.Name x px) "append" X.env (eval (.Name x px) X.env) = eval (.Name x px) X.env := by rfl)
    (hfew : ((backTo pc (starEach (.List [] p1 :: []) X.env)).all (fun x => !x.1) && (backToKw pc (keywordEach [] X.env)).all (fun x => x.1.isSome) && decide (((.List [] p1 : Expr) :: []).length + ([] : List Keyword).length + (if ([] : List Keyword).isEmpty then 0 else 1) < 30)) = true := by rfl)
    (hline : (pa.endLine == pc.line) = true := by rfl) (hplain : (backTo pc (starEach [] X.env)).any (·.1) = false := by rfl) :
    PS X (.Expr (.Call (.Attribute (.Name x px) "append" pa) [.List [] p1] [] pc) pos) (tAppN i) :=
  weakS (ps_expr (pe_bm PySem.F.plainAttrs_list PySem.F.slot_list_append PySem.F.type_list_append mt_append (pe_var (i := i) hN hv hd hcd) (pa_cons (pe_lst pa_nil) pa_nil hse) hbase hfew hline hse hplain) hsw) fun D' σ H ⟨r, xs, q, hH, hl, k⟩ => by
    refine ⟨.ref r, q, .inl ⟨rfl, xs, .of hH⟩, by decide, fun a ha => ?_⟩
    have hra : r ≠ a := fun z => by rw [z, ha] at hH; cases hH
    exact ⟨r, xs, _, rfl, rfl, by rw [upd_ne hra]; exact hH, Nat.lt_of_lt_of_le hl (by decide), k a ha⟩
/-- y = x.pop() -/
def tPop (i j : Nat) : TS := fun D' σ H => ∃ r xs y, σ[i]? = some (some (.ref r)) ∧ H r = some (.lst xs) ∧ xs[xs.length - 1]? = some y ∧ D'.nx (σ.set j (some y)) (upd H r (.lst xs.dropLast))
theorem ps_pop {x y : Str} {px pa pc : Pos} (i j : Nat) (hNd : X.N.Nodup) (hN : X.N[i]? = some x := by rfl) (hv : Vis X.env.scope x := by first | exact Or.inl rfl | exact Or.inr (Or.inl rfl) | exact Or.inr (Or.inr rfl)) (hd : (x == ("__debug__" : Str)) = false := by decide) (hcd : (x == ("__classdict__" : Str)) = false := by decide)
    (hj : X.N[j]? = some y := by rfl) (hy : L2.Loc X.env.scope y := by first | exact Or.inl rfl | exact Or.inr rfl) (hs : swapsWith (.Call (.Attribute (.Name x px) "pop" pa) [] [] pc) (some (.Name y pos')) pos.line X.env = pure false := by rfl) (hf : X.fn y = true ∨ X.env.scope.names.lookup y = some .local := by first | exact .inl rfl | exact .inr rfl | assumption)
    (hbase : attributeBase (.Name x px) "pop" X.env (eval (.Name x px) X.env) = eval (.Name x px) X.env := by rfl) (hline : (pa.endLine == pc.line) = true := by rfl) :
    PS X (.Assign [.Name y pos'] (.Call (.Attribute (.Name x px) "pop" pa) [] [] pc) pos) (tPop i j) :=
  weakS (ps_set hNd hj hy (pe_bm0 PySem.F.plainAttrs_list PySem.F.slot_list_pop PySem.F.type_list_pop mt_pop (pe_var (i := i) hN hv hd hcd) hbase hline) hs hf) fun D' σ H ⟨r, xs, y, q, hH, hy, k⟩ =>
    ⟨.ref r, q, .inl ⟨rfl, xs, .of hH⟩, r, xs, y, rfl, rfl, hH, hy, k⟩
/-- e.append(y), e a cell -/
def tAppC (K : PySem.W.Frag) (mg : Str → Option Value) (T : List (Addr × Str)) (fo fv : Sto → Res D) : TS := fun D' σ H => ∃ F δ p xs d, Lcl K mg T F H σ δ ∧ fo δ = .ok (.opq p) ∧ fv δ = .ok d ∧ Cell F H p xs ∧ xs.length < 100000 ∧ ∀ v F' H', Step T F H F' H' → Rp K mg F' v d → D'.nx σ (upd H' p (.lst (xs ++ [v])))
theorem ps_appC {o e : Expr} {fo fv : Sto → Res D} {pa pc : Pos} (ho : DE T X W o fo) (he : DE T X W e fv)
    (hsw : swapsWith (.Call (.Attribute o "append" pa) [e] [] pc) none pos.line X.env = pure false := by rfl) (hse : starEach (e :: []) X.env = (false, eval e X.env) :: starEach [] X.env := by rfl)
    (hbase : attributeBase o "append" X.env (eval o X.env) = eval o X.env := by rfl)
    (hfew : ((backTo pc (starEach (e :: []) X.env)).all (fun x => !x.1) && (backToKw pc (keywordEach [] X.env)).all (fun x => x.1.isSome) && decide ((e :: []).length + ([] : List Keyword).length + (if ([] : List Keyword).isEmpty then 0 else 1) < 30)) = true := by rfl)
    (hline : (pa.endLine == pc.line) = true := by rfl) (hplain : (backTo pc (starEach [] X.env)).any (·.1) = false := by rfl) :
    PS X (.Expr (.Call (.Attribute o "append" pa) [e] [] pc) pos) (tAppC X.K X.mg T fo fv) :=
  weakS (ps_expr (pe_bm PySem.F.plainAttrs_list PySem.F.slot_list_append PySem.F.type_list_append mt_append ho (pa_cons he pa_nil hse) hbase hfew hline hse hplain) hsw) fun D' σ H ⟨F, δ, p, xs, d, L, e1, e2, c, hl, k⟩ => by
    refine ⟨F, δ, L, ?_⟩
    rw [e1]
    intro v F1 H1 s1 r1
    cases r1
    have c1 := c.step s1
    refine ⟨.inl ⟨rfl, xs, .of c1.e⟩, F1, δ, L.step s1, ?_⟩
    rw [e2]
    intro v2 F2 H2 s2 r2
    have c2 := c1.step s2
    exact ⟨p, xs, v2, rfl, rfl, c2.e, Nat.lt_of_lt_of_le hl (by decide), k v2 F2 H2 (s1.trans s2) r2⟩
end
end Dn


set_option Elab.async false
set_option linter.all false
set_option maxRecDepth 100000
set_option maxHeartbeats 4000000
namespace Dn
open PySem PySem.Spec PyProof.Rows L2
section
variable {K : PySem.W.Frag} {mg : Str → Option Value} {T : List (Addr × Str)} {F0 H0 F H F' H' : Hp} {σ σ' : L2.St} {δ δ' : Sto}
theorem RpL.snoc : ∀ {ds : List D} {vs : List V} {d : D}, RpL K mg F vs (ds ++ [d]) → ∃ us v, vs = us ++ [v] ∧ RpL K mg F us ds ∧ Rp K mg F v d
  | [], _, _, r => by
    cases r with
    | cons r t => cases t; exact ⟨[], _, rfl, .nil, r⟩
  | x :: ds, _, d, r => by
    cases r with
    | cons r t =>
      obtain ⟨us, v, e, h1, h2⟩ := RpL.snoc t
      exact ⟨_ :: us, v, by rw [e]; rfl, .cons r h1, h2⟩
theorem own_setO {i : Nat} {ds es : List D} (e : δ[i]? = some (.own ds)) {b : Addr} (h : Own σ (δ.set i (.own es)) b) : Own σ δ b := by
  obtain ⟨j, s, e1, o1, q1⟩ := h
  rcases set_cases e1 with ⟨rfl, _, _⟩ | ⟨hj, e2⟩
  · exact ⟨_, _, e, rfl, q1⟩
  · exact ⟨j, s, e2, o1, q1⟩
theorem own_setV {i : Nat} {d : D} {v : Option V} {b : Addr} (h : Own (σ.set i v) (δ.set i (.val d)) b) : Own σ δ b := by
  obtain ⟨j, s, e1, o1, q1⟩ := h
  rcases set_cases e1 with ⟨_, e2, _⟩ | ⟨hj, e2⟩
  · rw [e2] at o1; cases o1
  · rw [List.getElem?_set_ne (Ne.symm hj)] at q1
    exact ⟨j, s, e2, o1, q1⟩
theorem atI_last {α : Type} (l : List α) (x : α) : atI (l ++ [x]) (-1) = some x := by
  unfold atI ixN
  rw [if_neg (by decide), if_pos (by rw [List.length_append]; simp; omega)]
  have : ((-1 : Int) + ((l ++ [x]).length : Nat)).toNat = l.length := by rw [List.length_append]; simp; omega
  rw [this]
  simp
end
section
variable {T : List (Addr × Str)} {X : Cx} {W : Wi} {pos pos' : Pos} {c : Expr} {st1 st2 st3 : Stmt}
def tBodyB (K : PySem.W.Frag) (mg : Str → Option Value) (T : List (Addr × Str)) : TS := fun D' σ H => ∃ l F0 H0 k F δ qs s3 c d rest, TB K mg T l F0 H0 k F δ σ H qs (.val (.str [c])) s3 ∧ k ≤ 3000 ∧ runB (c :: rest) (qs.map Prod.snd) = some d ∧
  ∀ F' δ' σ' H' qs' s2' s3', Rel F F' → TB K mg T l F0 H0 (k + 1) F' δ' σ' H' qs' s2' s3' → runB rest (qs'.map Prod.snd) = some d → D'.nx σ' H'
theorem ps_bodyB (hc : DT T X W c (tst (bin eqD (vr 2) (cst (.str [49]))))) (h1 : PS X st1 (tAppN 1)) (h2 : PS X st2 (tPop 1 3)) (h3 : PS X st3 (tAppC X.K X.mg T (ixO 1 (un negD (cst (.int 1)))) (vr 3))) : PSs X [.If c [st1] [st2, st3] pos] (tBodyB X.K X.mg T) :=
  weakSs (pss_one (ps_if hc (pss_one h1) (pss_cons h2 (pss_one h3)))) fun D' σ H ⟨l, F0, H0, k, F, δ, qs, s3, c, d, rest, S, hk, hr, KK⟩ => by
    obtain ⟨E, nd, cell, hn, hm, rfl, _, h3'⟩ := S
    refine ⟨F, _, E.L, ?_⟩
    have et : tst (bin eqD (vr 2) (cst (.str [49]))) (dB l qs (.val (.str [c])) s3) = .ok (decide (c = 49)) := by
      unfold dB
      simp only [seqS_eq, seq_nx, seq_rt, seq_rs, asg_eq, asgN_eq, drp_eq, retS_eq, retN_eq, rais_eq, ifS_eq, forF_eq, itS_eq, rngA_eq, vr_eq, cst_eq, bin_eq, un_eq, consA_eq, nilA_eq, app_eq, tst_eq, asB_bl, andT_eq, orT_eq, notT_eq, notD_bl, ifE_eq, newA_eq, lstE_eq, noP_eq, part_eq, asP_int, slc_eq, binS_eq, yes_eq, List.getElem?_cons_succ, List.getElem?_cons_zero, List.set, bind_ok, bind_rs, out_ok, out_rs, fin_rt, fin_rs, fin_nx, if_true, Bool.false_eq_true, if_false, Bool.not_true, Bool.not_false, decide_true, decide_false, nopS_eq, addD_int, subD_int, negD_int, ltD_int, leD_int, gtD_int, geD_int, eqD_int, neD_int, eqD_str, neD_str, lenD_lst, lenD_tup, lenD_scr, max2D_int, min2D_int, asSeq_lst, asSeq_tup, asSeq_str, binN_eq, frzS_eq, appS_eq, ixO_eq, stoS_eq, lenO_eq, asgU_eq, tgU_tup, tgU_lst, tgP_tup, asg2_eq, chn_eq, lnk_bl, isID_int, isID_bl, isID_non, isBD_int, isBD_bl, isBD_non, isPD_tup, isLD_lst, isLD_str, enumD_lst, zipD_lst, List.map_cons, List.map_nil, List.replicate_succ, List.replicate_zero, List.cons_append, List.nil_append]
      by_cases z : c = 49
      · rw [z]; rfl
      · rw [decide_eq_false z, decide_eq_false (fun q => z (by simpa using q))]
    rw [et]
    intro F1 H1 t1
    have E1 := E.step t1
    have cell1 := fun q hq => (cell q hq).step t1
    clear cell
    unfold runB at hr
    obtain ⟨ov, q1, r, vs, rfl, nFr, hHr, rv⟩ := E1.L.slot 1 _ rfl
    have ownr : Own σ (dB l qs (.val (.str [c])) s3) r := ⟨1, _, rfl, rfl, q1⟩
    have hvl := rv.length
    rw [List.length_map, List.length_reverse] at hvl
    by_cases z : c = 49
    · rw [if_pos z] at hr
      rw [decide_eq_true z, if_pos rfl]
      refine ⟨r, vs, q1, hHr, by omega, fun a ha => ?_⟩
      have E2 := E1.step (Step.junk (o := .lst []) E1.L.gd ha)
      have E3 := E2.turnO (i := 1) rfl q1 (rv.append (.cons (.opq a) .nil))
      have har : a ≠ r := fun z => by rw [z, hHr] at ha; cases ha
      have nFa := E1.L.sub.none ha
      have ea : dB l ((a, []) :: qs) (.val (.str [c])) s3 = (dB l qs (.val (.str [c])) s3).set 1 (.own ((qs.reverse).map (fun q => D.opq q.1) ++ [.opq a])) := by
        unfold dB
        simp
      refine KK F1 _ σ _ ((a, []) :: qs) _ s3 t1.r ⟨by rw [ea]; exact E3, ?_, fun q hq => ?_, by rw [List.length_cons]; omega, fun q hq => ?_, rfl, rfl, h3'⟩ hr
      · rw [List.map_cons, List.nodup_cons]
        refine ⟨fun hz => ?_, nd⟩
        obtain ⟨q, hq, e⟩ := List.mem_map.mp hz
        obtain ⟨_, ⟨vs, e2, _⟩, _⟩ := cell1 q hq
        rw [e, ha] at e2; cases e2
      · rw [ea]
        rcases List.mem_cons.mp hq with e | e
        · subst e
          refine ⟨nFa, ⟨[], by rw [upd_ne har, upd_same], .nil⟩, E1.st.back E1.sub0 (.of ha), fun hz => ?_⟩
          obtain ⟨_, vs, e2⟩ := E1.L.own_at E1.ni (own_setO rfl hz)
          rw [ha] at e2; cases e2
        · obtain ⟨n, ⟨us, e2, r2⟩, f, o⟩ := cell1 q e
          have h1 : q.1 ≠ r := fun z => o (by rw [z]; exact ownr)
          have h2 : q.1 ≠ a := fun z => by rw [z, ha] at e2; cases e2
          exact ⟨n, ⟨us, by rw [upd_ne h1, upd_ne h2]; exact e2, r2⟩, f, fun hz => o (own_setO rfl hz)⟩
      · rcases List.mem_cons.mp hq with e | e
        · subst e; exact Nat.zero_le _
        · exact Nat.le_succ_of_le (hm q e)
    · rw [if_neg z] at hr
      rw [decide_eq_false z, if_neg Bool.false_ne_true]
      cases qs with
      | nil => cases hr
      | cons q0 qs =>
        cases qs with
        | nil => cases hr
        | cons q2 qs =>
          obtain ⟨a, top⟩ := q0
          obtain ⟨b, prev⟩ := q2
          change runB rest ((prev ++ [.lst top]) :: qs.map Prod.snd) = some d at hr
          rw [List.reverse_cons, List.map_append] at rv
          obtain ⟨us, v, rfl, ru, rva⟩ := rv.snoc
          cases rva
          refine ⟨r, _, .ref a, q1, hHr, by simp, ?_⟩
          rw [List.dropLast_concat]
          have E2 := E1.turnO (i := 1) rfl q1 ru
          obtain ⟨na, ⟨va, ea, rpa⟩, fa, oa⟩ := cell1 (a, top) (by simp)
          dsimp only at na ea rpa fa oa
          have har : a ≠ r := fun z => oa (by have h := ownr; rw [← z] at h; exact h)
          rw [List.map_cons, List.nodup_cons] at nd
          obtain ⟨E3, rel3⟩ := E2.frz (ps := [a]) fun p hp => by
            rw [List.mem_singleton] at hp
            subst hp
            exact ⟨na, ⟨va, by rw [upd_ne har]; exact ea⟩, fa, fun hz => oa (own_setO rfl hz)⟩
          have E4 := E3.setV (i := 3) (v := .ref a) (d := .lst top) (RpL.lst (by rw [frzA_in (List.mem_singleton.mpr rfl), upd_ne har]; exact ea) (rpa.mono rel3))
          have e4 : ((dB l ((a, top) :: (b, prev) :: qs) (.val (.str [c])) s3).set 1 (.own (((b, prev) :: qs).reverse.map fun q => D.opq q.1))).set 3 (.val (.lst top)) = dB l ((b, prev ++ [.lst top]) :: qs) (.val (.str [c])) (.val (.lst top)) := by
            unfold dB
            simp
          rw [e4] at E4
          have cells : ∀ q ∈ (b, prev) :: qs, cellQ X.K X.mg T H0 (frzA F1 (upd H1 r (.lst us)) [a]) (upd H1 r (.lst us)) (σ.set 3 (some (.ref a))) (dB l ((b, prev ++ [.lst top]) :: qs) (.val (.str [c])) (.val (.lst top))) q := fun q hq => by
            obtain ⟨n, ⟨ws, e2, r2⟩, f, o⟩ := cell1 q (List.mem_cons_of_mem _ hq)
            have h1 : q.1 ≠ r := fun z => o (by rw [z]; exact ownr)
            have h2 : q.1 ≠ a := fun z => nd.1 (by rw [← z]; exact List.mem_map.mpr ⟨q, hq, rfl⟩)
            refine ⟨by rw [frzA_out (by rw [List.mem_singleton]; exact h2)]; exact n, ⟨ws, by rw [upd_ne h1]; exact e2, r2.mono rel3⟩, f, fun hz => o ?_⟩
            rw [← e4] at hz
            exact own_setO rfl (own_setV hz)
          obtain ⟨nb, ⟨vb, eb, rpb⟩, fb, ob⟩ := cells (b, prev) (by simp)
          dsimp only at nb eb rpb fb ob
          have hpl : prev.length ≤ k := hm (b, prev) (by simp)
          refine ⟨_, _, b, vb, .lst top, E4.L, ?_, rfl, ⟨nb, eb⟩, by rw [rpb.length]; omega, fun v F5 H5 t5 rv5 => ?_⟩
          · show ixD (.lst (((b, prev ++ [.lst top]) :: qs).reverse.map fun q => D.opq q.1)) (.int (-1)) = _
            rw [List.reverse_cons, List.map_append]
            exact ixD_at (atI_last _ _)
          · have E5 := E4.step t5
            have cb := Cell.step ⟨nb, eb⟩ t5
            have E6 := E5.turn (us := vb ++ [v]) cb.n cb.e fb ob
            have nd2 := nd.2
            rw [List.map_cons, List.nodup_cons] at nd2
            refine KK F5 _ _ _ ((b, prev ++ [D.lst top]) :: qs) _ _ ((t1.r.trans rel3).trans t5.r) ⟨E6, ?_, fun q hq => ?_, by simp at hn ⊢; omega, fun q hq => ?_, rfl, rfl, rfl⟩ hr
            · rw [List.map_cons, List.nodup_cons]
              exact nd2
            · rcases List.mem_cons.mp hq with e | e
              · subst e
                exact ⟨cb.n, ⟨_, upd_same, (rpb.mono t5.r).append (.cons rv5 .nil)⟩, fb, ob⟩
              · obtain ⟨n, ⟨ws, e2, r2⟩, f, o⟩ := (cells q (List.mem_cons_of_mem _ e)).step t5
                have hqb : q.1 ≠ b := fun z => nd2.1 (by rw [← z]; exact List.mem_map.mpr ⟨q, e, rfl⟩)
                exact ⟨n, ⟨ws, by rw [upd_ne hqb]; exact e2, r2⟩, f, o⟩
            · rcases List.mem_cons.mp hq with e | e
              · subst e
                rw [List.length_append, List.length_singleton]; omega
              · exact Nat.le_succ_of_le (hm q (List.mem_cons_of_mem _ (List.mem_cons_of_mem _ e)))
def treeBF : Sto → Out
  | [.val (.str l), .no, .no, .no] => if l.length ≤ 3000 then (match runB l [[]] with
    | some [[d]] => .rt d
    | _ => .stuck) else .stuck
  | _ => .stuck
theorem dss_treeof {iter tg : Expr} {s1 s3 : Stmt} {bd : List Stmt} (hp : PassesOwn (model X.prog X.w) X.A X.env X.xe) (hc : X.calm = true)
    (h1 : PS X s1 (tNest 1)) (hi : DI T X W tg iter (itS (vr 0))) (hg : DG T X tg (tgN 2)) (hb : PSs X bd (tBodyB X.K X.mg T)) (hr : DS T X W s3 (retS (bin ixD (ixO 1 (cst (.int 0))) (cst (.int 0))))) (hs : ∀ x, foldedSetIterable iter X.env x = pure x := by intro _; rfl) :
    DSs T X W [s1, .For tg iter bd [] pos, s3] treeBF :=
  weakSs (pss_cons h1 (pss_cons (ps_walk hp hc hi hg hb hs) (pss_one (lift hr)))) fun D' σ H ⟨F0, H0, F, δ, S, h⟩ => by
    unfold treeBF at h
    split at h
    · rename_i l
      split at h
      · rename_i hl
        split at h
        · rename_i d hrun
          have E : En X.K X.mg T F0 H0.1 F H σ _ := .of_str S (.of rfl)
          intro a b ha hb hab
          have nFa : F a = none := E.L.sub.none ha
          have E1 := E.step (Step.junk (o := .lst []) E.L.gd ha)
          have hb1 : upd H a (.lst []) b = none := by rw [upd_ne (Ne.symm hab)]; exact hb
          have E2 := E1.step (Step.junk (o := .lst [.ref a]) E1.L.gd hb1)
          have own0 : ∀ c, ¬ Own σ [Slot.val (.str l), .no, .no, .no] c := fun c ⟨i, s, e, o, _⟩ => by
            have hm := List.mem_of_getElem? e
            simp at hm
            rcases hm with q | q <;> rw [q] at o <;> cases o
          have L3 := E2.L.set (i := 1) (ov := some (.ref b)) (s := .own [.opq a]) (fun _ => ⟨b, _, rfl, E1.L.sub.none hb1, upd_same, .cons (.opq a) .nil⟩) (fun _ j s' c hj e o _ q => (own0 c ⟨j, s', e, o, q⟩).elim)
          have hlen : σ.length = 4 := E.L.len
          have own3 : ∀ c, Own (σ.set 1 (some (.ref b))) (dB l [(a, [])] .no .no) c → c = b := fun c ⟨i, s, e, o, q⟩ => by
            match i, e with
            | 0, e => cases e; cases o
            | 1, e =>
              rw [List.getElem?_set_self (by omega)] at q
              cases q; rfl
            | 2, e => cases e; cases o
            | 3, e => cases e; cases o
          have E3 : En X.K X.mg T F0 H0.1 F (upd (upd H a (.lst [])) b (.lst [.ref a])) (σ.set 1 (some (.ref b))) (dB l [(a, [])] .no .no) := ⟨E2.sub0, E2.st, L3, .of rfl, fun c z => by rw [own3 c z]; exact S.st.back S.sub0 (.of hb)⟩
          have ei : itS (vr 0) (dB l [(a, [])] .no .no) = .ok (l.map fun c => .str [c]) := rfl
          refine ⟨F, _, _, E3.L, E3.ni, ei, fun k F δ σ H => ∃ qs s2 s3, TB X.K X.mg T l F0 H0.1 k F δ σ H qs s2 s3 ∧ runB (l.drop k) (qs.map Prod.snd) = some [[d]], ?_, ?_, ?_, ?_⟩
          · refine ⟨[(a, [])], _, _, ⟨E3, by simp, fun q hq => ?_, Nat.le_refl _, fun q hq => ?_, rfl, rfl, rfl⟩, hrun⟩
            · rw [List.mem_singleton] at hq
              subst hq
              exact ⟨nFa, ⟨[], by rw [upd_ne hab, upd_same], .nil⟩, S.st.back S.sub0 (.of ha), fun hz => hab (own3 _ hz)⟩
            · rw [List.mem_singleton] at hq
              subst hq
              exact Nat.le_refl _
          · rintro k F δ σ H ⟨qs, s2, s3, Z, hz⟩
            exact ⟨Z.E.L, Z.E.ni, fun F' H' st => ⟨qs, s2, s3, ⟨Z.E.step st, Z.nd, fun q hq => (Z.cell q hq).step st, Z.n, Z.m, Z.d, Z.h2, Z.h3⟩, hz⟩⟩
          · rintro k x hx F1 δ1 σ1 H1 ⟨qs, s2, s3, Z, hz⟩ σ2 F2 H2 st fr L2 ni2 D2 hnx hrt
            rw [List.getElem?_map] at hx
            cases ec : l[k]? with
            | none => rw [ec] at hx; cases hx
            | some c =>
              rw [ec] at hx
              cases hx
              obtain ⟨ZE, Znd, Zc, Zn, Zm, rfl, Z2, Z3⟩ := Z
              obtain ⟨hkl, hkc⟩ := List.getElem?_eq_some_iff.mp ec
              rw [List.drop_eq_getElem_cons hkl, hkc] at hz
              refine ⟨l, F0, H0.1, k, F2, _, qs, s3, c, [[d]], l.drop (k + 1), ⟨ZE.next st L2 ni2 fr, Znd, fun q hq => (Zc q hq).next st fr, Zn, Zm, rfl, rfl, Z3⟩, by omega, hz, fun F' δ' σ' H' qs' s2' s3' rel Z' hz' => hnx F' δ' σ' H' rel ⟨qs', s2', s3', Z', hz'⟩⟩
          · rintro F6 δ6 σ6 H6 ⟨qs, s2, s3, Z, hz⟩
            rw [List.length_map, List.drop_length] at hz
            have hq : qs.map Prod.snd = [[d]] := Option.some.inj hz
            obtain ⟨ZE, Znd, Zc, Zn, Zm, rfl, Z2, Z3⟩ := Z
            match qs, hq with
            | [(p, ds)], hq =>
              have : ds = [d] := by simpa using hq
              subst this
              obtain ⟨n, ⟨vs, e, r⟩, f, o⟩ := Zc _ (List.mem_singleton.mpr rfl)
              dsimp only at n e r f o
              obtain ⟨E7, rel7⟩ := ZE.frz (ps := [p]) fun x hx => by
                rw [List.mem_singleton] at hx
                subst hx
                exact ⟨n, ⟨vs, e⟩, f, o⟩
              have E8 := E7.view (i := 1) (es := [.lst [d]]) rfl fun ws rw' => by
                cases rw' with
                | cons r1 r2 =>
                  cases r2
                  cases r1
                  exact .cons (RpL.lst (by rw [frzA_in (List.mem_singleton.mpr rfl)]; exact e) (r.mono rel7)) .nil
              refine ⟨_, _, E8.L, E8.ni, ?_⟩
              show PostW X.K X.mg T _ _ _ _ W D' (.rt d)
              intro v F9 H9 t9 rv
              exact h v F9 H9 (step_trans E8.st E8.fr t9) rv
        · exact h.elim
      · exact h.elim
    · exact h.elim
end
end Dn


set_option Elab.async false
set_option linter.all false
set_option maxRecDepth 100000
set_option maxHeartbeats 4000000
namespace Dn
open PySem PySem.Spec PyProof.Rows L2
/-! ### recursion: a def that asks nothing yet; {}; isinstance(x, list) of more sorts -/
section
variable {P : Program} {w : World} {K : PySem.W.Frag} {mg : Str → Option Value} {base : Heap}
theorem fnP0 {x : Str} {st : Stmt} {N ps : List Str} {k : Nat} (Fn : FnT K mg x st ps) (S : FnScope N ps (defScope st)) : FnP P w K mg base (k + 1) x ps (fun _ => .stuck) := by
  obtain ⟨f, fd, F, b, g⟩ := Fn
  refine ⟨f, fd, ?_, F.kp, b, g⟩
  obtain ⟨oc, od, kV, doc, pm, an, cdv, ct, osl, rfl, lk, hcd⟩ := F.ex
  refine fn_of lk hcd S (fun vs H Q E h => ?_) (fun A outer s H vs Q E hr h => ?_)
  · obtain ⟨F, ds, gd, r, h⟩ := h
    exact h.elim
  · obtain ⟨F, ds, gd, r, h⟩ := h
    exact h.elim
end
section
variable {T : List (Addr × Str)} {X : Cx} {W : Wi}
theorem de_dct0 {pos : Pos} : DE T X W (.Dict [] [] pos) (cst (.dct [])) :=
  weakE pe_dnewK fun σ H Q ⟨F, δ, L, h⟩ => fun p hp => by
    have st := Step.new (o := .dK []) L.gd hp
    exact h _ _ _ st (.dct upd_same rfl fun i v d e => by cases e)
def isL2D : D → Res D
  | .lst _ => .ok (.bl true)
  | .str _ => .ok (.bl false)
  | .int _ => .ok (.bl false)
  | .non => .ok (.bl false)
  | .tup _ => .ok (.bl false)
  | .dct _ => .ok (.bl false)
  | _ => .stuck
theorem isL2_read {K : PySem.W.Frag} {mg : Str → Option Value} {fe : Sto → Res D} {σ : L2.St} {H : Hp} {Q : VK} (h : tD K mg T W (un isL2D fe) σ H Q) : tCB (rIsi K) (tCons (tD K mg T W fe) (tCons (tC (.ty "list")) tNil)) σ H Q := by
  obtain ⟨F, δ, L, h⟩ := h
  refine bindE ppE L h fun d v F1 H1 s1 L1 r1 h1 => ?_
  cases r1 with
  | lst e hl he => exact ⟨_, _, _, _, true, rfl, .ty "list", .base (.lst (L1.sub _ _ e)), kit_ty (by decide +kernel), PostE.here h1 L1.gd (.bl true)⟩
  | str e => exact ⟨_, _, _, _, false, rfl, .ty "list", .base (.str _), kit_ty (by decide +kernel), PostE.here h1 L1.gd (.bl false)⟩
  | int e => exact ⟨_, _, _, _, false, rfl, .ty "list", .base (.int _), kit_ty (by decide +kernel), PostE.here h1 L1.gd (.bl false)⟩
  | non => exact ⟨_, _, _, _, false, rfl, .ty "list", .base .non, kit_ty (by decide +kernel), PostE.here h1 L1.gd (.bl false)⟩
  | tup e hl he => exact ⟨_, _, _, _, false, rfl, .ty "list", .base (.tup (L1.sub _ _ e)), kit_ty (by decide +kernel), PostE.here h1 L1.gd (.bl false)⟩
  | dct e hl he => exact ⟨_, _, _, _, false, rfl, .ty "list", .base (.dK (L1.sub _ _ e)), kit_ty (by decide +kernel), PostE.here h1 L1.gd (.bl false)⟩
  | _ => exact (show False from h1).elim
theorem de_isL2 {e : Expr} {fe : Sto → Res D} {p p2 pos : Pos} (he : DE T X W e fe) (hm : X.mg "isinstance" = none) (hl : X.mg "list" = none) (hse : starEach (e :: [.Name "list" p2]) X.env = (false, eval e X.env) :: starEach [.Name "list" p2] X.env := by rfl) (hg : Gl X "isinstance" := by rfl) (hgl : Gl X "list" := by rfl) :
    DE T X W (.Call (.Name "isinstance" p) [e, .Name "list" p2] [] pos) (un isL2D fe) :=
  weakE (pe_callB call_isi hg hm (by decide +kernel) (pa_cons he (pa_cons (pe_bltn (v := .ty "list") hgl hl (by decide +kernel) rfl) pa_nil) hse) (by decide) (by decide) hse) fun σ H Q h => isL2_read h
@[simp] theorem isL2D_lst {i : List D} : isL2D (.lst i) = .ok (.bl true) := nrfl rfl
@[simp] theorem isL2D_str {i : List Nat} : isL2D (.str i) = .ok (.bl false) := nrfl rfl
end
end Dn


set_option Elab.async false
set_option linter.all false
set_option maxRecDepth 100000
set_option maxHeartbeats 4000000
namespace Dn
open PySem PySem.Spec PyProof.Rows L2
/-! ### triples as targets; list(range(e)); reversed(e) -/
def tgT3 (i j k : Nat) : D → Sto → Option Sto
  | .tup [a, b, c], δ => some (((δ.set i (.val a)).set j (.val b)).set k (.val c))
  | _, _ => none
section
variable {T : List (Addr × Str)} {X : Cx} {W : Wi} {K : PySem.W.Frag} {mg : Str → Option Value} {pos : Pos}
theorem dg_trip {x y z : Str} {kk : Nat} {p1 p2 p3 : Pos} (i j k : Nat) (hN : X.N.Nodup) (hc : X.calm = true) (hi : X.N[i]? = some x := by rfl) (hx : L2.Loc X.env.scope x := by first | exact Or.inl rfl | exact Or.inr rfl) (hj : X.N[j]? = some y := by rfl) (hy : L2.Loc X.env.scope y := by first | exact Or.inl rfl | exact Or.inr rfl)
    (hk : X.N[k]? = some z := by rfl) (hz : L2.Loc X.env.scope z := by first | exact Or.inl rfl | exact Or.inr rfl)
    (hf : X.fn x = true ∨ X.env.scope.names.lookup x = some .local := by first | exact .inl rfl | exact .inr rfl | assumption) (hf2 : X.fn y = true ∨ X.env.scope.names.lookup y = some .local := by first | exact .inl rfl | exact .inr rfl | assumption) (hf3 : X.fn z = true ∨ X.env.scope.names.lookup z = some .local := by first | exact .inl rfl | exact .inr rfl | assumption)
    (hs : (assignEach ((.Name x p1) :: [.Name y p2, .Name z p3]) X.env).map (·.2) = assign (.Name x p1) X.env :: (assignEach [.Name y p2, .Name z p3] X.env).map (·.2) := by rfl) (hs2 : (assignEach ((.Name y p2) :: [.Name z p3]) X.env).map (·.2) = assign (.Name y p2) X.env :: (assignEach [.Name z p3] X.env).map (·.2) := by rfl)
    (hs3 : (assignEach ((.Name z p3) :: []) X.env).map (·.2) = assign (.Name z p3) X.env :: (assignEach [] X.env).map (·.2) := by rfl)
    (hn : (assignEach [.Name x p1, .Name y p2, .Name z p3] X.env).length = 3 := by rfl) (hst : (assignEach [.Name x p1, .Name y p2, .Name z p3] X.env).findIdx? (·.1) = none := by rfl) : DG T X (.Tuple [.Name x p1, .Name y p2, .Name z p3] kk pos) (tgT3 i j k) :=
  weakG (pg_tup hc (pgs_cons (pg_name (i := i) hN hi hx hf) (pgs_cons (pg_name (i := j) hN hj hy hf2) (pgs_cons (pg_name (i := k) hN hk hz hf3) pgs_nil hs3) hs2) hs) hn hst) fun v σ H Q ⟨F0, H0, F, δ, d, S, r, h⟩ => by
    unfold tgT3 at h
    split at h
    · rename_i a ez
      split at ez
      · cases ez
        obtain ⟨p, vs, rfl, e1, q⟩ := r.tup_inv
        obtain ⟨v1, v2, v3, rfl, r1, r2, r3⟩ := q.three
        exact ⟨p, [v1, v2, v3], rfl, .of (S.loc.sub _ _ e1), rfl, v1, [v2, v3], rfl, v2, [v3], rfl, v3, [], rfl, rfl, h _ F H (.refl F) (((S.setVal r1).setVal r2).setVal r3)⟩
      · cases ez
    · exact h.elim
theorem tgok_trip {i j k : Nat} (hij : i ≠ j) (hik : i ≠ k) (hjk : j ≠ k) : TgOk K mg T (gTup K 3 (gCons (gName i) (gCons (gName j) (gCons (gName k) gNil)))) (tgT3 i j k) [i, j, k] := by
  intro F H σ δ v d δ' L r e Q h
  unfold tgT3 at e
  split at e
  · cases e
    obtain ⟨p, vs, rfl, e1, q⟩ := r.tup_inv
    obtain ⟨v1, v2, v3, rfl, r1, r2, r3⟩ := q.three
    refine ⟨p, [v1, v2, v3], rfl, .of (L.sub _ _ e1), rfl, v1, [v2, v3], rfl, v2, [v3], rfl, v3, [], rfl, rfl, h _ ?_ (((L.setVal r1).setVal r2).setVal r3)⟩
    show (((((((((σ.set k none).set j none).set i none).set i (some v1)).set j (some v2)).set k (some v3)).set k none).set j none).set i none) = ((σ.set k none).set j none).set i none
    apply List.ext_getElem?
    intro m
    simp only [List.getElem?_set, List.length_set]
    by_cases h1 : i = m
    · simp [h1]
    · by_cases h2 : j = m
      · simp [h1, h2]
      · by_cases h3 : k = m
        · simp [h1, h2, h3]
        · simp [h1, h2, h3]
  · cases e
/-- list(range(n)) -/
def lrgD : D → Res D
  | .int n => if n ≤ 100000 ∧ -100000 ≤ n then .ok (.lst (upTo 0 n.toNat)) else .stuck
  | _ => .stuck
theorem de_listRg {a : Expr} {fa : Sto → Res D} {p p2 pos2 : Pos} (hc : X.calm = true) (hm : X.mg "list" = none) (hm2 : X.mg "range" = none) (ha : DE T X W a fa) (hg : Gl X "list" := by rfl) (hg2 : Gl X "range" := by rfl) (na2 : starEach [a] X.env = (false, eval a X.env) :: starEach [] X.env := by rfl)
    (na : starEach [.Call (.Name "range" p2) [a] [] pos2] X.env = (false, eval (.Call (.Name "range" p2) [a] [] pos2) X.env) :: starEach [] X.env := by rfl) : DE T X W (.Call (.Name "list" p) [.Call (.Name "range" p2) [a] [] pos2] [] pos) (un lrgD fa) :=
  weakE (pe_listRg hc hg hm (prg_1 hg2 hm2 ha na2) na) fun σ H Q ⟨F, δ, L, h⟩ => bindE ppE L h fun x v F1 H1 s1 L1 r1 h1 => by
    cases r1 with
    | int n =>
      unfold lrgD at h1
      obtain ⟨hn, h2⟩ := PostE.ite h1
      refine ⟨n, rfl, ⟨by omega, by omega, by omega, by omega, by omega⟩, fun q hq => ?_⟩
      have st := Step.new (o := .lst (rgV 0 n)) L1.gd hq
      have this : ∀ (G : Hp) (ks : List Nat), RpL X.K X.mg G (ks.map fun i => V.int (0 + (i : Nat))) (ks.map fun i => D.int (0 + (i : Nat))) := fun G ks => by
        induction ks with
        | nil => exact .nil
        | cons k ks ih => exact .cons (.int _) ih
      have e : rgV 0 n = (List.range n.toNat).map fun i => V.int (0 + (i : Nat)) := by unfold rgV; rw [Int.sub_zero]
      refine h2 _ _ _ st (RpL.lst upd_same ?_)
      rw [e]
      exact this _ _
    | _ => exact (show False from h1).elim
/-- reversed(xs) -/
def revA : List D → Res (List D)
  | [.lst xs] => .ok xs.reverse
  | _ => .stuck
theorem walk_v {F : Hp} {a : Addr} {vs : List V} {ds : List D} (h : F a = some (.lst vs)) (r : RpL K mg F vs ds) : WalkD K mg T (Itv K a vs.length) F ds.reverse := by
  intro i F' H' rel gd
  have hq : SqL K H' a vs := .of (gd.sub _ _ (rel.lst h))
  have hl := r.length
  refine ⟨fun d ed => ?_, fun hh => by rw [List.length_reverse] at hh; show vs.length ≤ i; omega⟩
  have hi : i < ds.length := by
    have := (List.getElem?_eq_some_iff.mp ed).1
    rwa [List.length_reverse] at this
  rw [List.getElem?_reverse hi] at ed
  obtain ⟨v, ev, rv⟩ := r.get1 ed
  rw [← hl] at ev
  refine ⟨⟨by omega, vs, v, hq, ev⟩, fun x H'' y => ?_⟩
  obtain ⟨rfl, y⟩ := y
  have ex := y vs hq
  rw [ev] at ex; cases ex
  exact ⟨F', .refl gd, rv.mono rel⟩
theorem di_rev {tg e : Expr} {fa : Sto → Res (List D)} {p : Pos} (hm : X.mg "reversed" = none) (ha : DA T X W [e] fa) (hg : Gl X "reversed" := by rfl) (hs : starEach [e] X.env = [(false, eval e X.env)] := by rfl) : DI T X W tg (.Call (.Name "reversed" p) [e] [] pos) (rngA revA fa) :=
  weakI (pi_reversed hg hm ha hs) fun σ H R ⟨F, δ, L, h⟩ => bindA ppI L h fun ds vs F1 H1 s1 L1 r1 h1 => by
    unfold revA at h1
    split at h1
    · obtain ⟨v, rfl, rv⟩ := r1.one
      obtain ⟨q, us, rfl, e1, r⟩ := rv.lst_inv
      exact ⟨q, us, rfl, .of (L1.sub _ _ e1), h1 _ F1 H1 L1.refl (walk_v e1 r)⟩
    · exact h1.elim
end
end Dn


set_option Elab.async false
set_option linter.all false
set_option maxRecDepth 100000
set_option maxHeartbeats 4000000
namespace Dn
open PySem PySem.Spec PyProof.Rows L2
/-! ### dicts that are read: d[k], len(d), sorted(d) -/
section
variable {X : Cx}
/-- the sorted keys, however many -/
theorem cr_keysI (hcalm : X.calm = true) : CallR X (.builtin "sorted") (fun xs H Q => ∃ (a : Addr) (kvs : List (Key × V)) (ks : List Int), xs = [.ref a] ∧ Rd H a (.dK kvs) ∧ kvs.map (·.1) = ks.map Sum.inl ∧
    ∀ (ys : List Int) (p : Addr), ys.Perm ks → ys.Pairwise (· ≤ ·) → H p = none → Q (.ref p) (upd H p (.lst (ys.map V.int)))) := by
  rintro pins s σ H xs us Q I r ⟨a, kvs, ks, rfl, hd, hks, q⟩
  obtain ⟨u, rfl, rx⟩ := vals1 r; cases rx
  obtain ⟨z, lo, vs, rel, dd⟩ := dk_rd I.hok hd
  obtain ⟨ep, hat⟩ := dd.dictAt
  have hkeys := rel.keys.symm.trans hks
  have hkl : kvs.length = ks.length := by simpa using congrArg List.length hks
  have hl : vs.length = ks.length := by simpa using congrArg List.length hkeys
  have hvz : vs.length ≤ sizeLine := by rw [hl, ← hkl]; exact z
  refine Calls.call_function_entry kind_sorted plain_sorted entry_sorted (args_sorted1 _) ?_
  unfold Builtin.«sorted»
  refine wpAny_bind (m := checkCount "sorted" 1 1 _) (wpAny_pure (wpAny_bind (PySem.W.kdu_collect (A := X.A.in1) (PySem.W.kdl_dict (knd := mixKind X.prog X.w) (kvs := vs) (ep := ep) lo) (I.ok.hd hcalm) hat hvz fun h' tk acc hk hacc => ?_)))
  have hal : acc.toList.length = ks.length := (Array.length_toList (xs := acc)).trans (hacc.1.trans hl)
  have hS : IntsAre acc.toList ks := ints_each hal fun j v e => by
    obtain ⟨k, x, e1, e2⟩ := hacc.2 j v ((Array.getElem?_toList).symm.trans e)
    have e3 : (vs.map (·.1))[j]? = some k := (List.getElem?_map ..).trans (by rw [e1]; rfl)
    rw [hkeys, List.getElem?_map] at e3
    cases e4 : ks[j]? with
    | none => rw [e4] at e3; cases e3
    | some y =>
      rw [e4] at e3; cases e3
      rcases keyIs_shape (show keyIs (Sum.inl y) v = true from e2) with ⟨i, t, ek, ev⟩ | ⟨z, t, ek, ev⟩ <;> cases ek
      exact ⟨y, t, rfl, ev⟩
  have I1 : L2.Inv X pins σ H ⟨h', s.gens, s.drawn, tk, s.os⟩ := I.kept hk
  have haz : acc.toList.length ≤ sizeLine := by rw [hal, ← hl]; exact hvz
  refine wpAny_bind (wpAny_newList ?_ haz)
  have hoL : (h'.push (seqObj "list" acc.toList.toArray 0)).get? h'.objs.size = some (seqObj "list" acc.toList.toArray 0) := Heap.get?_push_size _ rfl
  show wpAny _ _ _ _ _ { s with heap := h'.push (seqObj "list" acc.toList.toArray 0), toks := tk }
  refine wpAny_bind (wpAny_holding (wpAny_call_entry slot_list_sort ⟨_, hoL, rfl⟩ entry_list_sort (SrtO.list_sort_ord (s := { s with heap := h'.push (seqObj "list" acc.toList.toArray 0), toks := tk }) SrtO.swo_int hoL haz (fun h2 => SrtO.ints_sortable hS h2) fun out h1 h2 => ⟨_, rfl, ?_⟩) (args_list_sort _)))
  obtain ⟨g1, g2, g3⟩ := SrtO.ints_out hS h1 h2
  obtain ⟨e', he'⟩ := sortedHeap_at (vs := acc.toList) (out := out.toArray) hoL
  have hlen : ((out.map SrtO.iv).map V.int).length ≤ sizeLine := by rw [List.length_map, g2.length_eq, ← hl]; exact hvz
  refine wpAny_pure ⟨_, rfl, .ref h'.objs.size, upd H h'.objs.size (.lst ((out.map SrtO.iv).map V.int)), I1.laid (t' := tk) (fun b u e => ?_) (Nat.le_refl _) (show ObjOk X.prog X.w _ _ _ (.lst ((out.map SrtO.iv).map V.int)) from ⟨hlen, out, e', vals_of_ints g1, he'⟩), rfl, q _ _ g2 g3 (I1.hok.fresh (Nat.le_refl _))⟩
  have hb := Heap.lt_size e
  rw [sortedHeap_old (Nat.ne_of_lt hb) (by rw [size_push']; exact Nat.lt_succ_of_lt hb)]
  exact Heap.get?_push_of_some _ e
theorem cr_lenD : CallR X (.builtin "len") (fun xs H Q => ∃ (a : Addr) (kvs : List (Key × V)), xs = [.ref a] ∧ Rd H a (.dK kvs) ∧ Q (.int kvs.length) H) := by
  rintro pins s σ H xs us Q I r ⟨a, kvs, rfl, hd, q⟩
  obtain ⟨u, rfl, rx⟩ := vals1 r; cases rx
  exact d_len I hd fun t s' I' => ⟨.int kvs.length, H, I', ⟨t, rfl⟩, q⟩
end
end Dn


set_option Elab.async false
set_option linter.all false
set_option maxRecDepth 100000
set_option maxHeartbeats 4000000
namespace Dn
open PySem PySem.Spec PyProof.Rows L2
def getK (ks : List (Key × D)) (k : Key) : Option D := (ks.find? fun kv => decide (kv.1 = k)).map (·.2)
def skey (l : List Nat) : Key := .inr ⟨l.toArray⟩
def ixK : D → D → Res D
  | .dct ks, .int i => match getK ks (.inl i) with
    | some d => .ok d
    | none => .stuck
  | .dct ks, .str l => match getK ks (skey l) with
    | some d => .ok d
    | none => .stuck
  | _, _ => .stuck
def lenKD : List D → Res D
  | [.dct ks] => .ok (.int ks.length)
  | _ => .stuck
def ikeys : List (Key × D) → Option (List Int)
  | [] => some []
  | (.inl i, _) :: r => (ikeys r).map (i :: ·)
  | (.inr _, _) :: _ => none
def keysD : List D → Res D
  | [.dct ks] => match ikeys ks with
    | some ns => if ns.Pairwise (· < ·) then .ok (.lst (ns.map .int)) else .stuck
    | none => .stuck
  | _ => .stuck
section
variable {T : List (Addr × Str)} {X : Cx} {W : Wi} {K : PySem.W.Frag} {mg : Str → Option Value} {pos : Pos}
theorem Rp.dct_inv {F : Hp} {v : V} {ks : List (Key × D)} (r : Rp K mg F v (.dct ks)) : ∃ a us, v = .ref a ∧ F a = some (.dK us) ∧ Paired (fun (u : Key × V) (k : Key × D) => u.1 = k.1 ∧ Rp K mg F u.2 k.2) us ks := by
  cases r with
  | @dct a us ks h hk he =>
    refine ⟨a, us, rfl, h, paired_of (by simpa using congrArg List.length hk) fun i u k eu ek => ⟨?_, he i u.2 k.2 (by rw [List.getElem?_map, eu]; rfl) (by rw [List.getElem?_map, ek]; rfl)⟩⟩
    have h1 : (us.map Prod.fst)[i]? = some u.1 := by rw [List.getElem?_map, eu]; rfl
    have h2 : (ks.map Prod.fst)[i]? = some k.1 := by rw [List.getElem?_map, ek]; rfl
    rw [hk, h2] at h1
    exact (Option.some.inj h1).symm
theorem getK_rp {F : Hp} {k : Key} {d : D} : ∀ {us : List (Key × V)} {ks : List (Key × D)}, Paired (fun (u : Key × V) (k : Key × D) => u.1 = k.1 ∧ Rp K mg F u.2 k.2) us ks → getK ks k = some d → ∃ v, valV us k = some v ∧ Rp K mg F v d
  | _, _, .nil, h => by cases h
  | u :: us, q :: ks, .cons r t, h => by
    unfold getK at h
    unfold valV
    rw [List.find?_cons] at h ⊢
    rw [r.1]
    by_cases e : q.1 = k
    · rw [decide_eq_true e] at h ⊢
      cases h
      exact ⟨u.2, rfl, r.2⟩
    · rw [decide_eq_false e] at h ⊢
      exact getK_rp t h
theorem de_ixK {a b : Expr} {fa fb : Sto → Res D} (hu : X.A.units + 64 < cLine) (ha : DE T X W a fa) (hb : DE T X W b fb) (hs : NoSl b := by exact fun _ _ => rfl) : DE T X W (.Subscript a b pos) (bin ixK fa fb) :=
  weakE (pe_dget (by omega) ha hb hs) fun σ H Q ⟨F, δ, L, h⟩ => bindE ppE L h fun x v F1 H1 s1 L1 r1 h1 => bindE ppE L1 h1 fun y u F2 H2 s2 L2 r2 h2 => by
    have r3 := r1.mono s2.r
    unfold ixK at h2
    split at h2
    · rename_i ks i
      split at h2
      · rename_i d e
        cases r2
        obtain ⟨p, us, rfl, e1, q⟩ := r3.dct_inv
        obtain ⟨w, e2, rw'⟩ := getK_rp q e
        exact ⟨p, w, rfl, .inl ⟨us, .inl i, .of (L2.sub _ _ e1), rfl, e2.symm⟩, h2.here L2.gd rw'⟩
      · exact h2.elim
    · rename_i ks l
      split at h2
      · rename_i d e
        cases r2 with
        | @str x l' el =>
          obtain ⟨p, us, rfl, e1, q⟩ := r3.dct_inv
          obtain ⟨w, e2, rw'⟩ := getK_rp q e
          have ex : x = ⟨l.toArray⟩ := TL.ext_tl (by rw [el])
          exact ⟨p, w, rfl, .inl ⟨us, .inr x, .of (L2.sub _ _ e1), rfl, by rw [ex]; exact e2.symm⟩, h2.here L2.gd rw'⟩
      · exact h2.elim
    · exact h2.elim
theorem Paired.len2 {α β : Type} {R : α → β → Prop} : ∀ {l : List α} {m : List β}, Paired R l m → l.length = m.length
  | _, _, .nil => rfl
  | _, _, .cons _ t => by rw [List.length_cons, List.length_cons, Paired.len2 t]
theorem rc_lenK : RCD K mg T (fun xs H Q => ∃ (a : Addr) (kvs : List (Key × V)), xs = [.ref a] ∧ Rd H a (.dK kvs) ∧ Q (.int kvs.length) H) lenKD := by
  intro F H vs ds W Q gd r h
  unfold lenKD at h
  split at h
  · obtain ⟨v, rfl, rv⟩ := r.one
    obtain ⟨a, us, rfl, e1, q⟩ := rv.dct_inv
    refine ⟨a, us, rfl, .of (gd.sub _ _ e1), h.here gd ?_⟩
    rw [Paired.len2 q]
    exact .int _
  · exact h.elim
theorem ikeys_us {F : Hp} : ∀ {us : List (Key × V)} {ks : List (Key × D)} {ns : List Int}, Paired (fun (u : Key × V) (k : Key × D) => u.1 = k.1 ∧ Rp K mg F u.2 k.2) us ks → ikeys ks = some ns → us.map (·.1) = ns.map Sum.inl
  | _, _, ns, .nil, h => by
    unfold ikeys at h
    cases h; rfl
  | u :: us, (.inl i, d) :: ks, ns, .cons r t, h => by
    unfold ikeys at h
    cases e : ikeys ks with
    | none => rw [e] at h; cases h
    | some ms =>
      rw [e] at h
      cases h
      rw [List.map_cons, List.map_cons, ikeys_us t e, r.1]
  | u :: us, (.inr i, d) :: ks, ns, .cons r t, h => by
    unfold ikeys at h
    cases h
theorem rc_keys : RCD K mg T (fun xs H Q => ∃ (a : Addr) (kvs : List (Key × V)) (ks : List Int), xs = [.ref a] ∧ Rd H a (.dK kvs) ∧ kvs.map (·.1) = ks.map Sum.inl ∧
    ∀ (ys : List Int) (p : Addr), ys.Perm ks → ys.Pairwise (· ≤ ·) → H p = none → Q (.ref p) (upd H p (.lst (ys.map V.int)))) keysD := by
  intro F H vs ds W Q gd r h
  unfold keysD at h
  split at h
  · split at h
    · rename_i ks ns e
      obtain ⟨hp, h⟩ := PostE.ite h
      obtain ⟨v, rfl, rv⟩ := r.one
      obtain ⟨a, us, rfl, e1, q⟩ := rv.dct_inv
      refine ⟨a, us, ns, rfl, .of (gd.sub _ _ e1), ikeys_us q e, fun ys p hy hs hn => ?_⟩
      have ey : ys = ns := hy.eq_of_pairwise (fun a b _ _ h1 h2 => Int.le_antisymm h1 h2) hs (hp.imp fun h => Int.le_of_lt h)
      subst ey
      have st := Step.new (o := .lst (ys.map V.int)) gd hn
      refine h _ _ _ st (RpL.lst upd_same ?_)
      have : ∀ (G : Hp) (ms : List Int), RpL K mg G (ms.map V.int) (ms.map D.int) := fun G ms => by
        induction ms with
        | nil => exact .nil
        | cons m ms ih => exact .cons (.int m) ih
      exact this _ _
    · exact h.elim
  · exact h.elim
end
end Dn


set_option Elab.async false
set_option linter.all false
set_option maxRecDepth 100000
set_option maxHeartbeats 4000000
namespace Dn
open PySem PySem.Spec PyProof.Rows L2
/-! ### the law's own model, built in the heap: the steps -/
def kUp : Key := .inr "up"
def kDepth : Key := .inr "depth"
def kBelow : Key := .inr "below"
def kNumber : Key := .inr "number"
def kEnd : Key := .inr "end"
def kBehind : Key := .inr "behind"
section
variable {X : Cx} {pos pos' : Pos}
/-- found = {} -/
def tEmp (i : Nat) : TS := fun D' σ H => ∀ p, H p = none → D'.nx (σ.set i (some (.ref p))) (upd H p (.dK []))
theorem ps_emp {x : Str} {p1 : Pos} (i : Nat) (hN : X.N.Nodup) (hi : X.N[i]? = some x := by rfl) (hx : L2.Loc X.env.scope x := by first | exact Or.inl rfl | exact Or.inr rfl) (hs : swapsWith (.Dict [] [] p1) (some (.Name x pos')) pos.line X.env = pure false := by rfl) (hf : X.fn x = true ∨ X.env.scope.names.lookup x = some .local := by first | exact .inl rfl | exact .inr rfl | assumption) :
    PS X (.Assign [.Name x pos'] (.Dict [] [] p1) pos) (tEmp i) := weakS (ps_set hN hi hx pe_dnewK hs hf) fun D' σ H h p hp => h p hp
/-- open_here = [] -/
def tLs0 (i : Nat) : TS := fun D' σ H => ∀ p, H p = none → D'.nx (σ.set i (some (.ref p))) (upd H p (.lst []))
theorem ps_ls0 {x : Str} {p1 : Pos} (i : Nat) (hN : X.N.Nodup) (hi : X.N[i]? = some x := by rfl) (hx : L2.Loc X.env.scope x := by first | exact Or.inl rfl | exact Or.inr rfl) (hs : swapsWith (.List [] p1) (some (.Name x pos')) pos.line X.env = pure false := by rfl) (hf : X.fn x = true ∨ X.env.scope.names.lookup x = some .local := by first | exact .inl rfl | exact .inr rfl | assumption) :
    PS X (.Assign [.Name x pos'] (.List [] p1) pos) (tLs0 i) := weakS (ps_set hN hi hx (pe_lst pa_nil) hs hf) fun D' σ H h => ⟨by decide, fun p hp => h p hp⟩
def tInt (i : Nat) (n : Int) : TS := fun D' σ H => D'.nx (σ.set i (some (.int n))) H
theorem ps_int {x : Str} {n : Int} {j : Nat} {p1 : Pos} (i : Nat) (hN : X.N.Nodup) (hi : X.N[i]? = some x := by rfl) (hx : L2.Loc X.env.scope x := by first | exact Or.inl rfl | exact Or.inr rfl) (hs : swapsWith (.Constant (.int n) j p1) (some (.Name x pos')) pos.line X.env = pure false := by rfl) (hf : X.fn x = true ∨ X.env.scope.names.lookup x = some .local := by first | exact .inl rfl | exact .inr rfl | assumption) :
    PS X (.Assign [.Name x pos'] (.Constant (.int n) j p1) pos) (tInt i n) := weakS (ps_set hN hi hx pe_int hs hf) fun D' σ H h => h
/-- behind = behind + 1 -/
def tInc (i : Nat) : TS := fun D' σ H => ∃ n : Int, σ[i]? = some (some (.int n)) ∧ D'.nx (σ.set i (some (.int (n + 1)))) H
theorem ps_inc {x : Str} {j : Nat} {p1 p2 p3 : Pos} (i : Nat) (hN : X.N.Nodup) (hi : X.N[i]? = some x := by rfl) (hx : L2.Loc X.env.scope x := by first | exact Or.inl rfl | exact Or.inr rfl) (hv : Vis X.env.scope x := by first | exact Or.inl rfl | exact Or.inr (Or.inl rfl) | exact Or.inr (Or.inr rfl)) (hd : (x == ("__debug__" : Str)) = false := by decide) (hcd : (x == ("__classdict__" : Str)) = false := by decide)
    (hs : swapsWith (.BinOp (.Name x p1) .Add (.Constant (.int 1) j p2) p3) (some (.Name x pos')) pos.line X.env = pure false := by rfl) (hf : X.fn x = true ∨ X.env.scope.names.lookup x = some .local := by first | exact .inl rfl | exact .inr rfl | assumption) :
    PS X (.Assign [.Name x pos'] (.BinOp (.Name x p1) .Add (.Constant (.int 1) j p2) p3) pos) (tInc i) := weakS (ps_set hN hi hx (pe_op op_add (pe_var (i := i) hi hv hd hcd) pe_int) hs hf) fun D' σ H ⟨n, q, h⟩ => ⟨.int n, q, n, 1, rfl, rfl, h⟩
/-- one = {..} -/
def ent0 (n m : Nat) (b : Addr) : List (Key × V) := [(kUp, .non), (kDepth, .int n), (kBelow, .ref b), (kNumber, .int m)]
def tOne (iq jf ko : Nat) : TS := fun D' σ H => ∃ r xs f kvs, σ[iq]? = some (some (.ref r)) ∧ H r = some (.lst xs) ∧ σ[jf]? = some (some (.ref f)) ∧ H f = some (.dK kvs) ∧
  ∀ p b H1, H p = none → H b = none → p ≠ b → H1 p = some (.dK (ent0 xs.length kvs.length b)) → H1 b = some (.lst []) → (∀ a, a ≠ p → a ≠ b → H1 a = H a) → D'.nx (σ.set ko (some (.ref p))) H1
theorem ps_one {x y z : Str} {c1 c2 c3 c4 c5 : Nat} {p1 p2 p3 p4 p5 p6 p7 p8 p9 p10 p11 p12 p13 : Pos} (iq jf ko : Nat) (hN : X.N.Nodup) (hm : X.mg "len" = none) (hi : X.N[iq]? = some x := by rfl) (hj : X.N[jf]? = some y := by rfl) (hk : X.N[ko]? = some z := by rfl) (hz : L2.Loc X.env.scope z := by first | exact Or.inl rfl | exact Or.inr rfl)
    (hv : Vis X.env.scope x := by first | exact Or.inl rfl | exact Or.inr (Or.inl rfl) | exact Or.inr (Or.inr rfl)) (hd : (x == ("__debug__" : Str)) = false := by decide) (hcd : (x == ("__classdict__" : Str)) = false := by decide)
    (hv2 : Vis X.env.scope y := by first | exact Or.inl rfl | exact Or.inr (Or.inl rfl) | exact Or.inr (Or.inr rfl)) (hd2 : (y == ("__debug__" : Str)) = false := by decide) (hcd2 : (y == ("__classdict__" : Str)) = false := by decide) (hg : Gl X "len" := by rfl)
    (hs : swapsWith (.Dict [some (.Constant (.str "up") c1 p1), some (.Constant (.str "depth") c2 p2), some (.Constant (.str "below") c3 p3), some (.Constant (.str "number") c4 p4)] [.Constant .none c5 p5, .Call (.Name "len" p6) [.Name x p7] [] p8, .List [] p9, .Call (.Name "len" p10) [.Name y p11] [] p12] p13) (some (.Name z pos')) pos.line X.env = pure false := by rfl) (hf : X.fn z = true ∨ X.env.scope.names.lookup z = some .local := by first | exact .inl rfl | exact .inr rfl | assumption) :
    PS X (.Assign [.Name z pos'] (.Dict [some (.Constant (.str "up") c1 p1), some (.Constant (.str "depth") c2 p2), some (.Constant (.str "below") c3 p3), some (.Constant (.str "number") c4 p4)] [.Constant .none c5 p5, .Call (.Name "len" p6) [.Name x p7] [] p8, .List [] p9, .Call (.Name "len" p10) [.Name y p11] [] p12] p13) pos) (tOne iq jf ko) :=
  weakS (ps_set hN hk hz (pe_disp (pps_cons pe_str pe_non (pps_cons pe_str (pe_callB call_len hg hm PySem.boot_len (pa_cons (pe_var (i := iq) hi hv hd hcd) pa_nil)) (pps_cons pe_str (pe_lst pa_nil) (pps_cons pe_str (pe_callB cr_lenD hg hm PySem.boot_len (pa_cons (pe_var (i := jf) hj hv2 hd2 hcd2) pa_nil)) pps_nil)))) rfl rfl (by simp) (by show 4 ≤ 15; decide)) hs hf) fun D' σ H ⟨r, xs, f, kvs, q1, h1, q2, h2, k⟩ => by
    intro p hp
    have nr : r ≠ p := fun z => by rw [z, hp] at h1; cases h1
    have nf : f ≠ p := fun z => by rw [z, hp] at h2; cases h2
    refine ⟨.ref r, q1, _, xs.length, rfl, .inl ⟨xs, .of (by rw [upd_ne nr]; exact h1), rfl⟩, by decide, fun b hb => ?_⟩
    have nb : b ≠ p := fun z => by rw [z, upd_same] at hb; cases hb
    rw [upd_ne nb] at hb
    have nfb : f ≠ b := fun z => by rw [z, hb] at h2; cases h2
    refine ⟨.ref f, q2, f, kvs, rfl, .inl (by rw [upd_ne nfb, upd_ne nf]; exact h2), by rw [upd_ne (Ne.symm nb), upd_same], ent0 xs.length kvs.length b, rfl, by show 4 ≤ 15; decide, ?_⟩
    refine k p b _ hp hb (Ne.symm nb) ?_ ?_ fun a h3 h4 => ?_
    · rw [upd_same]; rfl
    · rw [upd_ne nb, upd_same]
    · rw [upd_ne h3, upd_ne h4, upd_ne h3]
/-- open_here != [] -/
def tNeE (iq : Nat) : TT := fun σ H Q => ∃ r ns, σ[iq]? = some (some (.ref r)) ∧ H r = some (.lst (ns.map fun (n : Nat) => V.int n)) ∧ ∀ b, H b = none → Q (!decide (ns = [])) (upd H b (.lst []))
theorem pt_neE {x : Str} {p1 p2 : Pos} (iq : Nat) (hu : X.A.units + 64 < cLine) (hi : X.N[iq]? = some x := by rfl) (hv : Vis X.env.scope x := by first | exact Or.inl rfl | exact Or.inr (Or.inl rfl) | exact Or.inr (Or.inr rfl)) (hd : (x == ("__debug__" : Str)) = false := by decide) (hcd : (x == ("__classdict__" : Str)) = false := by decide) (hm : behindInMarks .NotEq (.List [] p2) = false := by rfl) :
    PT X (.Compare (.Name x p1) [.NotEq] [.List [] p2] pos) (tNeE iq) :=
  weakT (pt_cmpR (op_neD hu) (pe_var (i := iq) hi hv hd hcd) (pe_lst pa_nil) hm) fun σ H Q ⟨r, ns, q, h, k⟩ => by
    refine ⟨.ref r, q, by decide, fun b hb => ?_⟩
    have nb : r ≠ b := fun z => by rw [z, hb] at h; cases h
    have hall : ∀ (G : Hp) (ms : List Nat), DpAll X.K G (ms.map fun (n : Nat) => V.int n) (ms.map fun (n : Nat) => PyData.int n) := fun G ms => by
      induction ms with
      | nil => exact .nil
      | cons m ms ih => exact .cons (.int _) ih
    have sh : ∀ ms : List Nat, SeqAt.shaped (.list (ms.map fun (n : Nat) => PyData.int n)) = true := fun ms => by
      have := pl_ints (ns := ms.map fun (n : Nat) => (n : Int))
      unfold pl at this
      rw [toPy, toPys_eq, List.map_map, List.map_map] at this
      rw [show (ms.map fun (n : Nat) => PyData.int n) = ms.map ((toPy ∘ D.int) ∘ fun (n : Nat) => (n : Int)) from List.map_congr_left fun n _ => by show PyData.int n = toPy (.int n); rw [toPy]]
      exact this
    refine ⟨.list (ns.map fun (n : Nat) => PyData.int n), .list [], .lst (.of (by rw [upd_ne nb]; exact h)) (hall _ ns), .lst (.of upd_same) .nil, sh ns, sh [], ?_⟩
    refine ⟨_, rfl, ?_⟩
    have : PyData.eqv (.list (ns.map fun (n : Nat) => PyData.int n)) (.list []) = decide (ns = []) := by
      rw [PyData.eqv]
      cases ns with
      | nil => rw [List.map_nil, PyData.eqvAll]; rfl
      | cons n ns => rw [List.map_cons, PyData.eqvAll]; rfl
    rw [this]
    exact k b hb
/-- one["up"] = open_here[-1] -/
def tUp (iq ko : Nat) : TS := fun D' σ H => ∃ r xs v d kvs, σ[iq]? = some (some (.ref r)) ∧ H r = some (.lst xs) ∧ atI xs (-1) = some v ∧ σ[ko]? = some (some (.ref d)) ∧ H d = some (.dK kvs) ∧ kvs.length < 1000 ∧ D'.nx σ (upd H d (.dK (putK kvs kUp v)))
theorem ps_up {x z : Str} {c1 c2 : Nat} {p1 p2 p3 p4 p5 p6 : Pos} (iq ko : Nat) (hu : X.A.units + 64 < cLine) (hi : X.N[iq]? = some x := by rfl) (hk : X.N[ko]? = some z := by rfl)
    (hv : Vis X.env.scope x := by first | exact Or.inl rfl | exact Or.inr (Or.inl rfl) | exact Or.inr (Or.inr rfl)) (hd : (x == ("__debug__" : Str)) = false := by decide) (hcd : (x == ("__classdict__" : Str)) = false := by decide)
    (hv2 : Vis X.env.scope z := by first | exact Or.inl rfl | exact Or.inr (Or.inl rfl) | exact Or.inr (Or.inr rfl)) (hd2 : (z == ("__debug__" : Str)) = false := by decide) (hcd2 : (z == ("__classdict__" : Str)) = false := by decide)
    (hix : PlainIx (.UnaryOp .USub (.Constant (.int 1) c1 p3) p4) := by exact fun _ _ => rfl)
    (hs : swapsWith (.Subscript (.Name x p2) (.UnaryOp .USub (.Constant (.int 1) c1 p3) p4) p5) (some (.Subscript (.Name z p1) (.Constant (.str "up") c2 p6) pos')) pos.line X.env = pure false := by rfl) :
    PS X (.Assign [.Subscript (.Name z p1) (.Constant (.str "up") c2 p6) pos'] (.Subscript (.Name x p2) (.UnaryOp .USub (.Constant (.int 1) c1 p3) p4) p5) pos) (tUp iq ko) :=
  weakS (ps_dput (by omega) (pe_var (i := ko) hk hv2 hd2 hcd2) pe_str (pe_ix ix_seq (pe_var (i := iq) hi hv hd hcd) (pe_un un_neg pe_int) hix) hs) fun D' σ H ⟨r, xs, v, d, kvs, q1, h1, e1, q2, h2, hl, k⟩ =>
    ⟨.ref r, q1, 1, rfl, .inl ⟨r, xs, -1, v, rfl, rfl, .of h1, e1, .ref d, q2, d, _, rfl, .inl ⟨kvs, kUp, h2, rfl, Nat.lt_trans hl (by decide), rfl⟩, k⟩⟩
/-- found[open_here[-1]]["below"].append(at) -/
def tBel (iq jf ia : Nat) : TS := fun D' σ H => ∃ r xs q f kvs d es b ys z, σ[iq]? = some (some (.ref r)) ∧ H r = some (.lst xs) ∧ atI xs (-1) = some (.int q) ∧ σ[jf]? = some (some (.ref f)) ∧ H f = some (.dK kvs) ∧ valV kvs (.inl q) = some (.ref d) ∧ H d = some (.dK es) ∧ valV es kBelow = some (.ref b) ∧ H b = some (.lst ys) ∧ ys.length < 1000 ∧ σ[ia]? = some (some z) ∧ D'.nx σ (upd H b (.lst (ys ++ [z])))
theorem ps_bel {x y z : Str} {c1 c2 : Nat} {p1 p2 p3 p4 p5 p6 p7 p8 p9 pa pc : Pos} (iq jf ia : Nat) (hu : X.A.units + 64 < cLine) (hi : X.N[iq]? = some x := by rfl) (hj : X.N[jf]? = some y := by rfl) (hk : X.N[ia]? = some z := by rfl)
    (hv : Vis X.env.scope x := by first | exact Or.inl rfl | exact Or.inr (Or.inl rfl) | exact Or.inr (Or.inr rfl)) (hd : (x == ("__debug__" : Str)) = false := by decide) (hcd : (x == ("__classdict__" : Str)) = false := by decide)
    (hv2 : Vis X.env.scope y := by first | exact Or.inl rfl | exact Or.inr (Or.inl rfl) | exact Or.inr (Or.inr rfl)) (hd2 : (y == ("__debug__" : Str)) = false := by decide) (hcd2 : (y == ("__classdict__" : Str)) = false := by decide)
    (hv3 : Vis X.env.scope z := by first | exact Or.inl rfl | exact Or.inr (Or.inl rfl) | exact Or.inr (Or.inr rfl)) (hd3 : (z == ("__debug__" : Str)) = false := by decide) (hcd3 : (z == ("__classdict__" : Str)) = false := by decide)
    (hix : PlainIx (.UnaryOp .USub (.Constant (.int 1) c1 p3) p4) := by exact fun _ _ => rfl) (hn1 : NoSl (.Subscript (.Name x p2) (.UnaryOp .USub (.Constant (.int 1) c1 p3) p4) p5) := by exact fun _ _ => rfl) (hn2 : NoSl (.Constant (.str "below") c2 p7) := by exact fun _ _ => rfl)
    (hsw : swapsWith (.Call (.Attribute (.Subscript (.Subscript (.Name y p1) (.Subscript (.Name x p2) (.UnaryOp .USub (.Constant (.int 1) c1 p3) p4) p5) p6) (.Constant (.str "below") c2 p7) p8) "append" pa) [.Name z p9] [] pc) none pos.line X.env = pure false := by rfl) (hse : starEach [.Name z p9] X.env = (false, eval (.Name z p9) X.env) :: starEach [] X.env := by rfl)
    (hbase : attributeBase (.Subscript (.Subscript (.Name y p1) (.Subscript (.Name x p2) (.UnaryOp .USub (.Constant (.int 1) c1 p3) p4) p5) p6) (.Constant (.str "below") c2 p7) p8) "append" X.env (eval (.Subscript (.Subscript (.Name y p1) (.Subscript (.Name x p2) (.UnaryOp .USub (.Constant (.int 1) c1 p3) p4) p5) p6) (.Constant (.str "below") c2 p7) p8) X.env) = eval (.Subscript (.Subscript (.Name y p1) (.Subscript (.Name x p2) (.UnaryOp .USub (.Constant (.int 1) c1 p3) p4) p5) p6) (.Constant (.str "below") c2 p7) p8) X.env := by rfl)
    (hfew : ((backTo pc (starEach ((.Name z p9) :: []) X.env)).all (fun x => !x.1) && (backToKw pc (keywordEach [] X.env)).all (fun x => x.1.isSome) && decide (((.Name z p9 : Expr) :: []).length + ([] : List Keyword).length + (if ([] : List Keyword).isEmpty then 0 else 1) < 30)) = true := by rfl)
    (hline : (pa.endLine == pc.line) = true := by rfl) (hplain : (backTo pc (starEach [] X.env)).any (·.1) = false := by rfl) :
    PS X (.Expr (.Call (.Attribute (.Subscript (.Subscript (.Name y p1) (.Subscript (.Name x p2) (.UnaryOp .USub (.Constant (.int 1) c1 p3) p4) p5) p6) (.Constant (.str "below") c2 p7) p8) "append" pa) [.Name z p9] [] pc) pos) (tBel iq jf ia) :=
  weakS (ps_expr (pe_bm PySem.F.plainAttrs_list PySem.F.slot_list_append PySem.F.type_list_append mt_append (pe_dget (by omega) (pe_dget (by omega) (pe_var (i := jf) hj hv2 hd2 hcd2) (pe_ix ix_seq (pe_var (i := iq) hi hv hd hcd) (pe_un un_neg pe_int) hix) hn1) pe_str hn2) (pa_cons (pe_var (i := ia) hk hv3 hd3 hcd3) pa_nil hse) hbase hfew hline hse hplain) hsw) fun D' σ H ⟨r, xs, q, f, kvs, d, es, b, ys, z, q1, h1, e1, q2, h2, e2, h3, e3, h4, hl, q3, k⟩ =>
    ⟨.ref f, q2, .ref r, q1, 1, rfl, .inl ⟨r, xs, -1, .int q, rfl, rfl, .of h1, e1, f, .ref d, rfl, .inl ⟨kvs, .inl q, .of h2, rfl, e2.symm⟩, d, .ref b, rfl, .inl ⟨es, kBelow, .of h3, rfl, e3.symm⟩, .inl ⟨rfl, ys, .of h4⟩, z, q3, b, ys, z, rfl, rfl, h4, Nat.lt_trans hl (by decide), k⟩⟩
/-- found[at] = one -/
def tPutF (jf ia ko : Nat) : TS := fun D' σ H => ∃ (f : Addr) (kvs : List (Key × V)) (i : Int) (v : V), σ[ko]? = some (some v) ∧ σ[jf]? = some (some (.ref f)) ∧ σ[ia]? = some (some (.int i)) ∧ H f = some (.dK kvs) ∧ kvs.length < 1000 ∧ D'.nx σ (upd H f (.dK (putK kvs (.inl i) v)))
theorem ps_putF {x y z : Str} {p1 p2 p3 : Pos} (jf ia ko : Nat) (hu : X.A.units + 64 < cLine) (hi : X.N[ia]? = some x := by rfl) (hj : X.N[jf]? = some y := by rfl) (hk : X.N[ko]? = some z := by rfl)
    (hv : Vis X.env.scope x := by first | exact Or.inl rfl | exact Or.inr (Or.inl rfl) | exact Or.inr (Or.inr rfl)) (hd : (x == ("__debug__" : Str)) = false := by decide) (hcd : (x == ("__classdict__" : Str)) = false := by decide)
    (hv2 : Vis X.env.scope y := by first | exact Or.inl rfl | exact Or.inr (Or.inl rfl) | exact Or.inr (Or.inr rfl)) (hd2 : (y == ("__debug__" : Str)) = false := by decide) (hcd2 : (y == ("__classdict__" : Str)) = false := by decide)
    (hv3 : Vis X.env.scope z := by first | exact Or.inl rfl | exact Or.inr (Or.inl rfl) | exact Or.inr (Or.inr rfl)) (hd3 : (z == ("__debug__" : Str)) = false := by decide) (hcd3 : (z == ("__classdict__" : Str)) = false := by decide)
    (hs : swapsWith (.Name z p3) (some (.Subscript (.Name y p1) (.Name x p2) pos')) pos.line X.env = pure false := by rfl) :
    PS X (.Assign [.Subscript (.Name y p1) (.Name x p2) pos'] (.Name z p3) pos) (tPutF jf ia ko) :=
  weakS (ps_dput (by omega) (pe_var (i := jf) hj hv2 hd2 hcd2) (pe_var (i := ia) hi hv hd hcd) (pe_var (i := ko) hk hv3 hd3 hcd3) hs) fun D' σ H ⟨f, kvs, i, v, q1, q2, q3, h, hl, k⟩ =>
    ⟨v, q1, .ref f, q2, .int i, q3, f, _, rfl, .inl ⟨kvs, .inl i, h, rfl, Nat.lt_trans hl (by decide), rfl⟩, k⟩
/-- found[node][key] = v -/
def tPutN (jf ir ia : Nat) (key : Key) : TS := fun D' σ H => ∃ (f : Addr) (kvs : List (Key × V)) (q : Int) (d : Addr) (es : List (Key × V)) (v : V), σ[ia]? = some (some v) ∧ σ[jf]? = some (some (.ref f)) ∧ σ[ir]? = some (some (.int q)) ∧ H f = some (.dK kvs) ∧ valV kvs (.inl q) = some (.ref d) ∧ H d = some (.dK es) ∧ es.length < 1000 ∧ D'.nx σ (upd H d (.dK (putK es key v)))
theorem ps_putN {x y z s : Str} {c : Nat} {p1 p2 p3 p4 p5 : Pos} (jf ir ia : Nat) (hu : X.A.units + 64 < cLine) (hi : X.N[ir]? = some x := by rfl) (hj : X.N[jf]? = some y := by rfl) (hk : X.N[ia]? = some z := by rfl)
    (hv : Vis X.env.scope x := by first | exact Or.inl rfl | exact Or.inr (Or.inl rfl) | exact Or.inr (Or.inr rfl)) (hd : (x == ("__debug__" : Str)) = false := by decide) (hcd : (x == ("__classdict__" : Str)) = false := by decide)
    (hv2 : Vis X.env.scope y := by first | exact Or.inl rfl | exact Or.inr (Or.inl rfl) | exact Or.inr (Or.inr rfl)) (hd2 : (y == ("__debug__" : Str)) = false := by decide) (hcd2 : (y == ("__classdict__" : Str)) = false := by decide)
    (hv3 : Vis X.env.scope z := by first | exact Or.inl rfl | exact Or.inr (Or.inl rfl) | exact Or.inr (Or.inr rfl)) (hd3 : (z == ("__debug__" : Str)) = false := by decide) (hcd3 : (z == ("__classdict__" : Str)) = false := by decide)
    (hn1 : NoSl (.Name x p2) := by exact fun _ _ => rfl)
    (hs : swapsWith (.Name z p5) (some (.Subscript (.Subscript (.Name y p1) (.Name x p2) p3) (.Constant (.str s) c p4) pos')) pos.line X.env = pure false := by rfl) :
    PS X (.Assign [.Subscript (.Subscript (.Name y p1) (.Name x p2) p3) (.Constant (.str s) c p4) pos'] (.Name z p5) pos) (tPutN jf ir ia (.inr s)) :=
  weakS (ps_dput (by omega) (pe_dget (by omega) (pe_var (i := jf) hj hv2 hd2 hcd2) (pe_var (i := ir) hi hv hd hcd) hn1) pe_str (pe_var (i := ia) hk hv3 hd3 hcd3) hs) fun D' σ H ⟨f, kvs, q, d, es, v, q1, q2, q3, h, e, h2, hl, k⟩ =>
    ⟨v, q1, .ref f, q2, .int q, q3, f, .ref d, rfl, .inl ⟨kvs, .inl q, .of h, rfl, e.symm⟩, d, _, rfl, .inl ⟨es, .inr s, h2, rfl, Nat.lt_trans hl (by decide), rfl⟩, k⟩
/-- open_here.append(at) -/
def tAppV (iq ia : Nat) : TS := fun D' σ H => ∃ r xs z, σ[iq]? = some (some (.ref r)) ∧ H r = some (.lst xs) ∧ xs.length < 1000 ∧ σ[ia]? = some (some z) ∧ D'.nx σ (upd H r (.lst (xs ++ [z])))
theorem ps_appV {x z : Str} {px p1 pa pc : Pos} (iq ia : Nat) (hi : X.N[iq]? = some x := by rfl) (hk : X.N[ia]? = some z := by rfl) (hv : Vis X.env.scope x := by first | exact Or.inl rfl | exact Or.inr (Or.inl rfl) | exact Or.inr (Or.inr rfl)) (hd : (x == ("__debug__" : Str)) = false := by decide) (hcd : (x == ("__classdict__" : Str)) = false := by decide)
    (hv3 : Vis X.env.scope z := by first | exact Or.inl rfl | exact Or.inr (Or.inl rfl) | exact Or.inr (Or.inr rfl)) (hd3 : (z == ("__debug__" : Str)) = false := by decide) (hcd3 : (z == ("__classdict__" : Str)) = false := by decide)
    (hsw : swapsWith (.Call (.Attribute (.Name x px) "append" pa) [.Name z p1] [] pc) none pos.line X.env = pure false := by rfl) (hse : starEach (.Name z p1 :: []) X.env = (false, eval (.Name z p1) X.env) :: starEach [] X.env := by rfl)
    (hbase : attributeBase (.Name x px) "append" X.env (eval (.Name x px) X.env) = eval (.Name x px) X.env := by rfl)
    (hfew : ((backTo pc (starEach (.Name z p1 :: []) X.env)).all (fun x => !x.1) && (backToKw pc (keywordEach [] X.env)).all (fun x => x.1.isSome) && decide (((.Name z p1 : Expr) :: []).length + ([] : List Keyword).length + (if ([] : List Keyword).isEmpty then 0 else 1) < 30)) = true := by rfl)
    (hline : (pa.endLine == pc.line) = true := by rfl) (hplain : (backTo pc (starEach [] X.env)).any (·.1) = false := by rfl) :
    PS X (.Expr (.Call (.Attribute (.Name x px) "append" pa) [.Name z p1] [] pc) pos) (tAppV iq ia) :=
  weakS (ps_expr (pe_bm PySem.F.plainAttrs_list PySem.F.slot_list_append PySem.F.type_list_append mt_append (pe_var (i := iq) hi hv hd hcd) (pa_cons (pe_var (i := ia) hk hv3 hd3 hcd3) pa_nil hse) hbase hfew hline hse hplain) hsw) fun D' σ H ⟨r, xs, z, q, h, hl, q2, k⟩ =>
    ⟨.ref r, q, .inl ⟨rfl, xs, .of h⟩, z, q2, r, xs, z, rfl, rfl, h, Nat.lt_trans hl (by decide), k⟩
/-- bits[at] == "1" -/
def tBit1 (ib ia : Nat) : TT := fun σ H Q => ∃ (x : Str) (i : Int) (c : Nat), σ[ib]? = some (some (.str x)) ∧ σ[ia]? = some (some (.int i)) ∧ x.length ≤ sizeLine ∧ atI (TL.tl x) i = some c ∧ Q (decide (c = 49)) H
theorem pt_bit1 {x y : Str} {c : Nat} {p1 p2 p3 p4 : Pos} (ib ia : Nat) (hi : X.N[ib]? = some x := by rfl) (hk : X.N[ia]? = some y := by rfl) (hv : Vis X.env.scope x := by first | exact Or.inl rfl | exact Or.inr (Or.inl rfl) | exact Or.inr (Or.inr rfl)) (hd : (x == ("__debug__" : Str)) = false := by decide) (hcd : (x == ("__classdict__" : Str)) = false := by decide)
    (hv3 : Vis X.env.scope y := by first | exact Or.inl rfl | exact Or.inr (Or.inl rfl) | exact Or.inr (Or.inr rfl)) (hd3 : (y == ("__debug__" : Str)) = false := by decide) (hcd3 : (y == ("__classdict__" : Str)) = false := by decide)
    (hix : PlainIx (.Name y p2) := by exact fun _ _ => rfl) (hm : behindInMarks .Eq (.Constant (.str "1") c p4) = false := by rfl) :
    PT X (.Compare (.Subscript (.Name x p1) (.Name y p2) p3) [.Eq] [.Constant (.str "1") c p4] pos) (tBit1 ib ia) :=
  weakT (pt_cmpR op_eq (pe_ix ix_seq (pe_var (i := ib) hi hv hd hcd) (pe_var (i := ia) hk hv3 hd3 hcd3) hix) pe_str hm) fun σ H Q ⟨x, i, c, q1, q2, hl, e, k⟩ => by
    refine ⟨.str x, q1, .int i, q2, .inr (.inr ⟨x, i, c, rfl, rfl, hl, e, ?_⟩)⟩
    refine ⟨rfl, _, rfl, ?_⟩
    have : decide (V.str ⟨#[c]⟩ = V.str "1") = decide (c = 49) := by
      rw [← tl_inj_dec]
      exact decide_eq_decide.mpr ⟨fun h => by
        have h2 : [c] = [49] := h
        simpa using h2, fun h => by rw [h]; rfl⟩
    rw [this]
    exact k
end
end Dn


set_option Elab.async false
set_option linter.all false
set_option maxRecDepth 100000
set_option maxHeartbeats 4000000
namespace Dn
open PySem PySem.Spec PyProof.Rows L2
/-! ### the law's own model, plain -/
structure Rec where
  up : Option Nat
  dp : Nat
  be : List Nat
  nu : Nat
  tl : Option (Nat × Nat)
structure Md where
  ps : List Nat
  R : Nat → Rec
  stk : List Nat
  bh : Nat
def pushM (i : Nat) (s : Md) : Md := ⟨s.ps ++ [i], fun p => if p = i then ⟨s.stk.getLast?, s.stk.length, [], s.ps.length, none⟩ else if s.stk.getLast? = some p then { s.R p with be := (s.R p).be ++ [i] } else s.R p, s.stk ++ [i], s.bh⟩
def popM (i : Nat) (s : Md) : Md := ⟨s.ps, fun p => if s.stk.getLast? = some p then { s.R p with tl := some (i, s.bh) } else s.R p, s.stk.dropLast, s.bh + 1⟩
def stepM (i c : Nat) (s : Md) : Md := if c = 49 then pushM i s else popM i s
def md0 : Md := ⟨[], fun _ => ⟨none, 0, [], 0, none⟩, [], 0⟩
/-- behind so many signs -/
def mdl (l : List Nat) : Nat → Md
  | 0 => md0
  | i + 1 => stepM i (l.getD i 0) (mdl l i)
structure MdOk (i : Nat) (s : Md) : Prop where
  lt : ∀ p ∈ s.ps, p < i
  sub : ∀ p ∈ s.stk, p ∈ s.ps
  tl : ∀ p ∈ s.stk, (s.R p).tl = none
  snd : s.stk.Nodup
  bl : ∀ p ∈ s.ps, (s.R p).be.length ≤ i
  pl : s.ps.length ≤ i
  sl : s.stk.length ≤ i
theorem last_mem {l : List Nat} {q : Nat} (h : l.getLast? = some q) : q ∈ l := List.mem_of_getLast? h
theorem MdOk.push {i : Nat} {s : Md} (h : MdOk i s) : MdOk (i + 1) (pushM i s) := by
  have ni : i ∉ s.ps := fun z => absurd (h.lt i z) (Nat.lt_irrefl i)
  have ne : ∀ p ∈ s.ps, p ≠ i := fun p hp z => ni (by rw [← z]; exact hp)
  refine ⟨fun p hp => ?_, fun p hp => ?_, fun p hp => ?_, ?_, fun p hp => ?_, ?_, ?_⟩
  · rcases List.mem_append.mp hp with q | q
    · exact Nat.lt_succ_of_lt (h.lt p q)
    · rw [List.mem_singleton.mp q]; omega
  · rcases List.mem_append.mp hp with q | q
    · exact List.mem_append_left _ (h.sub p q)
    · exact List.mem_append_right _ q
  · rcases List.mem_append.mp hp with q | q
    · show (if p = i then _ else if s.stk.getLast? = some p then _ else s.R p : Rec).tl = none
      rw [if_neg (ne p (h.sub p q))]
      split
      · exact h.tl p q
      · exact h.tl p q
    · rw [List.mem_singleton.mp q]
      show (if i = i then _ else _ : Rec).tl = none
      rw [if_pos rfl]
  · show (s.stk ++ [i]).Nodup
    rw [List.nodup_append]
    refine ⟨h.snd, by simp, fun a ha b hb => ?_⟩
    rw [List.mem_singleton.mp hb]
    exact ne a (h.sub a ha)
  · show (if p = i then _ else if s.stk.getLast? = some p then _ else s.R p : Rec).be.length ≤ i + 1
    by_cases z : p = i
    · rw [if_pos z]; exact Nat.zero_le _
    · rw [if_neg z]
      have hq : p ∈ s.ps := by
        rcases List.mem_append.mp hp with q | q
        · exact q
        · exact (z (List.mem_singleton.mp q)).elim
      have := h.bl p hq
      split
      · show ((s.R p).be ++ [i]).length ≤ i + 1
        rw [List.length_append, List.length_singleton]; omega
      · omega
  · show (s.ps ++ [i]).length ≤ i + 1
    rw [List.length_append, List.length_singleton]; have := h.pl; omega
  · show (s.stk ++ [i]).length ≤ i + 1
    rw [List.length_append, List.length_singleton]; have := h.sl; omega
theorem mem_dropLast' {l : List Nat} {p : Nat} (h : p ∈ l.dropLast) : p ∈ l := List.dropLast_subset l h
theorem dropLast_ne {l : List Nat} {p q : Nat} (nd : l.Nodup) (hq : l.getLast? = some q) (h : p ∈ l.dropLast) : p ≠ q := by
  intro z
  subst z
  obtain ⟨ys, rfl⟩ := List.getLast?_eq_some_iff.mp hq
  rw [List.dropLast_concat] at h
  rw [List.nodup_append] at nd
  exact nd.2.2 p h p (List.mem_singleton.mpr rfl) rfl
theorem MdOk.pop {i : Nat} {s : Md} (h : MdOk i s) : MdOk (i + 1) (popM i s) := by
  refine ⟨fun p hp => Nat.lt_succ_of_lt (h.lt p hp), fun p hp => h.sub p (mem_dropLast' hp), fun p hp => ?_, h.snd.sublist (List.dropLast_sublist _), fun p hp => ?_, Nat.le_succ_of_le h.pl, ?_⟩
  · show (if s.stk.getLast? = some p then _ else s.R p : Rec).tl = none
    rw [if_neg (fun z => dropLast_ne h.snd z hp rfl)]
    exact h.tl p (mem_dropLast' hp)
  · show (if s.stk.getLast? = some p then _ else s.R p : Rec).be.length ≤ i + 1
    have := h.bl p hp
    split
    · exact Nat.le_succ_of_le this
    · omega
  · show s.stk.dropLast.length ≤ i + 1
    rw [List.length_dropLast]; have := h.sl; omega
/-! ### in the heap -/
def upV : Option Nat → V
  | none => .non
  | some q => .int q
def tlV : Option (Nat × Nat) → List (Key × V)
  | none => []
  | some (e, h) => [(kEnd, .int e), (kBehind, .int h)]
def entV (b : Addr) (r : Rec) : List (Key × V) := [(kUp, upV r.up), (kDepth, .int r.dp), (kBelow, .ref b), (kNumber, .int r.nu)] ++ tlV r.tl
theorem kne : kDepth ≠ kUp ∧ kBelow ≠ kUp ∧ kNumber ≠ kUp ∧ kUp ≠ kBelow ∧ kDepth ≠ kBelow ∧ kUp ≠ kEnd ∧ kDepth ≠ kEnd ∧ kBelow ≠ kEnd ∧ kNumber ≠ kEnd ∧ kUp ≠ kBehind ∧ kDepth ≠ kBehind ∧ kBelow ≠ kBehind ∧ kNumber ≠ kBehind ∧ kEnd ≠ kBehind := by
  unfold kUp kDepth kBelow kNumber kEnd kBehind
  decide +kernel
theorem val_below (b : Addr) (r : Rec) : valV (entV b r) kBelow = some (.ref b) := by
  obtain ⟨_, _, _, h1, h2, _⟩ := kne
  unfold valV entV
  rw [List.cons_append, List.find?_cons, decide_eq_false h1]
  show Option.map _ (List.find? _ (_ :: _)) = _
  rw [List.find?_cons, decide_eq_false h2]
  show Option.map _ (List.find? _ (_ :: _)) = _
  rw [List.find?_cons, decide_eq_true rfl]
  rfl
theorem put_up (n m : Nat) (b : Addr) (v : V) : putK (ent0 n m b) kUp v = [(kUp, v), (kDepth, .int n), (kBelow, .ref b), (kNumber, .int m)] := by
  obtain ⟨h1, h2, h3, _⟩ := kne
  unfold putK ent0
  rw [List.any_cons, decide_eq_true rfl, Bool.true_or, if_pos rfl]
  simp only [List.map_cons, List.map_nil, if_neg h1, if_neg h2, if_neg h3, if_true]
theorem putK_new {kvs : List (Key × V)} {k : Key} {v : V} (h : ∀ kv ∈ kvs, kv.1 ≠ k) : putK kvs k v = kvs ++ [(k, v)] := by
  unfold putK
  rw [if_neg]
  intro z
  obtain ⟨kv, h1, h2⟩ := List.any_eq_true.mp z
  exact h kv h1 (of_decide_eq_true h2)
theorem put_end (b : Addr) (r : Rec) (hr : r.tl = none) (v w : V) : putK (putK (entV b r) kEnd v) kBehind w = [(kUp, upV r.up), (kDepth, .int r.dp), (kBelow, .ref b), (kNumber, .int r.nu), (kEnd, v), (kBehind, w)] := by
  obtain ⟨_, _, _, _, _, a1, a2, a3, a4, b1, b2, b3, b4, b5⟩ := kne
  unfold entV tlV
  rw [hr]
  have e1 : putK ([(kUp, upV r.up), (kDepth, .int r.dp), (kBelow, .ref b), (kNumber, .int r.nu)] ++ []) kEnd v = [(kUp, upV r.up), (kDepth, .int r.dp), (kBelow, .ref b), (kNumber, .int r.nu), (kEnd, v)] := putK_new fun kv hk => by
    simp only [List.append_nil, List.mem_cons, List.not_mem_nil, or_false] at hk
    rcases hk with e | e | e | e <;> rw [e]
    · exact a1
    · exact a2
    · exact a3
    · exact a4
  have e2 : putK [(kUp, upV r.up), (kDepth, .int r.dp), (kBelow, .ref b), (kNumber, .int r.nu), (kEnd, v)] kBehind w = [(kUp, upV r.up), (kDepth, .int r.dp), (kBelow, .ref b), (kNumber, .int r.nu), (kEnd, v), (kBehind, w)] := putK_new fun kv hk => by
    simp only [List.mem_cons, List.not_mem_nil, or_false] at hk
    rcases hk with e | e | e | e | e <;> rw [e]
    · exact b1
    · exact b2
    · exact b3
    · exact b4
    · exact b5
  exact (congrArg (fun z => putK z kBehind w) e1).trans e2
def kvF (ps : List Nat) (da : Nat → Addr) : List (Key × V) := ps.map fun (p : Nat) => (.inl (p : Int), .ref (da p))
theorem kvF_val {ps : List Nat} {da : Nat → Addr} {q : Nat} (h : q ∈ ps) : valV (kvF ps da) (.inl (q : Int)) = some (.ref (da q)) := by
  unfold valV kvF
  induction ps with
  | nil => cases h
  | cons p ps ih =>
    rw [List.map_cons, List.find?_cons]
    by_cases e : p = q
    · rw [e, decide_eq_true rfl]; rfl
    · rw [decide_eq_false (fun z => e (by have := Sum.inl.inj z; omega))]
      rcases List.mem_cons.mp h with z | z
      · exact (e z.symm).elim
      · exact ih z
theorem kvF_put {ps : List Nat} {da : Nat → Addr} {i : Nat} {d : Addr} (h : i ∉ ps) : putK (kvF ps da) (.inl (i : Int)) (.ref d) = kvF ps da ++ [(.inl (i : Int), .ref d)] := putK_new fun kv hk => by
  obtain ⟨p, hp, rfl⟩ := List.mem_map.mp hk
  intro z
  have := Sum.inl.inj z
  exact h (by rw [show i = p by omega]; exact hp)
structure MI (H0 : Hp) (l : List Nat) (f r : Addr) (s : Md) (da ba : Nat → Addr) (σ : L2.St) (H : Hp) : Prop where
  ext : ∀ a o, H0 a = some o → H a = some o
  sl : σ.length = 7
  s0 : ∃ x, σ[0]? = some (some (.str x)) ∧ TL.tl x = l
  s1 : σ[1]? = some (some (.ref f))
  s2 : σ[2]? = some (some (.ref r))
  s3 : σ[3]? = some (some (.int s.bh))
  cf : H f = some (.dK (kvF s.ps da))
  cr : H r = some (.lst (s.stk.map fun (n : Nat) => V.int n))
  cd : ∀ p ∈ s.ps, H (da p) = some (.dK (entV (ba p) (s.R p)))
  cb : ∀ p ∈ s.ps, H (ba p) = some (.lst ((s.R p).be.map fun (n : Nat) => V.int n))
  nf : H0 f = none
  nr : H0 r = none
  nd : ∀ p ∈ s.ps, H0 (da p) = none ∧ H0 (ba p) = none
  fr : f ≠ r
  fd : ∀ p ∈ s.ps, f ≠ da p ∧ f ≠ ba p ∧ r ≠ da p ∧ r ≠ ba p
  db : ∀ p ∈ s.ps, ∀ q ∈ s.ps, da p ≠ ba q ∧ (da p = da q → p = q) ∧ (ba p = ba q → p = q)
end Dn


set_option Elab.async false
set_option linter.all false
set_option maxRecDepth 100000
set_option maxHeartbeats 4000000
namespace Dn
open PySem PySem.Spec PyProof.Rows L2
theorem neOf {H : Hp} {a b : Addr} {o : HO} (h1 : H a = some o) (h2 : H b = none) : a ≠ b := fun z => by rw [z, h2] at h1; cases h1
def setA (da : Nat → Addr) (i : Nat) (d : Addr) : Nat → Addr := fun p => if p = i then d else da p
theorem setA_eq (da : Nat → Addr) (i : Nat) (d : Addr) : setA da i d i = d := if_pos rfl
theorem setA_ne {da : Nat → Addr} {i : Nat} {d : Addr} {p : Nat} (h : p ≠ i) : setA da i d p = da p := if_neg h
theorem atI_lastN {xs : List V} {v : V} (h : xs.getLast? = some v) : atI xs (-1) = some v := by
  obtain ⟨ys, rfl⟩ := List.getLast?_eq_some_iff.mp h
  exact Dn.atI_last _ _
theorem getLast_map (l : List Nat) : (l.map fun (n : Nat) => V.int n).getLast? = l.getLast?.map fun (n : Nat) => V.int n := by rw [List.getLast?_map]
/-- a node more -/
theorem MI.push {H0 : Hp} {l : List Nat} {f r : Addr} {s : Md} {da ba : Nat → Addr} {σ : L2.St} {H : Hp} (M : MI H0 l f r s da ba σ H) {i : Nat} (ok : MdOk i s) {p b c : Addr} {H4 : Hp} (hp : H p = none) (hb : H b = none) (hpb : p ≠ b)
    (e4 : ∀ a o, H0 a = some o → H4 a = some o) (ep : H4 p = some (.dK (entV b ((pushM i s).R i)))) (eb : H4 b = some (.lst [])) (ef : H4 f = H f) (er : H4 r = H r) (ed : ∀ q ∈ s.ps, H4 (da q) = H (da q)) (ebe : ∀ q ∈ s.ps, H4 (ba q) = some (.lst (((pushM i s).R q).be.map fun (n : Nat) => V.int n)))
    {σ' : L2.St} (hl : σ'.length = 7) (g0 : σ'[0]? = σ[0]?) (g1 : σ'[1]? = σ[1]?) (g2 : σ'[2]? = σ[2]?) (g3 : σ'[3]? = σ[3]?) :
    MI H0 l f r (pushM i s) (setA da i p) (setA ba i b) σ' (upd (upd H4 f (.dK (putK (kvF s.ps da) (.inl (i : Int)) (.ref p)))) r (.lst ((s.stk.map fun (n : Nat) => V.int n) ++ [.int (i : Int)]))) := by
  have ni : i ∉ s.ps := fun z => absurd (ok.lt i z) (Nat.lt_irrefl i)
  have ne : ∀ q ∈ s.ps, q ≠ i := fun q hq z => ni (by rw [← z]; exact hq)
  have pf : f ≠ p := neOf M.cf hp
  have bf : f ≠ b := neOf M.cf hb
  have pr : r ≠ p := neOf M.cr hp
  have br : r ≠ b := neOf M.cr hb
  have dp : ∀ q ∈ s.ps, da q ≠ p := fun q hq => neOf (M.cd q hq) hp
  have dbb : ∀ q ∈ s.ps, da q ≠ b := fun q hq => neOf (M.cd q hq) hb
  have bp : ∀ q ∈ s.ps, ba q ≠ p := fun q hq => neOf (M.cb q hq) hp
  have bb : ∀ q ∈ s.ps, ba q ≠ b := fun q hq => neOf (M.cb q hq) hb
  have h0 : ∀ a, H a = none → H0 a = none := fun a ha => by
    cases z : H0 a with
    | none => rfl
    | some o => rw [M.ext a o z] at ha; cases ha
  have mem : ∀ q, q ∈ s.ps ++ [i] → q ∈ s.ps ∨ q = i := fun q hq => (List.mem_append.mp hq).imp id List.mem_singleton.mp
  refine ⟨fun a o h => ?_, hl, by rw [g0]; exact M.s0, by rw [g1]; exact M.s1, by rw [g2]; exact M.s2, by rw [g3]; exact M.s3, ?_, ?_, fun q hq => ?_, fun q hq => ?_, M.nf, M.nr, fun q hq => ?_, M.fr, fun q hq => ?_, fun q hq q2 hq2 => ?_⟩
  · have a1 : a ≠ r := fun z => by rw [z, M.nr] at h; cases h
    have a2 : a ≠ f := fun z => by rw [z, M.nf] at h; cases h
    rw [upd_ne a1, upd_ne a2]
    exact e4 a o h
  · rw [upd_ne M.fr, upd_same, kvF_put ni]
    show some (HO.dK _) = some (HO.dK (kvF (s.ps ++ [i]) (setA da i p)))
    unfold kvF
    rw [List.map_append]
    congr 3
    · exact List.map_congr_left fun q hq => by rw [setA_ne (ne q hq)]
    · show _ = [(Sum.inl ((i : Nat) : Int), V.ref (setA da i p i))]
      rw [setA_eq]
  · rw [upd_same]
    show _ = some (HO.lst ((s.stk ++ [i]).map _))
    rw [List.map_append]
    rfl
  · rcases mem q hq with z | z
    · rw [setA_ne (ne q z), setA_ne (ne q z)]
      have hR : entV (ba q) ((pushM i s).R q) = entV (ba q) (s.R q) := by
        show entV (ba q) (if q = i then _ else if s.stk.getLast? = some q then _ else s.R q) = _
        rw [if_neg (ne q z)]
        split <;> rfl
      rw [hR, upd_ne (Ne.symm (M.fd q z).2.2.1), upd_ne (Ne.symm (M.fd q z).1), ed q z]
      exact M.cd q z
    · rw [z, setA_eq, setA_eq, upd_ne (Ne.symm pr), upd_ne (Ne.symm pf)]
      exact ep
  · rcases mem q hq with z | z
    · rw [setA_ne (ne q z), upd_ne (Ne.symm (M.fd q z).2.2.2), upd_ne (Ne.symm (M.fd q z).2.1)]
      exact ebe q z
    · rw [z, setA_eq, upd_ne (Ne.symm br), upd_ne (Ne.symm bf), eb]
      show _ = some (HO.lst (Rec.be (if i = i then _ else _) |>.map _))
      rw [if_pos rfl]
      rfl
  · rcases mem q hq with z | z
    · rw [setA_ne (ne q z), setA_ne (ne q z)]; exact M.nd q z
    · rw [z, setA_eq, setA_eq]; exact ⟨h0 p hp, h0 b hb⟩
  · rcases mem q hq with z | z
    · rw [setA_ne (ne q z), setA_ne (ne q z)]; exact M.fd q z
    · rw [z, setA_eq, setA_eq]; exact ⟨pf, bf, pr, br⟩
  · rcases mem q hq with z | z <;> rcases mem q2 hq2 with z2 | z2
    · rw [setA_ne (ne q z), setA_ne (ne q2 z2), setA_ne (ne q2 z2), setA_ne (ne q z)]; exact M.db q z q2 z2
    · rw [z2, setA_ne (ne q z), setA_eq, setA_eq, setA_ne (ne q z)]
      exact ⟨dbb q z, fun y => (dp q z y).elim, fun y => (bb q z y).elim⟩
    · rw [z, setA_eq, setA_ne (ne q2 z2), setA_ne (ne q2 z2), setA_eq]
      exact ⟨Ne.symm (bp q2 z2), fun y => (dp q2 z2 y.symm).elim, fun y => (bb q2 z2 y.symm).elim⟩
    · rw [z, z2, setA_eq, setA_eq]
      exact ⟨hpb, fun _ => rfl, fun _ => rfl⟩
theorem MI.pop {H0 : Hp} {l : List Nat} {f r : Addr} {s : Md} {da ba : Nat → Addr} {σ : L2.St} {H : Hp} (M : MI H0 l f r s da ba σ H) {i q : Nat} (ok : MdOk i s) (hq : s.stk.getLast? = some q)
    {σ' : L2.St} (hl : σ'.length = 7) (g0 : σ'[0]? = σ[0]?) (g1 : σ'[1]? = σ[1]?) (g2 : σ'[2]? = σ[2]?) (g3 : σ'[3]? = some (some (.int ((s.bh : Int) + 1)))) {H4 : Hp} (er : H4 r = some (.lst ((s.stk.map fun (n : Nat) => V.int n).dropLast)))
    (ed : H4 (da q) = some (.dK [(kUp, upV (s.R q).up), (kDepth, .int (s.R q).dp), (kBelow, .ref (ba q)), (kNumber, .int (s.R q).nu), (kEnd, .int (i : Int)), (kBehind, .int (s.bh : Int))])) (eo : ∀ a, a ≠ r → a ≠ da q → H4 a = H a) :
    MI H0 l f r (popM i s) da ba σ' H4 := by
  have hqp := ok.sub q (last_mem hq)
  refine ⟨fun a o h => ?_, hl, by rw [g0]; exact M.s0, by rw [g1]; exact M.s1, by rw [g2]; exact M.s2, by rw [g3]; rfl, ?_, ?_, fun p hp => ?_, fun p hp => ?_, M.nf, M.nr, M.nd, M.fr, M.fd, M.db⟩
  · have a1 : a ≠ r := fun z => by rw [z, M.nr] at h; cases h
    have a2 : a ≠ da q := fun z => by rw [z, (M.nd q hqp).1] at h; cases h
    rw [eo a a1 a2]
    exact M.ext a o h
  · rw [eo f M.fr (M.fd q hqp).1]; exact M.cf
  · rw [er]
    show _ = some (HO.lst (s.stk.dropLast.map _))
    rw [List.map_dropLast]
  · show H4 (da p) = some (.dK (entV (ba p) (if s.stk.getLast? = some p then _ else s.R p)))
    by_cases z : p = q
    · rw [z, if_pos hq, ed]; rfl
    · rw [if_neg (fun y => z (by rw [hq] at y; exact (Option.some.inj y).symm)), eo _ (Ne.symm (M.fd p hp).2.2.1) (fun y => z ((M.db p hp q hqp).2.1 y))]
      exact M.cd p hp
  · have hR : ((popM i s).R p).be = (s.R p).be := by
      show (if s.stk.getLast? = some p then _ else s.R p : Rec).be = _
      split <;> rfl
    rw [hR, eo _ (Ne.symm (M.fd p hp).2.2.2) (Ne.symm (M.db q hqp p hp).1)]
    exact M.cb p hp
section
variable {X : Cx} {pos : Pos} {c1 c2 : Expr} {a1 a2 a3 a4 a5 b1 b2 b3 b4 : Stmt} {q1 q2 : Pos}
def tBodyM : TS := fun D' σ H => ∃ H0 l f r i s da ba c, MI H0 l f r s da ba σ H ∧ MdOk i s ∧ i ≤ 500 ∧ l.length ≤ 500 ∧ σ[4]? = some (some (.int (i : Int))) ∧ l[i]? = some c ∧ (c = 49 ∨ s.stk ≠ []) ∧ ∀ σ' H' da' ba', MI H0 l f r (stepM i c s) da' ba' σ' H' → D'.nx σ' H'
theorem get_set7 {σ : L2.St} {i j : Nat} {v : Option V} (h : i ≠ j) : (σ.set i v)[j]? = σ[j]? := List.getElem?_set_ne h
theorem pss_bodyM (h1 : PT X c1 (tBit1 0 4)) (hA1 : PS X a1 (tOne 2 1 5)) (h2 : PT X c2 (tNeE 2)) (hA2 : PS X a2 (tUp 2 5)) (hA3 : PS X a3 (tBel 2 1 4)) (hA4 : PS X a4 (tPutF 1 4 5)) (hA5 : PS X a5 (tAppV 2 4))
    (hB1 : PS X b1 (tPop 2 6)) (hB2 : PS X b2 (tPutN 1 6 4 kEnd)) (hB3 : PS X b3 (tPutN 1 6 3 kBehind)) (hB4 : PS X b4 (tInc 3)) : PSs X [.If c1 [a1, .If c2 [a2, a3] [] q2, a4, a5] [b1, b2, b3, b4] q1] tBodyM :=
  weakSs (pss_one (ps_if h1 (pss_cons hA1 (pss_cons (ps_if h2 (pss_cons hA2 (pss_one hA3)) pss_nil) (pss_cons hA4 (pss_one hA5)))) (pss_cons hB1 (pss_cons hB2 (pss_cons hB3 (pss_one hB4)))))) fun D' σ H ⟨H0, l, f, r, i, s, da, ba, c, M, ok, hi, hll, g4, ec, hc, K⟩ => by
    obtain ⟨x, sx, ex⟩ := M.s0
    have hil : i < l.length := (List.getElem?_eq_some_iff.mp ec).1
    refine ⟨x, (i : Int), c, sx, g4, ?_, ?_, ?_⟩
    · rw [TL.len_tl, ex]; exact Nat.le_trans hll (by decide)
    · rw [ex, atI_nn (by omega) (by omega), Int.toNat_natCast]; exact ec
    have pl := ok.pl
    have sl := ok.sl
    have l7 : 7 = σ.length := M.sl.symm
    have ni : i ∉ s.ps := fun z => absurd (ok.lt i z) (Nat.lt_irrefl i)
    have nei : ∀ q ∈ s.ps, q ≠ i := fun q hq z => ni (by rw [← z]; exact hq)
    by_cases h49 : c = 49
    · rw [decide_eq_true h49]
      show (if (true : Bool) = true then _ else _ : Prop)
      rw [if_pos rfl]
      have eS : stepM i c s = pushM i s := if_pos h49
      rw [eS] at K
      refine ⟨r, _, f, _, M.s2, M.cr, M.s1, M.cf, fun p b H1 hp hb hpb ep eb eo => ?_⟩
      have pr : r ≠ p := neOf M.cr hp
      have br : r ≠ b := neOf M.cr hb
      have pf : f ≠ p := neOf M.cf hp
      have bf : f ≠ b := neOf M.cf hb
      have g0' : (σ.set 5 (some (V.ref p)))[0]? = σ[0]? := get_set7 (by decide)
      have g1' : (σ.set 5 (some (V.ref p)))[1]? = σ[1]? := get_set7 (by decide)
      have g2' : (σ.set 5 (some (V.ref p)))[2]? = σ[2]? := get_set7 (by decide)
      have g3' : (σ.set 5 (some (V.ref p)))[3]? = σ[3]? := get_set7 (by decide)
      have g4' : (σ.set 5 (some (V.ref p)))[4]? = σ[4]? := get_set7 (by decide)
      have g5' : (σ.set 5 (some (V.ref p)))[5]? = some (some (.ref p)) := List.getElem?_set_self (by omega)
      have hl' : (σ.set 5 (some (V.ref p))).length = 7 := by rw [List.length_set]; exact M.sl
      refine ⟨r, s.stk, by rw [g2']; exact M.s2, by rw [eo r pr br]; exact M.cr, fun c0 hc0 => ?_⟩
      have cp : p ≠ c0 := neOf ep hc0
      have cb0 : b ≠ c0 := neOf eb hc0
      have hcH : ∀ a o, H a = some o → a ≠ c0 ∧ a ≠ p ∧ a ≠ b := fun a o ha => by
        have e1 : a ≠ p := neOf ha hp
        have e2 : a ≠ b := neOf ha hb
        exact ⟨neOf (by rw [eo a e1 e2]; exact ha) hc0, e1, e2⟩
      have ext2 : ∀ a o, H a = some o → upd H1 c0 (.lst []) a = some o := fun a o ha => by
        obtain ⟨z1, z2, z3⟩ := hcH a o ha
        rw [upd_ne z1, eo a z2 z3]; exact ha
      -- the last steps
      have fin : ∀ H4 : Hp, (∀ a o, H0 a = some o → H4 a = some o) → H4 p = some (.dK (entV b ((pushM i s).R i))) → H4 b = some (.lst []) → H4 f = H f → H4 r = H r → (∀ q ∈ s.ps, H4 (da q) = H (da q)) → (∀ q ∈ s.ps, H4 (ba q) = some (.lst (((pushM i s).R q).be.map fun (n : Nat) => V.int n))) →
          tSeq (tPutF 1 4 5) (tAppV 2 4) D' (σ.set 5 (some (.ref p))) H4 := fun H4 w1 w2 w3 w4 w5 w6 w7 => by
        refine ⟨f, _, (i : Int), .ref p, g5', by rw [g1']; exact M.s1, by rw [g4']; exact g4, by rw [w4]; exact M.cf, by unfold kvF; rw [List.length_map]; omega, ?_⟩
        refine ⟨r, _, .int (i : Int), by rw [g2']; exact M.s2, by rw [upd_ne (Ne.symm M.fr), w5]; exact M.cr, by rw [List.length_map]; omega, by rw [g4']; exact g4, ?_⟩
        exact K _ _ _ _ (M.push ok hp hb hpb (c := c0) w1 w2 w3 w4 w5 w6 w7 hl' g0' g1' g2' g3')
      have hRi : (pushM i s).R i = ⟨s.stk.getLast?, s.stk.length, [], s.ps.length, none⟩ := if_pos rfl
      cases hL : s.stk.getLast? with
      | none =>
        have hs0 : s.stk = [] := List.getLast?_eq_none_iff.mp hL
        rw [decide_eq_true hs0]
        show (if (!true : Bool) = true then _ else _ : Prop)
        rw [if_neg (by decide)]
        refine fin _ (fun a o h => ext2 a o (M.ext a o h)) ?_ (by rw [upd_ne cb0]; exact eb) (by rw [ext2 f _ M.cf, M.cf]) (by rw [ext2 r _ M.cr, M.cr]) (fun q hq => by rw [ext2 _ _ (M.cd q hq), M.cd q hq]) (fun q hq => ?_)
        · rw [upd_ne cp, ep, hRi, hL, List.length_map]
          unfold kvF
          rw [List.length_map]
          rfl
        · rw [ext2 _ _ (M.cb q hq)]
          show _ = some (HO.lst (Rec.be (if q = i then _ else if s.stk.getLast? = some q then _ else s.R q) |>.map _))
          rw [if_neg (nei q hq), hL, if_neg (fun z => by cases z)]
      | some q =>
        have hsne : s.stk ≠ [] := fun z => by rw [z] at hL; cases hL
        have hqp := ok.sub q (last_mem hL)
        have hlast : atI (s.stk.map fun (n : Nat) => V.int n) (-1) = some (.int (q : Int)) := atI_lastN (by rw [getLast_map, hL]; rfl)
        rw [decide_eq_false hsne]
        show (if (!false : Bool) = true then _ else _ : Prop)
        rw [if_pos (by decide)]
        have dqp : da q ≠ p := neOf (M.cd q hqp) hp
        have bqp : ba q ≠ p := neOf (M.cb q hqp) hp
        have bqb : ba q ≠ b := neOf (M.cb q hqp) hb
        have ep2 : upd H1 c0 (.lst []) p = some (.dK (ent0 s.stk.length s.ps.length b)) := by
          rw [upd_ne cp, ep, List.length_map]
          unfold kvF
          rw [List.length_map]
        refine ⟨r, _, .int (q : Int), p, _, by rw [g2']; exact M.s2, ext2 r _ M.cr, hlast, g5', ep2, by show 4 < 1000; decide, ?_⟩
        rw [put_up]
        have ext3 : ∀ a o, H a = some o → upd (upd H1 c0 (.lst [])) p (.dK [(kUp, .int (q : Int)), (kDepth, .int (s.stk.length : Nat)), (kBelow, .ref b), (kNumber, .int (s.ps.length : Nat))]) a = some o := fun a o ha => by
          rw [upd_ne (hcH a o ha).2.1]; exact ext2 a o ha
        have hbl := ok.bl q hqp
        refine ⟨r, _, (q : Int), f, _, da q, _, ba q, _, .int (i : Int), by rw [g2']; exact M.s2, ext3 r _ M.cr, hlast, by rw [g1']; exact M.s1, ext3 f _ M.cf, kvF_val hqp, ext3 _ _ (M.cd q hqp), val_below _ _, ext3 _ _ (M.cb q hqp), by rw [List.length_map]; omega, by rw [g4']; exact g4, ?_⟩
        have nbq : ∀ a o, H0 a = some o → a ≠ ba q := fun a o h z => by rw [z, (M.nd q hqp).2] at h; cases h
        refine fin _ (fun a o h => by rw [upd_ne (nbq a o h)]; exact ext3 a o (M.ext a o h)) ?_ ?_ ?_ ?_ (fun q2 hq2 => ?_) (fun q2 hq2 => ?_)
        · rw [upd_ne (Ne.symm bqp), upd_same, hRi, hL]; rfl
        · rw [upd_ne (Ne.symm bqb), upd_ne (Ne.symm hpb), upd_ne cb0]; exact eb
        · rw [upd_ne (M.fd q hqp).2.1, ext3 f _ M.cf, M.cf]
        · rw [upd_ne (M.fd q hqp).2.2.2, ext3 r _ M.cr, M.cr]
        · rw [upd_ne (M.db q2 hq2 q hqp).1, ext3 _ _ (M.cd q2 hq2), M.cd q2 hq2]
        · show _ = some (HO.lst (Rec.be (if q2 = i then _ else if s.stk.getLast? = some q2 then _ else s.R q2) |>.map _))
          rw [if_neg (nei q2 hq2), hL]
          by_cases z : q2 = q
          · rw [z, upd_same, if_pos rfl]
            show some (HO.lst _) = some (HO.lst (((s.R q).be ++ [i]).map _))
            rw [List.map_append]; rfl
          · rw [if_neg (fun y => z (Option.some.inj y).symm), upd_ne (fun y => z ((M.db q2 hq2 q hqp).2.2 y)), ext3 _ _ (M.cb q2 hq2)]
    · rw [decide_eq_false h49]
      show (if (false : Bool) = true then _ else _ : Prop)
      rw [if_neg Bool.false_ne_true]
      have eS : stepM i c s = popM i s := if_neg h49
      rw [eS] at K
      have hsne : s.stk ≠ [] := hc.resolve_left h49
      obtain ⟨q, hL⟩ : ∃ q, s.stk.getLast? = some q := by
        cases z : s.stk.getLast? with
        | none => exact (hsne (List.getLast?_eq_none_iff.mp z)).elim
        | some q => exact ⟨q, rfl⟩
      have hqp := ok.sub q (last_mem hL)
      have hlen : (s.stk.map fun (n : Nat) => V.int n).getLast? = some (.int (q : Int)) := by rw [getLast_map, hL]; rfl
      refine ⟨r, _, .int (q : Int), M.s2, M.cr, by rw [← List.getLast?_eq_getElem?]; exact hlen, ?_⟩
      have g1' : (σ.set 6 (some (V.int (q : Int))))[1]? = σ[1]? := get_set7 (by decide)
      have g0' : (σ.set 6 (some (V.int (q : Int))))[0]? = σ[0]? := get_set7 (by decide)
      have g2' : (σ.set 6 (some (V.int (q : Int))))[2]? = σ[2]? := get_set7 (by decide)
      have g3' : (σ.set 6 (some (V.int (q : Int))))[3]? = σ[3]? := get_set7 (by decide)
      have g4' : (σ.set 6 (some (V.int (q : Int))))[4]? = σ[4]? := get_set7 (by decide)
      have g6' : (σ.set 6 (some (V.int (q : Int))))[6]? = some (some (.int (q : Int))) := List.getElem?_set_self (by omega)
      have rdq := (M.fd q hqp).2.2.1
      have fdq := (M.fd q hqp).1
      refine ⟨f, _, (q : Int), da q, _, .int (i : Int), by rw [g4']; exact g4, by rw [g1']; exact M.s1, g6', by rw [upd_ne M.fr]; exact M.cf, kvF_val hqp, by rw [upd_ne (Ne.symm rdq)]; exact M.cd q hqp, ?_, ?_⟩
      · unfold entV; rw [List.length_append]; unfold tlV; rw [ok.tl q (last_mem hL)]; show 4 + 0 < 1000; decide
      refine ⟨f, _, (q : Int), da q, _, .int (s.bh : Int), by rw [g3']; exact M.s3, by rw [g1']; exact M.s1, g6', by rw [upd_ne fdq, upd_ne M.fr]; exact M.cf, kvF_val hqp, upd_same, ?_, ?_⟩
      · have h1 := length_putK (entV (ba q) (s.R q)) kEnd (.int (i : Int))
        have h2 : (entV (ba q) (s.R q)).length = 4 := by unfold entV; rw [List.length_append]; unfold tlV; rw [ok.tl q (last_mem hL)]; rfl
        omega
      refine ⟨(s.bh : Int), by rw [g3']; exact M.s3, ?_⟩
      refine K _ _ da ba (M.pop ok hL (by rw [List.length_set, List.length_set]; exact M.sl) ?_ ?_ ?_ ?_ ?_ ?_ fun a h1 h2 => ?_)
      · rw [get_set7 (by decide)]; exact g0'
      · rw [get_set7 (by decide)]; exact g1'
      · rw [get_set7 (by decide)]; exact g2'
      · exact List.getElem?_set_self (by rw [List.length_set]; omega)
      · rw [upd_ne rdq, upd_ne rdq, upd_same]
      · rw [upd_same, put_end _ _ (ok.tl q (last_mem hL))]
      · rw [upd_ne h2, upd_ne h2, upd_ne h1]
end
end Dn


set_option Elab.async false
set_option linter.all false
set_option maxRecDepth 100000
set_option maxHeartbeats 4000000
namespace Dn
open PySem PySem.Spec PyProof.Rows L2
def upD : Option Nat → D
  | none => .non
  | some q => .int (q : Nat)
def tlD : Option (Nat × Nat) → List (Key × D)
  | none => []
  | some (e, h) => [(kEnd, .int (e : Nat)), (kBehind, .int (h : Nat))]
def natD (ns : List Nat) : List D := ns.map fun n => .int (n : Nat)
def entD (r : Rec) : List (Key × D) := [(kUp, upD r.up), (kDepth, .int (r.dp : Nat)), (kBelow, .lst (natD r.be)), (kNumber, .int (r.nu : Nat))] ++ tlD r.tl
def modelD (l : List Nat) : D := .dct ((mdl l l.length).ps.map fun (p : Nat) => (.inl (p : Int), .dct (entD ((mdl l l.length).R p))))
def okM (l : List Nat) : Bool := (List.range l.length).all fun i => decide (l.getD i 0 = 49) || !(mdl l i).stk.isEmpty
theorem mdl_ok (l : List Nat) : ∀ i, MdOk i (mdl l i)
  | 0 => ⟨fun p hp => (by cases hp), fun p hp => (by cases hp), fun p hp => (by cases hp), List.nodup_nil, fun p hp => (by cases hp), Nat.le_refl _, Nat.le_refl _⟩
  | i + 1 => by
    rw [mdl, stepM]
    split
    · exact (mdl_ok l i).push
    · exact (mdl_ok l i).pop
section
variable {K : PySem.W.Frag} {mg : Str → Option Value}
theorem Rp.dct_of {F : Hp} {a : Addr} {us : List (Key × V)} {ks : List (Key × D)} (h : F a = some (.dK us)) (q : Paired (fun (u : Key × V) (k : Key × D) => u.1 = k.1 ∧ Rp K mg F u.2 k.2) us ks) : Rp K mg F (.ref a) (.dct ks) := by
  refine .dct h ?_ fun i v d e1 e2 => ?_
  · clear h
    induction q with
    | nil => rfl
    | cons r t ih => rw [List.map_cons, List.map_cons, ih, r.1]
  · clear h
    induction q generalizing i with
    | nil => cases e1
    | cons r t ih =>
      cases i with
      | zero => cases e1; cases e2; exact r.2
      | succ i => exact ih i (by simpa using e1) (by simpa using e2)
theorem RpL_nat (G : Hp) : ∀ ms : List Nat, RpL K mg G (ms.map fun (n : Nat) => V.int n) (natD ms)
  | [] => .nil
  | m :: ms => .cons (.int _) (RpL_nat G ms)
theorem rp_ent {F : Hp} {a b : Addr} {r : Rec} (h : F a = some (.dK (entV b r))) (hb : F b = some (.lst (r.be.map fun (n : Nat) => V.int n))) : Rp K mg F (.ref a) (.dct (entD r)) := by
  refine .dct_of h ?_
  unfold entV entD
  refine .cons ⟨rfl, ?_⟩ (.cons ⟨rfl, .int _⟩ (.cons ⟨rfl, RpL.lst hb (RpL_nat F _)⟩ (.cons ⟨rfl, .int _⟩ ?_)))
  · cases r.up with
    | none => exact .non
    | some q => exact .int _
  · cases r.tl with
    | none => exact .nil
    | some z =>
      obtain ⟨e, h⟩ := z
      exact .cons ⟨rfl, .int _⟩ (.cons ⟨rfl, .int _⟩ .nil)
end
theorem MI.set4 {H0 : Hp} {l : List Nat} {f r : Addr} {s : Md} {da ba : Nat → Addr} {σ : L2.St} {H : Hp} (M : MI H0 l f r s da ba σ H) (v : Option V) : MI H0 l f r s da ba (σ.set 4 v) H :=
  ⟨M.ext, by rw [List.length_set]; exact M.sl, by rw [get_set7 (by decide)]; exact M.s0, by rw [get_set7 (by decide)]; exact M.s1, by rw [get_set7 (by decide)]; exact M.s2, by rw [get_set7 (by decide)]; exact M.s3, M.cf, M.cr, M.cd, M.cb, M.nf, M.nr, M.nd, M.fr, M.fd, M.db⟩
open Classical in
noncomputable def frzM (F H : Hp) (C : Addr → Prop) : Hp := fun a => if C a then H a else F a
section
variable {X : Cx} {W : Wi} {pos : Pos} {s1 s2 s3 s5 : Stmt} {bd : List Stmt} {tg : Expr}
def modelF : Sto → Out
  | [.val (.str l), .no, .no, .no, .no, .no, .no] => if l.length ≤ 400 ∧ okM l = true then .rt (modelD l) else .stuck
  | _ => .stuck
theorem dss_model {p1 p2 p3 p4 p5 : Pos} {x : Str} (hp : PassesOwn (model X.prog X.w) X.A X.env X.xe) (hc : X.calm = true) (h1 : PS X s1 (tEmp 1)) (h2 : PS X s2 (tLs0 2)) (h3 : PS X s3 (tInt 3 0)) (hm : X.mg "range" = none) (hm2 : X.mg "len" = none)
    (h0 : PE X (.Name x p1) (tVar 0)) (hg : PG X tg (gName 4)) (hb : PSs X bd tBodyM) (h5 : PS X s5 (tRet (tVar 1))) (hgl : Gl X "range" := by rfl) (hgl2 : Gl X "len" := by rfl)
    (hse : starEach [.Call (.Name "len" p2) [.Name x p1] [] p3] X.env = [(false, eval (.Call (.Name "len" p2) [.Name x p1] [] p3) X.env)] := by rfl)
    (hs : ∀ z, foldedSetIterable (.Call (.Name "range" p4) [.Call (.Name "len" p2) [.Name x p1] [] p3] [] p5) X.env z = pure z := by intro _; rfl) :
    DSs [] X W [s1, s2, s3, .For tg (.Call (.Name "range" p4) [.Call (.Name "len" p2) [.Name x p1] [] p3] [] p5) bd [] pos, s5] modelF :=
  weakSs (pss_cons h1 (pss_cons h2 (pss_cons h3 (pss_cons (ps_for hp hc (pi_range1 hgl hm (pa_cons (pe_callB call_len hgl2 hm2 PySem.boot_len (pa_cons h0 pa_nil)) pa_nil) hse) hg hb hs) (pss_one h5))))) fun D' σ H ⟨F0, H0, F, δ, S, h⟩ => by
    unfold modelF at h
    split at h
    · rename_i l
      split at h
      · rename_i hc
        obtain ⟨hl, hok⟩ := hc
        have L := S.loc
        obtain ⟨ov, e0, v, rfl, rv⟩ := L.slot 0 _ rfl
        have hlen : σ.length = 7 := L.len
        cases rv with
        | @str x _ ex =>
        intro f hf
        intro r hr
        have hfr : f ≠ r := fun z => by rw [← z, upd_same] at hr; cases hr
        rw [upd_ne (Ne.symm hfr)] at hr
        have M0 : MI H l f r (mdl l 0) (fun _ => 0) (fun _ => 0) (((σ.set 1 (some (.ref f))).set 2 (some (.ref r))).set 3 (some (.int 0))) (upd (upd H f (.dK [])) r (.lst [])) := by
          refine ⟨fun a o ha => ?_, by rw [List.length_set, List.length_set, List.length_set]; exact hlen, ⟨x, ?_, ex⟩, ?_, ?_, ?_, ?_, ?_, fun p hp => (by cases hp), fun p hp => (by cases hp), hf, hr, fun p hp => (by cases hp), hfr, fun p hp => (by cases hp), fun p hp => (by cases hp)⟩
          · rw [upd_ne (neOf ha hr), upd_ne (neOf ha hf)]; exact ha
          · rw [get_set7 (by decide), get_set7 (by decide), get_set7 (by decide)]; exact e0
          · rw [get_set7 (by decide), get_set7 (by decide)]; exact List.getElem?_set_self (by omega)
          · rw [get_set7 (by decide)]; exact List.getElem?_set_self (by rw [List.length_set]; omega)
          · exact List.getElem?_set_self (by rw [List.length_set, List.length_set]; omega)
          · rw [upd_ne hfr, upd_same]; rfl
          · rw [upd_same]; rfl
        obtain ⟨x', sx, ex'⟩ := M0.s0
        have hxl : x'.length = l.length := by rw [TL.len_tl, ex']
        refine ⟨.str x', sx, _, x'.length, rfl, ⟨Nat.le_trans (by rw [hxl]; exact hl) (show 400 ≤ sizeLine by decide), rfl⟩, ?_⟩
        rw [hxl]
        refine ⟨(l.length : Int), rfl, by omega, by omega, ?_⟩
        rw [Int.toNat_natCast]
        refine ⟨fun i m σ H' => m = l.length - i ∧ i ≤ l.length ∧ ∃ da ba, MI H l f r (mdl l i) da ba σ H', ⟨l.length, by simp, Nat.zero_le _, _, _, M0⟩, ?_⟩
        rintro i m σ1 H1 ⟨rfl, hi, da, ba, M⟩
        by_cases hlt : i < l.length
        · refine .inr ⟨hlt, fun σ' H' => ∃ da ba, MI H l f r (mdl l (i + 1)) da ba σ' H', fun σ' H' ⟨da', ba', M'⟩ => ⟨l.length - (i + 1), by omega, rfl, hlt, da', ba', M'⟩, fun z H2 y => ?_⟩
          obtain ⟨rfl, rfl⟩ := y
          have hci : l.getD i 0 = l[i] := by rw [List.getD_eq_getElem?_getD, List.getElem?_eq_getElem hlt]; rfl
          have hs := List.all_eq_true.mp hok i (List.mem_range.mpr hlt)
          refine ⟨H, l, f, r, i, mdl l i, da, ba, l[i], M.set4 _, mdl_ok l i, by omega, by omega, ?_, List.getElem?_eq_getElem hlt, ?_, fun σ' H' da' ba' M' => ⟨da', ba', ?_⟩⟩
          · rw [Int.zero_add]; exact List.getElem?_set_self (by rw [M.sl]; decide)
          · rw [hci] at hs
            simp only [Bool.or_eq_true, decide_eq_true_eq, Bool.not_eq_true'] at hs
            exact hs.imp id fun q z => by rw [z] at q; cases q
          · rw [mdl, hci]; exact M'
        · have e : i = l.length := by omega
          subst e
          refine .inl ⟨Nat.le_refl _, ?_⟩
          refine ⟨.ref f, M.s1, ?_⟩
          -- all is frozen
          let C : Addr → Prop := fun a => a = f ∨ ∃ p ∈ (mdl l l.length).ps, a = da p ∨ a = ba p
          have cN : ∀ a, C a → H a = none ∧ ∃ o, H1 a = some o ∧ ∀ ps, o ≠ .tbl ps := fun a ha => by
            rcases ha with e | ⟨p, hp, e | e⟩
            · rw [e]; exact ⟨M.nf, _, M.cf, fun _ z => by cases z⟩
            · rw [e]; exact ⟨(M.nd p hp).1, _, M.cd p hp, fun _ z => by cases z⟩
            · rw [e]; exact ⟨(M.nd p hp).2, _, M.cb p hp, fun _ z => by cases z⟩
          have fin : ∀ a, C a → frzM F H1 C a = H1 a := fun a ha => if_pos ha
          have fout : ∀ a, ¬ C a → frzM F H1 C a = F a := fun a ha => if_neg ha
          have nC : ∀ a o, H a = some o → ¬ C a := fun a o ho hz => by rw [(cN a hz).1] at ho; cases ho
          have st : Step [] F H (frzM F H1 C) H1 := by
            refine ⟨fun a o ho => ⟨o, by rw [fout a (nC a o (L.sub a o ho))]; exact ho, .refl o⟩, ⟨fun a o ho => ?_, fun p hp => (by cases hp), fun a ps ho => ?_⟩, fun a o _ ho _ => M.ext a o ho, fun a o n ho _ => ⟨by rw [fout a (nC a o ho)]; exact n, o, M.ext a o ho, .inl rfl⟩⟩
            · by_cases z : C a
              · rw [fin a z] at ho; exact ho
              · rw [fout a z] at ho; exact M.ext a o (L.sub a o ho)
            · by_cases z : C a
              · obtain ⟨_, o, e1, e2⟩ := cN a z
                rw [fin a z, e1] at ho; exact e2 ps (Option.some.inj ho)
              · rw [fout a z] at ho; exact L.gd.ntb a ps ho
          refine h (.ref f) _ _ (S.st.trans st) ?_
          unfold modelD
          refine .dct_of (by rw [fin f (.inl rfl)]; exact M.cf) ?_
          unfold kvF
          have : ∀ qs : List Nat, (∀ p ∈ qs, p ∈ (mdl l l.length).ps) → Paired (fun (u : Key × V) (k : Key × D) => u.1 = k.1 ∧ Rp X.K X.mg (frzM F H1 C) u.2 k.2) (qs.map fun (p : Nat) => ((.inl (p : Int) : Key), V.ref (da p))) (qs.map fun (p : Nat) => ((.inl (p : Int) : Key), D.dct (entD ((mdl l l.length).R p)))) := by
            intro qs
            induction qs with
            | nil => intro _; exact .nil
            | cons p qs ih =>
              intro hq
              have hp := hq p List.mem_cons_self
              exact .cons ⟨rfl, rp_ent (by rw [fin _ (.inr ⟨p, hp, .inl rfl⟩)]; exact M.cd p hp) (by rw [fin _ (.inr ⟨p, hp, .inr rfl⟩)]; exact M.cb p hp)⟩ (ih fun q hq2 => hq q (List.mem_cons_of_mem _ hq2))
          exact this _ fun p hp => hp
      · exact h.elim
    · exact h.elim
end
end Dn


set_option Elab.async false
set_option linter.all false
set_option maxRecDepth 100000
set_option maxHeartbeats 4000000
namespace Dn
open PySem PySem.Spec PyProof.Rows L2
section
variable {T : List (Addr × Str)} {X : Cx} {W : Wi} {K : PySem.W.Frag} {mg : Str → Option Value}
/-! ### x.count(y) of lists and texts -/
def rCntL (K : PySem.W.Frag) : V → List V → Hp → VK → Prop := fun x xs H Q => ∃ (a : Addr) (ys : List V) (y : V), x = V.ref a ∧ xs = [y] ∧ SqL K H a ys ∧ flatV y = true ∧ ys.all flatV = true ∧ Q (.int ((ys.countP fun z => eqV z y : Nat) : Int)) H
theorem mt_cntL : MtR X "list.count" (rCntL X.K) := by
  intro pins s σ H x xs v us Q I rx rxs h
  obtain ⟨a, ys, y, rfl, rfl, hs, fy, fys, q⟩ := h
  cases rx
  cases rxs with
  | cons ry rt =>
    rename_i uy ut
    cases rt
    obtain ⟨its, rv, ⟨⟨cls, dd, data, sl⟩, n, ho, hc, hdn, hd⟩, hlen⟩ := I.list hs
    simp only at hc hd
    subst hc hd
    have hm : its.map (eqU y) = ys.map (fun z => eqV z y) := by
      refine List.ext_getElem? fun m => ?_
      have hvl := rv.length
      rw [List.getElem?_map, List.getElem?_map]
      by_cases hmy : m < ys.length
      · have hy' : ys[m]? = some ys[m] := List.getElem?_eq_getElem hmy
        obtain ⟨u2, hu2, ru2⟩ := rv.get hy'
        rw [hu2, hy']
        show some (eqU y u2) = some (eqV ys[m] y)
        rw [eqU_of ru2 (flat_at fys hy')]
      · rw [List.getElem?_eq_none (by omega), List.getElem?_eq_none (by omega)]; rfl
    have hcn : its.countP (eqU y) = ys.countP fun z => eqV z y := by
      have h1 := List.countP_map (p := id) (f := eqU y) (l := its)
      have h2 := List.countP_map (p := id) (f := fun z => eqV z y) (l := ys)
      rw [hm] at h1
      exact h1.symm.trans h2
    refine call_meets PySem.F.slot_list_count ⟨_, ho, rfl⟩ PySem.F.entry_list_count (PySem.F.args_list_count_2 _ _)
      (SeqAt.list_countAt a its.toArray n dd sl uy (eqU y)) ⟨ho, fun u' hu' => mem_eqAt ry fy rv fys u' (by simpa using hu'), ?_⟩
    rw [show its.toArray.toList = its from rfl, hcn]
    exact ⟨.int _, H, I.tok _, ⟨_, rfl⟩, q⟩
def cntD (ds : List D) (y : D) : Res D := if flatD y = true ∧ ds.all flatD = true then .ok (.int ((ds.countP fun z => eqFD z y : Nat) : Int)) else .stuck
def cntE (fo fe : Sto → Res D) : Sto → Res D := fun δ => (fo δ).bind fun x => match x with
  | .lst ds => (fe δ).bind (cntD ds)
  | .str l => (fe δ).bind (countD l)
  | _ => .stuck
theorem cntV_rp {F : Hp} {v : V} {x : D} (rv : Rp K mg F v x) (hx : flatD x = true) : ∀ {us : List V} {ds : List D}, RpL K mg F us ds → ds.all flatD = true → us.countP (fun z => eqV z v) = ds.countP fun y => eqFD y x
  | _, _, .nil, _ => rfl
  | _, _, .cons r t, h => by
    rw [List.all_cons, Bool.and_eq_true] at h
    rw [List.countP_cons, List.countP_cons, cntV_rp rv hx t h.2, eqF_rp r rv h.1 hx]
theorem de_cntL {o e : Expr} {fo fe : Sto → Res D} {apos cpos : Pos} (ho : DE T X W o fo) (he : DE T X W e fe) (hbase : attributeBase o "count" X.env (eval o X.env) = eval o X.env := by rfl)
    (hfew : ((backTo cpos (starEach (e :: []) X.env)).all (fun x => !x.1) && (backToKw cpos (keywordEach [] X.env)).all (fun x => x.1.isSome) && decide ((e :: []).length + ([] : List Keyword).length + (if ([] : List Keyword).isEmpty then 0 else 1) < 30)) = true := by rfl)
    (hline : (apos.endLine == cpos.line) = true := by rfl) (hse : starEach (e :: []) X.env = (false, eval e X.env) :: starEach [] X.env := by rfl) (hplain : (backTo cpos (starEach [] X.env)).any (·.1) = false := by rfl) :
    DE T X W (.Call (.Attribute o "count" apos) [e] [] cpos) (binL cntD fo fe) :=
  weakE (pe_bm PySem.F.plainAttrs_list PySem.F.slot_list_count PySem.F.type_list_count mt_cntL ho (pa_cons he pa_nil hse) hbase hfew hline hse hplain) fun σ H Q ⟨F, δ, L, h⟩ => bindE ppE L h fun x v F1 H1 s1 L1 r1 h1 => by
    cases x with
    | lst ds =>
      obtain ⟨p, us, rfl, e1, q⟩ := r1.lst_inv
      refine ⟨.inl ⟨rfl, us, .of (L1.sub _ _ e1)⟩, bindE ppE L1 h1 fun y u F2 H2 s2 L2 r2 h2 => ?_⟩
      unfold cntD at h2
      obtain ⟨⟨hf, ha⟩, h2'⟩ := PostE.ite h2
      have e2 := s2.r.lst e1
      have q2 := q.mono s2.r
      exact ⟨p, us, u, rfl, rfl, .of (L2.sub _ _ e2), flat_rp r2 hf, all_flat q2 ha, h2'.here L2.gd (by rw [cntV_rp r2 hf q2 ha]; exact .int _)⟩
    | _ => exact (show False from h1).elim
theorem de_cnt {o e : Expr} {fo fe : Sto → Res D} {apos cpos : Pos} (ho : DE T X W o fo) (he : DE T X W e fe) (hbase : attributeBase o "count" X.env (eval o X.env) = eval o X.env := by rfl)
    (hfew : ((backTo cpos (starEach (e :: []) X.env)).all (fun x => !x.1) && (backToKw cpos (keywordEach [] X.env)).all (fun x => x.1.isSome) && decide ((e :: []).length + ([] : List Keyword).length + (if ([] : List Keyword).isEmpty then 0 else 1) < 30)) = true := by rfl)
    (hline : (apos.endLine == cpos.line) = true := by rfl) (hse : starEach (e :: []) X.env = (false, eval e X.env) :: starEach [] X.env := by rfl) (hs : starEach [e] X.env = [(false, eval e X.env)] := by rfl) (hplain : (backTo cpos (starEach [] X.env)).any (·.1) = false := by rfl) :
    DE T X W (.Call (.Attribute o "count" apos) [e] [] cpos) (cntE fo fe) :=
  weakE (PE.or (de_cntL ho he hbase hfew hline hse hplain) (de_count ho he hs hbase hline)) fun σ H Q ⟨F, δ, L, h⟩ => by
    unfold cntE at h
    cases ef : fo δ with
    | stuck => rw [ef] at h; exact (show False from h).elim
    | rs c => rw [ef] at h; exact .inl ⟨F, δ, L, by unfold binL; rw [ef]; exact h⟩
    | ok x =>
      rw [ef] at h
      cases x with
      | lst ds => exact .inl ⟨F, δ, L, by unfold binL; rw [ef]; exact h⟩
      | str l => exact .inr ⟨F, δ, L, by unfold binS; rw [ef]; exact h⟩
      | _ => exact (show False from h).elim
@[simp] theorem cntE_eq {fo fe : Sto → Res D} {δ : Sto} : cntE fo fe δ = (fo δ).bind fun x => (match x with | .lst ds => (fe δ).bind (cntD ds) | .str l => (fe δ).bind (countD l) | _ => .stuck) := nrfl rfl
end
end Dn


set_option Elab.async false
set_option linter.all false
set_option maxRecDepth 100000
set_option maxHeartbeats 4000000
namespace Dn
open PySem PySem.Spec PyProof.Rows L2
section
variable {T : List (Addr × Str)} {X : Cx} {W : Wi} {K : PySem.W.Frag} {mg : Str → Option Value} {h : Heap}
/-! ### a program with some of the errors alone -/
structure ExcPart (K : PySem.W.Frag) (mg : Str → Option Value) (CT : Addr) (xs : List Str) : Prop where
  each : ∀ x ∈ xs, ∃ C, ExcOk K mg CT x C
theorem part_nil {CT : Addr} : ExcPart K mg CT [] := ⟨fun x hx => by cases hx⟩
theorem part_cons {CT C : Addr} {x : Str} {xs : List Str} (X : K.In h) (G : h.Ns mainGlobals mg) (a : PySem.W.nsIn K mainGlobals x = some (some (.ref C))) (e : excB K CT C = true) (r : ExcPart K mg CT xs) : ExcPart K mg CT (x :: xs) := ⟨fun y hy => by
  rcases List.mem_cons.mp hy with rfl | hy
  · exact ⟨C, exc_mk X G a e⟩
  · exact r.each y hy⟩
theorem ds_raiseP {x m : Str} {CT : Addr} {xs : List Str} {j : Nat} {p p2 p3 pos : Pos} (tab : ExcPart X.K X.mg CT xs) (hx : x ∈ xs) (hc : X.calm = true) (tk : L2N.Takes X (wx X.mg W)) (hg : Gl X x := by rfl) (hdb : (x == ("__debug__" : Str)) = false := by decide) :
    DS T X W (.Raise (some (.Call (.Name x p) [.Constant (.str m) j p2] [] p3)) none pos) (rais x) := by
  obtain ⟨C, E⟩ := tab.each x hx
  exact ds_raise hc tk PySem.F.excBase_ValueError E.xin E.g E.kp E.sb E.ty hg hdb
end
end Dn


set_option Elab.async false
set_option linter.all false
set_option maxRecDepth 100000
set_option maxHeartbeats 4000000
namespace Dn
open PySem PySem.Spec PyProof.Rows L2
/-! ### one object beside the store, changed where it lies -/
/-- the object's own places -/
def fp (a : Addr) (H : Hp) (x : Addr) : Prop := x = a ∨ ∃ C dx gs, H a = some (.ins C dx gs) ∧ (x = dx ∨ gs.lookup ("parts" : Str) = some (.ref x))
open Classical in
/-- the heap without it -/
noncomputable def hid (a : Addr) (H : Hp) : Hp := fun x => if fp a H x then none else H x
open Classical in
/-- the frozen heap with it -/
noncomputable def frz (a : Addr) (F H : Hp) : Hp := fun x => if fp a H x then H x else F x
open Classical in
noncomputable def thw (a : Addr) (H F : Hp) : Hp := fun x => if fp a H x then none else F x
section
variable {K : PySem.W.Frag} {mg : Str → Option Value} {T : List (Addr × Str)} {F H F' H' F1 H1 : Hp} {σ : L2.St} {δ : Sto} {W : Wi} {a x C dx : Addr} {c : Str} {fs : List (Str × D)} {gs : List (Str × V)} {vf : Str → V}
theorem hid_fp (h : fp a H x) : hid a H x = none := by unfold hid; rw [if_pos h]
theorem hid_ne (h : ¬ fp a H x) : hid a H x = H x := by unfold hid; rw [if_neg h]
theorem hid_some {o : HO} (h : hid a H x = some o) : ¬ fp a H x ∧ H x = some o := by
  by_cases q : fp a H x
  · rw [hid_fp q] at h; cases h
  · rw [hid_ne q] at h; exact ⟨q, h⟩
theorem frz_fp (h : fp a H x) : frz a F H x = H x := by unfold frz; rw [if_pos h]
theorem frz_ne (h : ¬ fp a H x) : frz a F H x = F x := by unfold frz; rw [if_neg h]
theorem thw_fp (h : fp a H x) : thw a H F x = none := by unfold thw; rw [if_pos h]
theorem thw_ne (h : ¬ fp a H x) : thw a H F x = F x := by unfold thw; rw [if_neg h]
theorem thw_some {o : HO} (h : thw a H F x = some o) : ¬ fp a H x ∧ F x = some o := by
  by_cases q : fp a H x
  · rw [thw_fp q] at h; cases h
  · rw [thw_ne q] at h; exact ⟨q, h⟩
theorem fp_ins (e : H a = some (.ins C dx gs)) : fp a H x ↔ x = a ∨ x = dx ∨ gs.lookup ("parts" : Str) = some (.ref x) := by
  unfold fp
  constructor
  · rintro (h | ⟨C', dx', gs', e', h⟩)
    · exact .inl h
    · rw [e] at e'; cases e'; exact .inr h
  · rintro (h | h)
    · exact .inl h
    · exact .inr ⟨C, dx, gs, e, h⟩
def emp : Hp := fun _ => none
theorem rel_emp (F : Hp) : Rel emp F := fun _ _ e => by cases e
/-- a field: plain data, or the object's own list of such -/
def OV (K : PySem.W.Frag) (mg : Str → Option Value) (F H : Hp) (n : Str) (v : V) (d : D) : Prop := (n ≠ ("parts" : Str) ∧ Rp K mg emp v d) ∨ (n = ("parts" : Str) ∧ ∃ b vs ds, v = .ref b ∧ d = .lst ds ∧ F b = none ∧ H b = some (.lst vs) ∧ RpL K mg emp vs ds)
structure MC (K : PySem.W.Frag) (mg : Str → Option Value) (a : Addr) (c : Str) (fs : List (Str × D)) (F H : Hp) (C dx : Addr) (gs : List (Str × V)) (vf : Str → V) : Prop where
  m : mg c = some (.ref C)
  na : F a = none
  nd : F dx = none
  ea : H a = some (.ins C dx gs)
  ed : H dx = some (.own a)
  h0 : fs.lookup ("#" : Str) = none
  h1 : ∀ n d, fs.lookup n = some d → gs.lookup n = some (vf n) ∧ OV K mg F H n (vf n) d
  h3 : ∀ n v, gs.lookup n = some v → (fs.lookup n).isSome = true ∨ n = ("#" : Str)
  h5 : gs.length < 200
  h6 : c ≠ ("#" : Str)
def Mc (K : PySem.W.Frag) (mg : Str → Option Value) (a : Addr) (c : Str) (fs : List (Str × D)) (F H : Hp) : Prop := ∃ C dx gs vf, MC K mg a c fs F H C dx gs vf
theorem MC.parts (m : MC K mg a c fs F H C dx gs vf) (h : gs.lookup ("parts" : Str) = some (.ref x)) : F x = none ∧ ∃ vs, H x = some (.lst vs) := by
  rcases m.h3 _ _ h with q | q
  · obtain ⟨d, hd⟩ := Option.isSome_iff_exists.mp q
    obtain ⟨e1, e2⟩ := m.h1 _ _ hd
    rw [h] at e1
    rcases e2 with ⟨z, _⟩ | ⟨_, b, vs, ds, e3, _, e4, e5, _⟩
    · exact (z rfl).elim
    · rw [e3] at e1; cases e1
      exact ⟨e4, vs, e5⟩
  · exact absurd q (by decide)
theorem MC.off (m : MC K mg a c fs F H C dx gs vf) (h : fp a H x) : F x = none := by
  rcases (fp_ins m.ea).mp h with e | e | e
  · rw [e]; exact m.na
  · rw [e]; exact m.nd
  · exact (m.parts e).1
theorem MC.there (m : MC K mg a c fs F H C dx gs vf) (h : fp a H x) : ∃ o, H x = some o ∧ (∀ ps, o ≠ .tbl ps) ∧ (∀ φ, o ≠ .ext φ) ∧ ∀ us, o ≠ .tup us := by
  rcases (fp_ins m.ea).mp h with e | e | e
  · rw [e]; exact ⟨_, m.ea, fun _ z => by (cases z), fun _ z => by (cases z), fun _ z => by cases z⟩
  · rw [e]; exact ⟨_, m.ed, fun _ z => by (cases z), fun _ z => by (cases z), fun _ z => by cases z⟩
  · obtain ⟨_, vs, q⟩ := m.parts e
    exact ⟨_, q, fun _ z => by (cases z), fun _ z => by (cases z), fun _ z => by cases z⟩
theorem OV.keep {n : Str} {v : V} {d : D} (h : OV K mg F H n v d) (hk : ∀ b vs, v = .ref b → H b = some (.lst vs) → n = ("parts" : Str) → H' b = some (.lst vs) ∧ F' b = none) : OV K mg F' H' n v d := by
  rcases h with ⟨h1, h2⟩ | ⟨h1, b, vs, ds, e1, e2, e3, e4, e5⟩
  · exact .inl ⟨h1, h2⟩
  · obtain ⟨k1, k2⟩ := hk b vs e1 e4 h1
    exact .inr ⟨h1, b, vs, ds, e1, e2, k2, k1, e5⟩
theorem MC.keep (m : MC K mg a c fs F H C dx gs vf) (hk : ∀ x, fp a H x → H' x = H x ∧ F' x = none) : MC K mg a c fs F' H' C dx gs vf := by
  have ka := hk a (.inl rfl)
  have kd := hk dx ((fp_ins m.ea).mpr (.inr (.inl rfl)))
  refine ⟨m.m, ka.2, kd.2, by rw [ka.1]; exact m.ea, by rw [kd.1]; exact m.ed, m.h0, fun n d e => ?_, m.h3, m.h5, m.h6⟩
  obtain ⟨e1, e2⟩ := m.h1 n d e
  refine ⟨e1, e2.keep fun b vs ev eb hn => ?_⟩
  subst hn
  rw [ev] at e1
  have kb := hk b ((fp_ins m.ea).mpr (.inr (.inr e1)))
  exact ⟨by rw [kb.1]; exact eb, kb.2⟩
theorem MC.kept (m : MC K mg a c fs F H C dx gs vf) (st : Step T F H F' H') (h : fp a H x) : H' x = H x ∧ F' x = none := by
  obtain ⟨o, e, n, _⟩ := m.there h
  exact ⟨by rw [e]; exact st.fr x o (m.off h) e (.inr n), (st.off x o (m.off h) e (.inr (.inl n))).1⟩
theorem MC.step (m : MC K mg a c fs F H C dx gs vf) (st : Step T F H F' H') : MC K mg a c fs F' H' C dx gs vf := m.keep fun _ h => m.kept st h
theorem Gd.unhid (g : Gd T F (hid a H)) : Gd T F H := ⟨fun x o e => (hid_some (g.sub x o e)).2, g.tabs.ext fun b u e => (hid_some e).2, g.ntb⟩
theorem tabs_hid (t : LamX.Tabs T H) (m : MC K mg a c fs F H C dx gs vf) : LamX.Tabs T (hid a H) := fun x hx => by
  obtain ⟨ps, e1, e2, e3⟩ := t x hx
  refine ⟨ps, ?_, e2, fun pos cv hc => ?_⟩
  · rw [hid_ne (fun z => by
      obtain ⟨o, q1, q2, _⟩ := m.there z
      rw [e1] at q1; cases q1; exact q2 _ rfl)]
    exact e1
  · obtain ⟨d, h1, h2⟩ := e3 pos cv hc
    refine ⟨d, h1, ?_⟩
    rw [hid_ne (fun z => by
      obtain ⟨o, q1, _, q3, _⟩ := m.there z
      rw [h2] at q1; cases q1; exact q3 _ rfl)]
    exact h2
theorem Gd.hid (g : Gd T F H) (m : MC K mg a c fs F H C dx gs vf) : Gd T F (hid a H) := ⟨fun x o e => by
  rw [hid_ne (fun z => by rw [m.off z] at e; cases e)]; exact g.sub x o e, tabs_hid g.tabs m, g.ntb⟩
theorem SlotOk.unhid {ov : Option V} {s : Slot} (h : SlotOk K mg F (Dn.hid a H) ov s) : SlotOk K mg F H ov s := by
  cases s with
  | no => trivial
  | val d => exact h
  | own ds =>
    obtain ⟨p, vs, e, n, q, r⟩ := h
    exact ⟨p, vs, e, n, (hid_some q).2, r⟩
  | ins c fs =>
    obtain ⟨p, C, dx, gs, e, n, n', hm, q, q', r⟩ := h
    exact ⟨p, C, dx, gs, e, n, n', hm, (hid_some q).2, (hid_some q').2, r⟩
theorem Lcl.unhid (L : Lcl K mg T F (Dn.hid a H) σ δ) : Lcl K mg T F H σ δ := ⟨L.gd.unhid, L.len, fun i s e => by
  obtain ⟨ov, q, ok⟩ := L.slot i s e
  exact ⟨ov, q, ok.unhid⟩, L.apart⟩
/-- a step beside the object: it may turn, all else goes on as ever -/
structure StM (T : List (Addr × Str)) (a : Addr) (F H F' H' : Hp) : Prop where
  st : Step T F (Dn.hid a H) F' (Dn.hid a H')
  fp : ∀ x, Dn.fp a H' x → Fr0 T (Dn.hid a H) x
theorem StM.refl (g : Gd T F (Dn.hid a H)) : StM T a F H F H := ⟨.refl g, fun x h => .of (hid_fp h)⟩
theorem StM.trans {F2 H2 : Hp} (s1 : StM T a F H F' H') (g : Gd T F (Dn.hid a H)) (s2 : StM T a F' H' F2 H2) : StM T a F H F2 H2 := ⟨s1.st.trans s2.st, fun x h => s1.st.back g.sub (s2.fp x h)⟩
/-- the rest goes on, the object stays -/
theorem StM.of_step (m : MC K mg a c fs F H C dx gs vf) (st : Step T F H F' H') : StM T a F H F' H' := by
  have ea : H' a = H a := (m.kept st (.inl rfl)).1
  have same : ∀ x, Dn.fp a H' x ↔ Dn.fp a H x := fun x => by unfold Dn.fp; rw [ea]
  have m' := m.step st
  refine ⟨⟨st.r, st.gd.hid m', fun x o n e v => ?_, fun x o n e v => ?_⟩, fun x h => .of (hid_fp ((same x).mp h))⟩
  · obtain ⟨q, e⟩ := hid_some e
    rw [hid_ne (fun z => q ((same x).mp z))]
    exact st.fr x o n e v
  · obtain ⟨q, e⟩ := hid_some e
    obtain ⟨n1, o1, e1, v1⟩ := st.off x o n e v
    exact ⟨n1, o1, by rw [hid_ne (fun z => q ((same x).mp z))]; exact e1, v1⟩
/-! ### frozen for a while -/
theorem rel_frz (m : MC K mg a c fs F H C dx gs vf) : Rel F (frz a F H) := fun x o e => ⟨o, by rw [frz_ne (fun z => by rw [m.off z] at e; cases e)]; exact e, .refl o⟩
theorem Gd.frz (g : Gd T F H) (m : MC K mg a c fs F H C dx gs vf) : Gd T (frz a F H) H := ⟨fun x o e => by
  by_cases z : Dn.fp a H x
  · rw [frz_fp z] at e; exact e
  · rw [frz_ne z] at e; exact g.sub x o e, g.tabs, fun x ps e => by
  by_cases z : Dn.fp a H x
  · rw [frz_fp z] at e
    obtain ⟨o, q1, q2, _⟩ := m.there z
    rw [e] at q1; cases q1; exact q2 _ rfl
  · rw [frz_ne z] at e; exact g.ntb x ps e⟩
theorem rp_frz (m : MC K mg a c fs F H C dx gs vf) : Rp K mg (frz a F H) (.ref a) (.obj c fs) := by
  refine .obj vf m.m (by rw [frz_fp (.inl rfl)]; exact m.ea) m.h0 (fun n d e => (m.h1 n d e).1) (fun n d e => ?_) m.h3 (fun hc => (m.h6 hc).elim) m.h5
  obtain ⟨e1, e2⟩ := m.h1 n d e
  rcases e2 with ⟨_, r⟩ | ⟨hn, b, vs, ds, ev, ed, nb, eb, r⟩
  · exact r.mono (rel_emp _)
  · subst hn
    rw [ev] at e1
    rw [ev, ed]
    exact RpL.lst (by rw [frz_fp ((fp_ins m.ea).mpr (.inr (.inr e1)))]; exact eb) (r.mono (rel_emp _))
/-- data that cannot lie in the object -/
def fre (p : Bool) : Nat → D → Bool
  | 0, _ => false
  | _ + 1, .non => true
  | _ + 1, .bl _ => true
  | _ + 1, .int _ => true
  | _ + 1, .str _ => true
  | n + 1, .tup xs => xs.all (fre p n)
  | n + 1, .obj _ fs => p && ((fs.lookup ("parts" : Str)).isNone && fs.all fun q => fre p n q.2)
  | _ + 1, _ => false
theorem look_mem {α : Type} : ∀ {fs : List (Str × α)} {n : Str} {d : α}, fs.lookup n = some d → (n, d) ∈ fs
  | (g, d') :: fs, n, d, e => by
    by_cases h : n = g
    · subst h
      rw [List.lookup_cons_self] at e
      cases e
      exact List.mem_cons_self
    · rw [List.lookup_cons, beq_eq_false_iff_ne.mpr h] at e
      exact List.mem_cons_of_mem _ (look_mem e)
/-- what a walk over the frozen object leaves -/
structure Thaw (K : PySem.W.Frag) (mg : Str → Option Value) (T : List (Addr × Str)) (a : Addr) (c : Str) (fs : List (Str × D)) (F H F1 H1 : Hp) : Prop where
  m : Mc K mg a c fs (thw a H F1) H1
  st : StM T a F H (thw a H F1) H1
  rp : ∀ n v d, Rp K mg F1 v d → fre (fs.lookup ("parts" : Str)).isSome n d = true → Rp K mg (thw a H F1) v d
theorem thaw (m : MC K mg a c fs F H C dx gs vf) (g : Gd T F H) (st : Step T (frz a F H) H F1 H1) : Thaw K mg T a c fs F H F1 H1 := by
  have rel : Rel F (thw a H F1) := fun x o e => by
    have nz : ¬ Dn.fp a H x := fun z => by rw [m.off z] at e; cases e
    obtain ⟨o', e1, ch⟩ := st.r x o (by rw [frz_ne nz]; exact e)
    exact ⟨o', by rw [thw_ne nz]; exact e1, ch⟩
  have kd : H1 dx = some (.own a) ∧ F1 dx = some (.own a) := by
    have z : Dn.fp a H dx := (fp_ins m.ea).mpr (.inr (.inl rfl))
    have := st.r.other (show frz a F H dx = some (.own a) by rw [frz_fp z]; exact m.ed) (fun _ _ _ z => by cases z)
    exact ⟨st.sub _ _ this, this⟩
  obtain ⟨gs', ea1, hg, _, hlen⟩ := st.r.ins (show frz a F H a = some (.ins C dx gs) by rw [frz_fp (.inl rfl)]; exact m.ea)
  have ea : H1 a = some (.ins C dx gs') := st.sub _ _ ea1
  have hp : gs'.lookup ("parts" : Str) = gs.lookup ("parts" : Str) := hg _ (by decide)
  have kb : ∀ b, gs.lookup ("parts" : Str) = some (.ref b) → ∀ vs, H b = some (.lst vs) → F1 b = some (.lst vs) := fun b e vs eb =>
    st.r.lst (show frz a F H b = some (.lst vs) by rw [frz_fp ((fp_ins m.ea).mpr (.inr (.inr e)))]; exact eb)
  have same : ∀ x, Dn.fp a H1 x ↔ Dn.fp a H x := fun x => by rw [fp_ins ea, fp_ins m.ea, hp]
  have m1 : MC K mg a c fs (thw a H F1) H1 C dx gs' vf := by
    refine ⟨m.m, thw_fp (.inl rfl), thw_fp ((fp_ins m.ea).mpr (.inr (.inl rfl))), ea, kd.1, m.h0, fun n d e => ?_, fun n v e => ?_, by rw [hlen]; exact m.h5, m.h6⟩
    · obtain ⟨e1, e2⟩ := m.h1 n d e
      have hn : n ≠ ("#" : Str) := fun z => by rw [z, m.h0] at e; cases e
      refine ⟨by rw [hg n hn]; exact e1, e2.keep fun b vs ev eb hnp => ?_⟩
      subst hnp
      rw [ev] at e1
      exact ⟨st.sub _ _ (kb b e1 vs eb), thw_fp ((fp_ins m.ea).mpr (.inr (.inr e1)))⟩
    · by_cases hn : n = ("#" : Str)
      · exact .inr hn
      · rw [hg n hn] at e; exact m.h3 n v e
  refine ⟨⟨C, dx, gs', vf, m1⟩, ⟨⟨rel, ?_, fun x o n e v => ?_, fun x o n e v => ?_⟩, fun x h => .of (hid_fp ((same x).mp h))⟩, ?_⟩
  · refine Gd.hid ⟨fun x o e => st.sub x o (thw_some e).2, st.tabs, fun x ps e => st.gd.ntb x ps (thw_some e).2⟩ m1
  · obtain ⟨q, e⟩ := hid_some e
    rw [hid_ne (fun z => q ((same x).mp z))]
    exact st.fr x o (by rw [frz_ne q]; exact n) e v
  · obtain ⟨q, e⟩ := hid_some e
    obtain ⟨n1, o1, e1, v1⟩ := st.off x o (by rw [frz_ne q]; exact n) e v
    exact ⟨by rw [thw_ne q]; exact n1, o1, by rw [hid_ne (fun z => q ((same x).mp z))]; exact e1, v1⟩
  · intro n
    induction n with
    | zero => intro v d _ h; cases d <;> exact (Bool.false_ne_true h).elim
    | succ n ih =>
      intro v d r h
      cases r with
      | non => exact .non
      | bl b => exact .bl b
      | int i => exact .int i
      | str e => exact .str e
      | @tup p vs ds e hl he =>
        have nz : ¬ Dn.fp a H p := fun z => by
          obtain ⟨o, q1, _, _, q4⟩ := m1.there ((same p).mpr z)
          have := st.sub _ _ e
          rw [this] at q1; cases q1; exact q4 _ rfl
        have h' : ds.all (fre (fs.lookup ("parts" : Str)).isSome n) = true := h
        refine .tup (by rw [thw_ne nz]; exact e) hl fun i v d e1 e2 => ih v d (he i v d e1 e2) (List.all_eq_true.mp h' d (List.mem_of_getElem? e2))
      | @obj p C' dx' gs2 c' fs' vf' hm e h0 h1 h2 h3 h4 h5 =>
        have h' : ((fs.lookup ("parts" : Str)).isSome && ((fs'.lookup ("parts" : Str)).isNone && fs'.all fun q => fre (fs.lookup ("parts" : Str)).isSome n q.2)) = true := h
        simp only [Bool.and_eq_true] at h'
        obtain ⟨hs, hno, hall⟩ := h'
        have nz : ¬ Dn.fp a H p := fun z => by
          have eH := st.sub _ _ e
          rcases (fp_ins m.ea).mp z with y | y | y
          · rw [y, ea1] at e; cases e
            obtain ⟨d0, hd0⟩ := Option.isSome_iff_exists.mp hs
            have g1 := (m.h1 _ _ hd0).1
            rcases h3 _ _ (hp.trans g1) with w | w
            · rw [Option.isSome_iff_ne_none] at w
              exact w (Option.isNone_iff_eq_none.mp hno)
            · exact absurd w (by decide)
          · rw [y, kd.1] at eH; cases eH
          · obtain ⟨_, vs, q⟩ := m.parts y
            have := kb p y vs q
            rw [e] at this; cases this
        refine .obj vf' hm (by rw [thw_ne nz]; exact e) h0 h1 (fun n' d' e' => ih _ _ (h2 n' d' e') ?_) h3 h4 h5
        exact List.all_eq_true.mp hall (n', d') (look_mem e')
      | lst e hl he => exact (Bool.false_ne_true h).elim
      | opq b => exact (Bool.false_ne_true h).elim
      | dct e hk he => exact (Bool.false_ne_true h).elim
      | scr e => exact (Bool.false_ne_true h).elim
end
end Dn


set_option Elab.async false
set_option linter.all false
set_option maxRecDepth 100000
set_option maxHeartbeats 4000000
namespace Dn
open PySem PySem.Spec PyProof.Rows L2
/-! ### results, with the object as it then stands -/
inductive RM (α : Type) where
  | ok (x : α) (o : D) | rs (c : Str) (o : D) | stuck
def RM.bind {α β : Type} (i : Nat) (δ : Sto) : RM α → (α → Sto → RM β) → RM β
  | .ok x o, k => k x (δ.set i (.val o))
  | .rs c o, _ => .rs c o
  | .stuck, _ => .stuck
def Res.toM {α : Type} (o : D) : Res α → RM α
  | .ok x => .ok x o
  | .rs c => .rs c o
  | .stuck => .stuck
@[simp] theorem toM_ok {α : Type} (o : D) (x : α) : (Res.ok x).toM o = .ok x o := nrfl rfl
@[simp] theorem toM_rs {α : Type} (o : D) (c : Str) : (Res.rs c : Res α).toM o = .rs c o := nrfl rfl
@[simp] theorem bindM_ok {α β : Type} (i : Nat) (δ : Sto) (x : α) (o : D) (k : α → Sto → RM β) : (RM.ok x o).bind i δ k = k x (δ.set i (.val o)) := nrfl rfl
@[simp] theorem bindM_rs {α β : Type} (i : Nat) (δ : Sto) (c : Str) (o : D) (k : α → Sto → RM β) : (RM.rs c o : RM α).bind i δ k = .rs c o := nrfl rfl
def cur (i : Nat) (δ : Sto) : D := match δ[i]? with
  | some (.val o) => o
  | _ => .non
theorem cur_is {i : Nat} {δ : Sto} {o : D} (h : δ[i]? = some (.val o)) : cur i δ = o := by unfold cur; rw [h]
theorem set_cur {i : Nat} {δ : Sto} {o : D} (h : δ[i]? = some (.val o)) : δ.set i (.val (cur i δ)) = δ := by
  rw [cur_is h]
  refine List.ext_getElem? fun j => ?_
  by_cases e : j = i
  · subst e
    rw [List.getElem?_set_self (List.getElem?_eq_some_iff.mp h).1, h]
  · rw [List.getElem?_set_ne (Ne.symm e)]
/-- the locals, with the object's view in its slot -/
structure LM (K : PySem.W.Frag) (mg : Str → Option Value) (T : List (Addr × Str)) (i : Nat) (a : Addr) (c : Str) (F H : Hp) (σ : L2.St) (δ : Sto) : Prop where
  L : Lcl K mg T F (hid a H) σ (δ.set i (.val (.opq a)))
  o : ∃ fs, δ[i]? = some (.val (.obj c fs)) ∧ Mc K mg a c fs F H
/-- what is wanted behind an expression -/
def PostG {α β : Type} (K : PySem.W.Frag) (mg : Str → Option Value) (T : List (Addr × Str)) (rp : Hp → β → α → Prop) (i : Nat) (a : Addr) (c : Str) (F H : Hp) (σ : L2.St) (δ : Sto) (W : Wi) (Q : β → Hp → Prop) : RM α → Prop
  | .ok x o => ∀ v F' H', StM T a F H F' H' → LM K mg T i a c F' H' σ (δ.set i (.val o)) → rp F' v x → Q v H'
  | .rs y o => ∀ F' H', StM T a F H F' H' → LM K mg T i a c F' H' σ (δ.set i (.val o)) → W y H'
  | .stuck => False
def tG {α β : Type} (K : PySem.W.Frag) (mg : Str → Option Value) (T : List (Addr × Str)) (rp : Hp → β → α → Prop) (i : Nat) (c : Str) (W : Wi) (f : Addr → Sto → RM α) : L2.St → Hp → (β → Hp → Prop) → Prop :=
  fun σ H Q => ∃ F δ a, LM K mg T i a c F H σ δ ∧ PostG K mg T rp i a c F H σ δ W Q (f a δ)
abbrev rpT : Hp → Bool → Bool → Prop := fun _ b k => b = k
abbrev DEM (T : List (Addr × Str)) (X : Cx) (i : Nat) (c : Str) (W : Wi) (e : Expr) (f : Addr → Sto → RM D) : Prop := PE X e (tG X.K X.mg T (Rp X.K X.mg) i c W f)
abbrev DTM (T : List (Addr × Str)) (X : Cx) (i : Nat) (c : Str) (W : Wi) (e : Expr) (f : Addr → Sto → RM Bool) : Prop := PT X e (tG X.K X.mg T rpT i c W f)
abbrev DWM (T : List (Addr × Str)) (X : Cx) (i : Nat) (c : Str) (W : Wi) (e : Expr) (f : Addr → Sto → RM Bool) : Prop := PW X e (tG X.K X.mg T rpT i c W f)
abbrev DAM (T : List (Addr × Str)) (X : Cx) (i : Nat) (c : Str) (W : Wi) (es : List Expr) (f : Addr → Sto → RM (List D)) : Prop := PA X es (tG X.K X.mg T (RpL X.K X.mg) i c W f)
section
variable {K : PySem.W.Frag} {mg : Str → Option Value} {T : List (Addr × Str)} {i : Nat} {a : Addr} {c : Str} {F H F' H' : Hp} {σ : L2.St} {δ : Sto} {W : Wi} {fs : List (Str × D)}
theorem LM.gd (L : LM K mg T i a c F H σ δ) : Gd T F H := L.L.gd.unhid
theorem LM.lt (L : LM K mg T i a c F H σ δ) : i < δ.length := by
  obtain ⟨fs, e, _⟩ := L.o
  exact (List.getElem?_eq_some_iff.mp e).1
theorem LM.at (L : LM K mg T i a c F H σ δ) : σ[i]? = some (some (.ref a)) := by
  obtain ⟨ov, q, v, rfl, r⟩ := L.L.slot i (.val (.opq a)) (List.getElem?_set_self L.lt)
  cases r
  exact q
theorem LM.turn (L : LM K mg T i a c F H σ δ) (st : StM T a F H F' H') (m : Mc K mg a c fs F' H') : LM K mg T i a c F' H' σ (δ.set i (.val (.obj c fs))) :=
  ⟨by rw [List.set_set]; exact L.L.step st.st, fs, List.getElem?_set_self L.lt, m⟩
theorem LM.step (L : LM K mg T i a c F H σ δ) (st : Step T F H F' H') : StM T a F H F' H' ∧ LM K mg T i a c F' H' σ δ := by
  obtain ⟨fs, e, C, dx, gs, vf, m⟩ := L.o
  have s := StM.of_step m st
  exact ⟨s, L.L.step s.st, fs, e, C, dx, gs, vf, m.step st⟩
theorem LM.set_cur (L : LM K mg T i a c F H σ δ) : δ.set i (.val (cur i δ)) = δ := by
  obtain ⟨fs, e, _⟩ := L.o
  exact Dn.set_cur e
theorem PostG.shift {α β : Type} {rp : Hp → β → α → Prop} {Q : β → Hp → Prop} {r : RM α} {o : D} (h : PostG K mg T rp i a c F H σ δ W Q r) (g : Gd T F (hid a H)) (st : StM T a F H F' H') : PostG K mg T rp i a c F' H' σ (δ.set i (.val o)) W Q r := by
  cases r with
  | ok x o2 =>
    intro v F2 H2 s2 L2 r2
    rw [List.set_set] at L2
    exact h v F2 H2 (st.trans g s2) L2 r2
  | rs y o2 =>
    intro F2 H2 s2 L2
    rw [List.set_set] at L2
    exact h F2 H2 (st.trans g s2) L2
  | stuck => exact h
/-- an expression, then the rest -/
theorem bindG {α β α' β' : Type} {rp : Hp → β → α → Prop} {rp' : Hp → β' → α' → Prop} {f : Addr → Sto → RM α'} {k : α' → Sto → RM α} {Q : β → Hp → Prop} {Q' : β' → Hp → Prop} (L : LM K mg T i a c F H σ δ) (h : PostG K mg T rp i a c F H σ δ W Q ((f a δ).bind i δ k))
    (hk : ∀ x o v F' H', StM T a F H F' H' → LM K mg T i a c F' H' σ (δ.set i (.val o)) → rp' F' v x → PostG K mg T rp i a c F' H' σ (δ.set i (.val o)) W Q (k x (δ.set i (.val o))) → Q' v H') : tG K mg T rp' i c W f σ H Q' := by
  refine ⟨F, δ, a, L, ?_⟩
  cases e : f a δ with
  | ok x o =>
    rw [e] at h
    exact fun v F' H' st L' r => hk x o v F' H' st L' r (PostG.shift h L.L.gd st)
  | rs y o => rw [e] at h; exact h
  | stuck => rw [e] at h; exact h
theorem pureG {Q : VK} {r : Res D} (L : LM K mg T i a c F H σ δ) (h : PostG K mg T (Rp K mg) i a c F H σ δ W Q (r.toM (cur i δ))) : PostE K mg T F H W Q r := by
  cases r with
  | ok d =>
    intro v F' H' st rv
    obtain ⟨s, L'⟩ := L.step st
    exact h v F' H' s (by rw [L.set_cur]; exact L') rv
  | rs y =>
    intro F' H' st
    obtain ⟨s, L'⟩ := L.step st
    exact h F' H' s (by rw [L.set_cur]; exact L')
  | stuck => exact h
theorem pureT {Q : Bool → Hp → Prop} {r : Res Bool} (L : LM K mg T i a c F H σ δ) (h : PostG K mg T rpT i a c F H σ δ W Q (r.toM (cur i δ))) : PostT T F H W Q r := by
  cases r with
  | ok d =>
    intro F' H' st
    obtain ⟨s, L'⟩ := L.step st
    exact h d F' H' s (by rw [L.set_cur]; exact L') rfl
  | rs y =>
    intro F' H' st
    obtain ⟨s, L'⟩ := L.step st
    exact h F' H' s (by rw [L.set_cur]; exact L')
  | stuck => exact h
/-- the locals with the object frozen -/
theorem LM.frozen (L : LM K mg T i a c F H σ δ) : Lcl K mg T (frz a F H) H σ δ := by
  obtain ⟨fs, e, C, dx, gs, vf, m⟩ := L.o
  have rel := rel_frz m
  have len := L.L.len
  rw [List.length_set] at len
  have no : ∀ (j : Nat) s, δ[j]? = some s → s.owned = true → (δ.set i (.val (.opq a)))[j]? = some s := fun j s q o => by
    have hj : j ≠ i := fun z => by rw [z, e] at q; cases q; cases o
    rw [List.getElem?_set_ne (Ne.symm hj)]; exact q
  refine ⟨L.gd.frz m, len, fun j s q => ?_, fun j k s s' b hjk e1 e2 o1 o2 q1 q2 => L.L.apart j k s s' b hjk (no j s e1 o1) (no k s' e2 o2) o1 o2 q1 q2⟩
  by_cases hj : j = i
  · subst hj
    rw [e] at q; cases q
    exact ⟨_, L.at, .ref a, rfl, rp_frz m⟩
  · obtain ⟨ov, q1, ok⟩ := L.L.slot j s (by rw [List.getElem?_set_ne (Ne.symm hj)]; exact q)
    refine ⟨ov, q1, ?_⟩
    cases s with
    | no => trivial
    | val d =>
      obtain ⟨v, e1, r⟩ := ok
      exact ⟨v, e1, r.mono rel⟩
    | own ds =>
      obtain ⟨p, vs, e1, n, q2, r⟩ := ok
      obtain ⟨z, q2⟩ := hid_some q2
      exact ⟨p, vs, e1, by rw [frz_ne z]; exact n, q2, r.mono rel⟩
    | ins c2 fs2 =>
      obtain ⟨p, C2, dx2, gs2, e1, n, n', hm, q2, q3, r⟩ := ok
      obtain ⟨z, q2⟩ := hid_some q2
      obtain ⟨z', q3⟩ := hid_some q3
      exact ⟨p, C2, dx2, gs2, e1, by rw [frz_ne z]; exact n, by rw [frz_ne z']; exact n', hm, q2, q3, r.mono rel⟩
end
/-! ### readings -/
def hasP : D → Bool
  | .obj _ fs => (fs.lookup ("parts" : Str)).isSome
  | _ => false
/-- beside the object -/
def opE (i : Nat) (fe : Sto → Res D) : Addr → Sto → RM D := fun a δ => (fe (δ.set i (.val (.opq a)))).toM (cur i δ)
def opT (i : Nat) (ft : Sto → Res Bool) : Addr → Sto → RM Bool := fun a δ => (ft (δ.set i (.val (.opq a)))).toM (cur i δ)
/-- the object is read -/
def rdE (i : Nat) (fe : Sto → Res D) : Addr → Sto → RM D := fun _ δ => match fe δ with
  | .ok d => if fre (hasP (cur i δ)) 6 d = true then .ok d (cur i δ) else .stuck
  | .rs x => .rs x (cur i δ)
  | .stuck => .stuck
def rdT (i : Nat) (ft : Sto → Res Bool) : Addr → Sto → RM Bool := fun _ δ => (ft δ).toM (cur i δ)
def binM (i : Nat) (g : D → D → Res D) (fa fb : Addr → Sto → RM D) : Addr → Sto → RM D := fun a δ => (fa a δ).bind i δ fun x δ1 => (fb a δ1).bind i δ1 fun y δ2 => (g x y).toM (cur i δ2)
def tstM (i : Nat) (f : Addr → Sto → RM D) : Addr → Sto → RM Bool := fun a δ => (f a δ).bind i δ fun x δ1 => (asB x).toM (cur i δ1)
def andM (i : Nat) (f g : Addr → Sto → RM Bool) : Addr → Sto → RM Bool := fun a δ => (f a δ).bind i δ fun b δ1 => if b = true then g a δ1 else .ok false (cur i δ1)
def orM (i : Nat) (f g : Addr → Sto → RM Bool) : Addr → Sto → RM Bool := fun a δ => (f a δ).bind i δ fun b δ1 => if b = true then .ok true (cur i δ1) else g a δ1
def notM (i : Nat) (f : Addr → Sto → RM Bool) : Addr → Sto → RM Bool := fun a δ => (f a δ).bind i δ fun b δ1 => .ok (!b) (cur i δ1)
def nilM (i : Nat) : Addr → Sto → RM (List D) := fun _ δ => .ok [] (cur i δ)
def consM (i : Nat) (fa : Addr → Sto → RM D) (fr : Addr → Sto → RM (List D)) : Addr → Sto → RM (List D) := fun a δ => (fa a δ).bind i δ fun x δ1 => (fr a δ1).bind i δ1 fun xs δ2 => .ok (x :: xs) (cur i δ2)
def appM (i : Nat) (g : List D → Res D) (fa : Addr → Sto → RM (List D)) : Addr → Sto → RM D := fun a δ => (fa a δ).bind i δ fun xs δ1 => (g xs).toM (cur i δ1)
section
variable {T : List (Addr × Str)} {X : Cx} {i : Nat} {c : Str} {W : Wi} {e x y : Expr} {es : List Expr} {fe : Sto → Res D} {ft : Sto → Res Bool} {fa fb : Addr → Sto → RM D} {fr : Addr → Sto → RM (List D)} {f g' : Addr → Sto → RM Bool} {pos : Pos} {r : R2} {g : D → D → Res D} {rest : List Expr}
theorem dem_op (h : DE T X W e fe) : DEM T X i c W e (opE i fe) := weakE h fun σ H Q ⟨F, δ, a, L, q⟩ => ⟨F, δ.set i (.val (.opq a)), L.L.unhid, pureG L q⟩
theorem dtm_op (h : DT T X W e ft) : DTM T X i c W e (opT i ft) := weakT h fun σ H Q ⟨F, δ, a, L, q⟩ => ⟨F, δ.set i (.val (.opq a)), L.L.unhid, pureT L q⟩
theorem dem_rd (h : DE T X W e fe) : DEM T X i c W e (rdE i fe) := weakE h fun σ H Q ⟨F, δ, a, L, q⟩ => by
  refine ⟨frz a F H, δ, L.frozen, ?_⟩
  obtain ⟨fs, eo, C, dx, gs, vf, m⟩ := L.o
  unfold rdE at q
  have ec := cur_is eo
  have es := L.set_cur
  cases ee : fe δ with
  | ok d =>
    rw [ee] at q
    dsimp only at q
    by_cases hf : fre (hasP (cur i δ)) 6 d = true
    · rw [if_pos hf] at q
      intro v F1 H1 st rv
      have th := thaw m L.gd st
      rw [ec] at hf
      refine q v _ H1 th.st ?_ (th.rp 6 v d rv hf)
      have := L.turn th.st th.m
      rw [ec]
      exact this
    · rw [if_neg hf] at q; exact q.elim
  | rs y =>
    rw [ee] at q
    intro F1 H1 st
    have th := thaw m L.gd st
    refine q _ H1 th.st ?_
    have := L.turn th.st th.m
    rw [ec]
    exact this
  | stuck => rw [ee] at q; exact q
theorem dtm_rd (h : DT T X W e ft) : DTM T X i c W e (rdT i ft) := weakT h fun σ H Q ⟨F, δ, a, L, q⟩ => by
  refine ⟨frz a F H, δ, L.frozen, ?_⟩
  obtain ⟨fs, eo, C, dx, gs, vf, m⟩ := L.o
  unfold rdT at q
  have ec := cur_is eo
  cases ee : ft δ with
  | ok d =>
    rw [ee] at q
    intro F1 H1 st
    have th := thaw m L.gd st
    refine q d _ H1 th.st ?_ rfl
    have := L.turn th.st th.m
    rw [ec]
    exact this
  | rs y =>
    rw [ee] at q
    intro F1 H1 st
    have th := thaw m L.gd st
    refine q _ H1 th.st ?_
    have := L.turn th.st th.m
    rw [ec]
    exact this
  | stuck => rw [ee] at q; exact q
theorem dem_bin {op : Operator} (ho : OpR X (binaryOp op) r) (hr : R2D X.K X.mg T r g) (ha : DEM T X i c W x fa) (hb : DEM T X i c W y fb) : DEM T X i c W (.BinOp x op y pos) (binM i g fa fb) :=
  weakE (pe_op ho ha hb) fun σ H Q ⟨F, δ, a, L, h⟩ => bindG L h fun x o v F1 H1 s1 L1 r1 h1 => bindG L1 h1 fun y o2 u F2 H2 s2 L2 r2 h2 => hr F2 H2 v u x y W Q L2.gd (r1.mono s2.st.r) r2 (pureG L2 h2)
theorem dem_cmp {op : CmpOp} (ho : OpR X (compareOp op) r) (hr : R2D X.K X.mg T r g) (ha : DEM T X i c W x fa) (hb : DEM T X i c W y fb) (hm : behindInMarks op y = false) : DEM T X i c W (.Compare x [op] [y] pos) (binM i g fa fb) :=
  weakE (pe_cmpR ho ha hb hm) fun σ H Q ⟨F, δ, a, L, h⟩ => bindG L h fun x o v F1 H1 s1 L1 r1 h1 => bindG L1 h1 fun y o2 u F2 H2 s2 L2 r2 h2 => hr F2 H2 v u x y W Q L2.gd (r1.mono s2.st.r) r2 (pureG L2 h2)
theorem testG {K : PySem.W.Frag} {mg : Str → Option Value} {a : Addr} {F H : Hp} {σ : L2.St} {δ : Sto} {Q : Bool → Hp → Prop} {z : RM D} (L : LM K mg T i a c F H σ δ) (h : PostG K mg T rpT i a c F H σ δ W Q (z.bind i δ fun x δ1 => (asB x).toM (cur i δ1))) : PostG K mg T (Rp K mg) i a c F H σ δ W (fun v H' => ∃ k, v = .bl k ∧ Q k H') z := by
  cases z with
  | ok d o =>
    intro v F' H' st L' rv
    have ec : cur i (δ.set i (.val o)) = o := cur_is (List.getElem?_set_self L.lt)
    rw [bindM_ok, ec] at h
    cases d with
    | bl b =>
      cases rv
      exact ⟨b, rfl, h b F' H' st L' rfl⟩
    | _ => exact (show False from h).elim
  | rs y o => exact h
  | stuck => exact h
theorem dtm_val (ha : DEM T X i c W e fa) (he : ∀ whole, isTrue e X.env whole = (do let v ← whole; standAt e.pos; holding [v] (truthy v)) := by intro _; rfl) : DTM T X i c W e (tstM i fa) :=
  weakT (pt_val ha he) fun σ H Q ⟨F, δ, a, L, h⟩ => ⟨F, δ, a, L, testG L h⟩
theorem dtm_cmp {op : CmpOp} (ho : OpR X (compareOp op) r) (hr : R2D X.K X.mg T r g) (ha : DEM T X i c W x fa) (hb : DEM T X i c W y fb) (hm : behindInMarks op y = false) : DTM T X i c W (.Compare x [op] [y] pos) (tstM i (binM i g fa fb)) := by
  refine weakT (pt_cmpR ho ha hb hm) fun σ H Q ⟨F, δ, a, L, h⟩ => ?_
  have h' := testG L h
  exact bindG L h' fun x o v F1 H1 s1 L1 r1 h1 => bindG L1 h1 fun y o2 u F2 H2 s2 L2 r2 h2 => hr F2 H2 v u x y W _ L2.gd (r1.mono s2.st.r) r2 (pureG L2 h2)
theorem dwm_and1 (ha : DTM T X i c W x f) : DWM T X i c W (.BoolOp .And [x] pos) f := pw_and1 ha
theorem dwm_or1 (ha : DTM T X i c W x f) : DWM T X i c W (.BoolOp .Or [x] pos) f := pw_or1 ha
theorem hereT {K : PySem.W.Frag} {mg : Str → Option Value} {a : Addr} {F H : Hp} {σ : L2.St} {δ : Sto} {Q : Bool → Hp → Prop} {b : Bool} (L : LM K mg T i a c F H σ δ) (h : PostG K mg T rpT i a c F H σ δ W Q (.ok b (cur i δ))) : Q b H := h b F H (.refl L.L.gd) (by rw [L.set_cur]; exact L) rfl
theorem dwm_and (ha : DTM T X i c W x f) (hb : DWM T X i c W (.BoolOp .And (y :: rest) pos) g') : DWM T X i c W (.BoolOp .And (x :: y :: rest) pos) (andM i f g') :=
  weakW (pw_and ha hb) fun σ H Q ⟨F, δ, a, L, h⟩ => bindG L h fun k o b F1 H1 s1 L1 r1 h1 => by
    cases r1
    cases k with
    | true => rw [if_pos rfl] at h1 ⊢; exact ⟨F1, _, a, L1, h1⟩
    | false => rw [if_neg Bool.false_ne_true] at h1 ⊢; exact hereT L1 h1
theorem dwm_or (ha : DTM T X i c W x f) (hb : DWM T X i c W (.BoolOp .Or (y :: rest) pos) g') : DWM T X i c W (.BoolOp .Or (x :: y :: rest) pos) (orM i f g') :=
  weakW (pw_or ha hb) fun σ H Q ⟨F, δ, a, L, h⟩ => bindG L h fun k o b F1 H1 s1 L1 r1 h1 => by
    cases r1
    cases k with
    | true => rw [if_pos rfl] at h1 ⊢; exact hereT L1 h1
    | false => rw [if_neg Bool.false_ne_true] at h1 ⊢; exact ⟨F1, _, a, L1, h1⟩
theorem dwm_pt (h : DWM T X i c W x f) : DTM T X i c W x f := h.pt
theorem dtm_not (ha : DTM T X i c W x f) : DTM T X i c W (.UnaryOp .Not x pos) (notM i f) :=
  weakT (pt_not ha) fun σ H Q ⟨F, δ, a, L, h⟩ => bindG L h fun k o b F1 H1 s1 L1 r1 h1 => by
    cases r1
    exact hereT L1 h1
theorem dam_nil : DAM T X i c W [] (nilM i) := weakA pa_nil fun σ H Q ⟨F, δ, a, L, h⟩ => h [] F H (.refl L.L.gd) (by rw [L.set_cur]; exact L) .nil
theorem dam_cons (ha : DEM T X i c W e fa) (hr : DAM T X i c W es fr) (hs : starEach (e :: es) X.env = (false, eval e X.env) :: starEach es X.env := by rfl) : DAM T X i c W (e :: es) (consM i fa fr) :=
  weakA (pa_cons ha hr hs) fun σ H Q ⟨F, δ, a, L, h⟩ => bindG L h fun x o v F1 H1 s1 L1 r1 h1 => bindG L1 h1 fun xs o2 vs F2 H2 s2 L2 r2 h2 => h2 (v :: vs) F2 H2 (.refl L2.L.gd) (by rw [L2.set_cur]; exact L2) (.cons (r1.mono s2.st.r) r2)
end
end Dn


set_option Elab.async false
set_option linter.all false
set_option maxRecDepth 100000
set_option maxHeartbeats 4000000
namespace Dn
open PySem PySem.Spec PyProof.Rows L2
/-! ### statements beside an object that turns -/
inductive OM where
  | nx (δ : Sto) | rt (d : D) (o : D) | rs (c : Str) (o : D) | stuck
def RM.out {α : Type} (i : Nat) (δ : Sto) : RM α → (α → Sto → OM) → OM
  | .ok x o, k => k x (δ.set i (.val o))
  | .rs c o, _ => .rs c o
  | .stuck, _ => .stuck
@[simp] theorem outM_ok {α : Type} (i : Nat) (δ : Sto) (x : α) (o : D) (k : α → Sto → OM) : (RM.ok x o).out i δ k = k x (δ.set i (.val o)) := nrfl rfl
@[simp] theorem outM_rs {α : Type} (i : Nat) (δ : Sto) (c : Str) (o : D) (k : α → Sto → OM) : (RM.rs c o : RM α).out i δ k = .rs c o := nrfl rfl
structure SM (K : PySem.W.Frag) (mg : Str → Option Value) (T : List (Addr × Str)) (i : Nat) (a : Addr) (c : Str) (F0 : Hp) (H0 : Hp × Addr) (F H : Hp) (σ : L2.St) (δ : Sto) : Prop where
  S : StR K mg T F0 H0 F (hid a H) σ (δ.set i (.val (.opq a)))
  o : ∃ fs, δ[i]? = some (.val (.obj c fs)) ∧ Mc K mg a c fs F H
  f : ∀ x, fp a H x → Fr0 T H0.1 x
/-- the end of a statement at which the locals are let go -/
structure EnM (K : PySem.W.Frag) (mg : Str → Option Value) (T : List (Addr × Str)) (a : Addr) (c : Str) (F0 : Hp) (H0 : Hp × Addr) (F H : Hp) (o : D) : Prop where
  st : Step T F0 H0.1 F (hid a H)
  o : ∃ fs, o = .obj c fs ∧ Mc K mg a c fs F H
  f : ∀ x, fp a H x → Fr0 T H0.1 x
def PostSM (K : PySem.W.Frag) (mg : Str → Option Value) (T : List (Addr × Str)) (i : Nat) (a : Addr) (c : Str) (F0 : Hp) (H0 : Hp × Addr) (F : Hp) (W : Wi) (D' : Ends) : OM → Prop
  | .nx δ => ∀ σ F' H', Rel F F' → SM K mg T i a c F0 H0 F' H' σ δ → D'.nx σ H'
  | .rt d o => ∀ v F' H', EnM K mg T a c F0 H0 F' H' o → Rp K mg F' v d → D'.rt v H'
  | .rs x o => ∀ F' H', EnM K mg T a c F0 H0 F' H' o → W x H'
  | .stuck => False
def sM (K : PySem.W.Frag) (mg : Str → Option Value) (T : List (Addr × Str)) (i : Nat) (c : Str) (W : Wi) (f : Addr → Sto → OM) : TS := fun D' σ H => ∃ a F0 H0 F δ, SM K mg T i a c F0 H0 F H σ δ ∧ PostSM K mg T i a c F0 H0 F W D' (f a δ)
abbrev DSM (T : List (Addr × Str)) (X : Cx) (i : Nat) (c : Str) (W : Wi) (st : Stmt) (f : Addr → Sto → OM) : Prop := PS X st (sM X.K X.mg T i c W f)
abbrev DSMs (T : List (Addr × Str)) (X : Cx) (i : Nat) (c : Str) (W : Wi) (st : List Stmt) (f : Addr → Sto → OM) : Prop := PSs X st (sM X.K X.mg T i c W f)
section
variable {K : PySem.W.Frag} {mg : Str → Option Value} {T : List (Addr × Str)} {i : Nat} {a : Addr} {c : Str} {F0 : Hp} {H0 : Hp × Addr} {F H F' H' : Hp} {σ : L2.St} {δ : Sto} {W : Wi} {D' : Ends} {fs : List (Str × D)} {o : D}
theorem SM.lm (S : SM K mg T i a c F0 H0 F H σ δ) : LM K mg T i a c F H σ δ := ⟨S.S.loc, S.o⟩
theorem SM.step (S : SM K mg T i a c F0 H0 F H σ δ) (st : StM T a F H F' H') (L : LM K mg T i a c F' H' σ (δ.set i (.val o))) : SM K mg T i a c F0 H0 F' H' σ (δ.set i (.val o)) :=
  ⟨by rw [List.set_set]; exact S.S.step st.st, L.o, fun x h => S.S.st.back S.S.sub0 (st.fp x h)⟩
theorem SM.enM (S : SM K mg T i a c F0 H0 F H σ δ) : EnM K mg T a c F0 H0 F H (cur i δ) := by
  obtain ⟨fs, e, m⟩ := S.o
  exact ⟨S.S.st, ⟨fs, cur_is e, m⟩, S.f⟩
theorem SM.cur_set (S : SM K mg T i a c F0 H0 F H σ δ) : cur i (δ.set i (.val o)) = o := cur_is (List.getElem?_set_self S.lm.lt)
theorem PostSM.shift {r : OM} (h : PostSM K mg T i a c F0 H0 F W D' r) (rl : Rel F F') : PostSM K mg T i a c F0 H0 F' W D' r := by
  cases r with
  | nx δ => exact fun σ F2 H2 r2 => h σ F2 H2 (rl.trans r2)
  | rt d o => exact h
  | rs x o => exact h
  | stuck => exact h
/-- an expression, then the rest of the statement -/
theorem outG {α β : Type} {rp : Hp → β → α → Prop} {f : Addr → Sto → RM α} {k : α → Sto → OM} {Q : β → Hp → Prop} (S : SM K mg T i a c F0 H0 F H σ δ) (h : PostSM K mg T i a c F0 H0 F W D' ((f a δ).out i δ k))
    (hk : ∀ x o v F' H', Rel F F' → SM K mg T i a c F0 H0 F' H' σ (δ.set i (.val o)) → rp F' v x → PostSM K mg T i a c F0 H0 F' W D' (k x (δ.set i (.val o))) → Q v H') : tG K mg T rp i c W f σ H Q := by
  refine ⟨F, δ, a, S.lm, ?_⟩
  cases e : f a δ with
  | ok x o => rw [e] at h; exact fun v F' H' st L r => hk x o v F' H' st.st.r (S.step st L) r (PostSM.shift h st.st.r)
  | rs y o =>
    rw [e] at h
    intro F' H' st L
    have S' := S.step st L
    have := S'.enM
    rw [S.cur_set] at this
    exact h F' H' this
  | stuck => rw [e] at h; exact h
theorem SM.setVal (S : SM K mg T i a c F0 H0 F H σ δ) {j : Nat} (hj : j ≠ i) {v : V} {d : D} (r : Rp K mg F v d) : SM K mg T i a c F0 H0 F H (σ.set j (some v)) (δ.set j (.val d)) := by
  obtain ⟨fs, e, m⟩ := S.o
  refine ⟨?_, ⟨fs, by rw [List.getElem?_set_ne hj]; exact e, m⟩, S.f⟩
  rw [List.set_comm _ _ hj]
  exact S.S.setVal r
end
/-! ### readings -/
def seqM (f g : Addr → Sto → OM) : Addr → Sto → OM := fun a δ => match f a δ with
  | .nx δ' => g a δ'
  | o => o
def nopM : Addr → Sto → OM := fun _ δ => .nx δ
/-- a statement beside the object -/
def opS (i : Nat) (f : Sto → Out) : Addr → Sto → OM := fun a δ => match f (δ.set i (.val (.opq a))) with
  | .nx δ' => (match δ'[i]? with
    | some (.val (.opq b)) => if b = a then .nx (δ'.set i (.val (cur i δ))) else .stuck
    | _ => .stuck)
  | .rt d => .rt d (cur i δ)
  | .rs x => .rs x (cur i δ)
  | _ => .stuck
def asgM (i j : Nat) (f : Addr → Sto → RM D) : Addr → Sto → OM := fun a δ => (f a δ).out i δ fun d δ1 => if j ≠ i then .nx (δ1.set j (.val d)) else .stuck
def drpM (i : Nat) (f : Addr → Sto → RM D) : Addr → Sto → OM := fun a δ => (f a δ).out i δ fun _ δ1 => .nx δ1
def retM (i : Nat) (f : Addr → Sto → RM D) : Addr → Sto → OM := fun a δ => (f a δ).out i δ fun d δ1 => .rt d (cur i δ1)
def ifM (i : Nat) (t : Addr → Sto → RM Bool) (f g : Addr → Sto → OM) : Addr → Sto → OM := fun a δ => (t a δ).out i δ fun b δ1 => if b = true then f a δ1 else g a δ1
def forMS (j : Nat) (b : Addr → Sto → OM) (a : Addr) : List D → Sto → OM
  | [], δ => .nx δ
  | x :: xs, δ => match b a (δ.set j (.val x)) with
    | .nx δ' => forMS j b a xs δ'
    | o => o
def forM (i j : Nat) (fi : Sto → Res (List D)) (b : Addr → Sto → OM) : Addr → Sto → OM := fun a δ => if j ≠ i then (match fi (δ.set i (.val (.opq a))) with
  | .ok xs => forMS j b a xs δ
  | .rs x => .rs x (cur i δ)
  | .stuck => .stuck) else .stuck
def whM (i : Nat) (t : Addr → Sto → RM Bool) (b : Addr → Sto → OM) : Nat → Addr → Sto → OM
  | 0, _, _ => .stuck
  | n + 1, a, δ => (t a δ).out i δ fun k δ1 => if k = true then (match b a δ1 with
    | .nx δ' => whM i t b n a δ'
    | o => o) else .nx δ1
theorem seqM_to {f g : Addr → Sto → OM} {a : Addr} {δ δ' : Sto} (h : f a δ = .nx δ') : seqM f g a δ = g a δ' := by unfold seqM; rw [h]
theorem opS_nx {i : Nat} {f : Sto → Out} {a : Addr} {δ δ' : Sto} (h : f (δ.set i (.val (.opq a))) = .nx δ') (h' : δ'[i]? = some (.val (.opq a))) : opS i f a δ = .nx (δ'.set i (.val (cur i δ))) := by
  unfold opS
  rw [h]
  dsimp only
  rw [h']
  dsimp only
  rw [if_pos rfl]
section
variable {T : List (Addr × Str)} {X : Cx} {i : Nat} {c : Str} {W : Wi} {st : Stmt} {rest p q : List Stmt} {f g : Addr → Sto → OM} {e : Expr} {fe : Addr → Sto → RM D} {ft : Addr → Sto → RM Bool} {fs : Sto → Out} {pos pos' : Pos}
theorem dsms_nil : DSMs T X i c W [] nopM := weakSs pss_nil fun D' σ H ⟨a, F0, H0, F, δ, S, h⟩ => h σ F H (.refl F) S
theorem dsms_one (h : DSM T X i c W st f) : DSMs T X i c W [st] f := pss_one h
theorem dsms_cons (h1 : DSM T X i c W st f) (h2 : DSMs T X i c W rest g) : DSMs T X i c W (st :: rest) (seqM f g) :=
  weakSs (pss_cons h1 h2) fun D' σ H ⟨a, F0, H0, F, δ, S, h⟩ => ⟨a, F0, H0, F, δ, S, by
    unfold seqM at h
    cases e : f a δ with
    | nx δ' => rw [e] at h; exact fun σ' F' H' r S' => ⟨a, F0, H0, F', δ', S', h.shift r⟩
    | rt d o => rw [e] at h; exact h
    | rs x o => rw [e] at h; exact h
    | stuck => rw [e] at h; exact h⟩
theorem dsm_set {x : Str} (j : Nat) (hN : X.N.Nodup) (he : DEM T X i c W e fe) (hi : X.N[j]? = some x := by rfl) (hx : L2.Loc X.env.scope x := by first | exact Or.inl rfl | exact Or.inr rfl) (hs : swapsWith e (some (.Name x pos')) pos.line X.env = pure false := by rfl) (hf : X.fn x = true ∨ X.env.scope.names.lookup x = some .local := by first | exact .inl rfl | exact .inr rfl | assumption) :
    DSM T X i c W (.Assign [.Name x pos'] e pos) (asgM i j fe) :=
  weakS (ps_set hN hi hx he hs hf) fun D' σ H ⟨a, F0, H0, F, δ, S, h⟩ => outG S h fun d o v F1 H1 r1 S1 rv h1 => by
    by_cases hj : j ≠ i
    · rw [if_pos hj] at h1; exact h1 _ F1 H1 (.refl F1) (S1.setVal hj rv)
    · rw [if_neg hj] at h1; exact h1.elim
theorem dsm_expr (he : DEM T X i c W e fe) (hs : swapsWith e none pos.line X.env = pure false := by rfl) : DSM T X i c W (.Expr e pos) (drpM i fe) :=
  weakS (ps_expr he hs) fun D' σ H ⟨a, F0, H0, F, δ, S, h⟩ => outG S h fun d o v F1 H1 r1 S1 rv h1 => h1 σ F1 H1 (.refl F1) S1
theorem dsm_ret (he : DEM T X i c W e fe) : DSM T X i c W (.Return (some e) pos) (retM i fe) :=
  weakS (ps_ret he) fun D' σ H ⟨a, F0, H0, F, δ, S, h⟩ => outG S h fun d o v F1 H1 r1 S1 rv h1 => h1 v F1 H1 S1.enM rv
theorem dsm_if {x : Expr} (hc : DTM T X i c W x ft) (ha : DSMs T X i c W p f) (hb : DSMs T X i c W q g) : DSM T X i c W (.If x p q pos) (ifM i ft f g) :=
  weakS (ps_if hc ha hb) fun D' σ H ⟨a, F0, H0, F, δ, S, h⟩ => outG S h fun k o b F1 H1 r1 S1 rv h1 => by
    cases rv
    cases k with
    | true => rw [if_pos rfl] at h1 ⊢; exact ⟨a, F0, H0, F1, _, S1, h1⟩
    | false => rw [if_neg Bool.false_ne_true] at h1 ⊢; exact ⟨a, F0, H0, F1, _, S1, h1⟩
end
end Dn


set_option Elab.async false
set_option linter.all false
set_option maxRecDepth 100000
set_option maxHeartbeats 4000000
namespace Dn
open PySem PySem.Spec PyProof.Rows L2
/-! ### a statement beside the object -/
open Classical in
/-- the heap at the start, with the object as it stands now -/
noncomputable def ovr (a : Addr) (H H0 : Hp) : Hp := fun x => if fp a H x then H x else H0 x
section
variable {K : PySem.W.Frag} {mg : Str → Option Value} {T : List (Addr × Str)} {i : Nat} {a x : Addr} {c : Str} {F0 : Hp} {H0 : Hp × Addr} {F H F' H' : Hp} {σ σ' : L2.St} {δ δ' : Sto} {W : Wi} {D' : Ends} {fs : List (Str × D)} {C dx : Addr} {gs : List (Str × V)} {vf : Str → V}
theorem ovr_fp {H0 : Hp} (h : fp a H x) : ovr a H H0 x = H x := by unfold ovr; rw [if_pos h]
theorem ovr_ne {H0 : Hp} (h : ¬ fp a H x) : ovr a H H0 x = H0 x := by unfold ovr; rw [if_neg h]
theorem own_at {s : Slot} {p : Addr} (h : SlotOk K mg F (hid a H) (some (.ref p)) s) (o : s.owned = true) : ¬ fp a H p ∧ ∀ C dx gs, H p = some (.ins C dx gs) → ¬ fp a H dx := by
  cases s with
  | no => cases o
  | val d => cases o
  | own ds =>
    obtain ⟨b, vs, e1, n, q, r⟩ := h
    cases e1
    obtain ⟨z, q⟩ := hid_some q
    exact ⟨z, fun C dx gs y => by rw [q] at y; cases y⟩
  | ins c fs =>
    obtain ⟨b, C, dx, gs, e1, n, n', hm, q, q', r⟩ := h
    cases e1
    obtain ⟨z, q⟩ := hid_some q
    refine ⟨z, fun C2 dx2 gs2 y => ?_⟩
    rw [q] at y; cases y
    exact (hid_some q').1
theorem SM.off0 (S : SM K mg T i a c F0 H0 F H σ δ) (m : MC K mg a c fs F H C dx gs vf) (h : fp a H x) : F0 x = none := by
  cases q : F0 x with
  | none => rfl
  | some o =>
    obtain ⟨o', e, _⟩ := S.S.st.r x o q
    rw [m.off h] at e; cases e
theorem SM.over (S : SM K mg T i a c F0 H0 F H σ δ) : StR K mg T F0 (ovr a H H0.1, H0.2) F H σ (δ.set i (.val (.opq a))) := by
  obtain ⟨fs, eo, C, dx, gs, vf, m⟩ := S.o
  refine ⟨fun x o e => ?_, ⟨S.S.st.r, S.S.loc.gd.unhid, fun x o n e v => ?_, fun x o n e v => ?_⟩, S.S.loc.unhid, fun j s b e o q => ?_⟩
  · have nz : ¬ fp a H x := fun z => by rw [S.off0 m z] at e; cases e
    show ovr a H H0.1 x = some o
    rw [ovr_ne nz]; exact S.S.sub0 x o e
  · by_cases z : fp a H x
    · have e : ovr a H H0.1 x = some o := e
      rw [ovr_fp z] at e; exact e
    · have e : ovr a H H0.1 x = some o := e
      rw [ovr_ne z] at e
      exact (hid_some (S.S.st.fr x o n e v)).2
  · by_cases z : fp a H x
    · have e : ovr a H H0.1 x = some o := e
      rw [ovr_fp z] at e
      exact ⟨m.off z, o, e, v⟩
    · have e : ovr a H H0.1 x = some o := e
      rw [ovr_ne z] at e
      obtain ⟨n1, o1, e1, v1⟩ := S.S.st.off x o n e v
      exact ⟨n1, o1, (hid_some e1).2, v1⟩
  · obtain ⟨h1, h2⟩ := S.S.fresh j s b e o q
    obtain ⟨ov, q1, ok⟩ := S.S.loc.slot j s e
    rw [q] at q1; cases q1
    obtain ⟨nb, nd⟩ := own_at ok o
    refine ⟨fun u z => ?_, fun C2 dx2 gs2 z => ?_⟩
    · have z : ovr a H H0.1 b = some u := z
      rw [ovr_ne nb] at z; exact h1 u z
    · have hz : hid a H b = some (.ins C2 dx2 gs2) := by rw [hid_ne nb]; exact z
      obtain ⟨h3, h4⟩ := h2 C2 dx2 gs2 hz
      refine ⟨fun u y => ?_, h4⟩
      have y : ovr a H H0.1 dx2 = some u := y
      rw [ovr_ne (nd _ _ _ z)] at y; exact h3 u y
theorem SM.kept (S : SM K mg T i a c F0 H0 F H σ δ) (m : MC K mg a c fs F H C dx gs vf) (st : Step T F0 (ovr a H H0.1) F' H') (h : fp a H x) : H' x = H x ∧ F' x = none := by
  obtain ⟨o, e, n, _⟩ := m.there h
  have e0 : ovr a H H0.1 x = some o := by rw [ovr_fp h]; exact e
  exact ⟨by rw [e]; exact st.fr x o (S.off0 m h) e0 (.inr n), (st.off x o (S.off0 m h) e0 (.inr (.inl n))).1⟩
theorem SM.back_en (S : SM K mg T i a c F0 H0 F H σ δ) (m : MC K mg a c fs F H C dx gs vf) (st : Step T F0 (ovr a H H0.1) F' H') : EnM K mg T a c F0 H0 F' H' (.obj c fs) := by
  have ea : H' a = H a := (S.kept m st (.inl rfl)).1
  have same : ∀ x, fp a H' x ↔ fp a H x := fun x => by unfold fp; rw [ea]
  have m' : MC K mg a c fs F' H' C dx gs vf := m.keep fun x h => S.kept m st h
  refine ⟨⟨st.r, st.gd.hid m', fun x o n e v => ?_, fun x o n e v => ?_⟩, ⟨fs, rfl, C, dx, gs, vf, m'⟩, fun x h => S.f x ((same x).mp h)⟩
  · have nz : ¬ fp a H x := fun z => S.f x z o e (vis_of v)
    rw [hid_ne (fun z => nz ((same x).mp z))]
    exact st.fr x o n (by rw [ovr_ne nz]; exact e) v
  · have nz : ¬ fp a H x := fun z => S.f x z o e v
    obtain ⟨n1, o1, e1, v1⟩ := st.off x o n (by rw [ovr_ne nz]; exact e) v
    exact ⟨n1, o1, by rw [hid_ne (fun z => nz ((same x).mp z))]; exact e1, v1⟩
theorem SM.back (S : SM K mg T i a c F0 H0 F H σ δ) (S' : StR K mg T F0 (ovr a H H0.1, H0.2) F' H' σ' δ') (hi : δ'[i]? = some (.val (.opq a))) : SM K mg T i a c F0 H0 F' H' σ' (δ'.set i (.val (cur i δ))) := by
  obtain ⟨fs, eo, C, dx, gs, vf, m⟩ := S.o
  have E := S.back_en m S'.st
  have ea : H' a = H a := (S.kept m S'.st (.inl rfl)).1
  have same : ∀ x, fp a H' x ↔ fp a H x := fun x => by unfold fp; rw [ea]
  have hl : i < δ'.length := (List.getElem?_eq_some_iff.mp hi).1
  have es : (δ'.set i (.val (cur i δ))).set i (.val (.opq a)) = δ' := by
    rw [List.set_set]
    have := set_cur hi
    rw [cur_is hi] at this
    exact this
  have no : ∀ x, Fr0 T (ovr a H H0.1) x → ¬ fp a H x := fun x h z => by
    obtain ⟨o, e, n, _⟩ := m.there z
    exact h o (by rw [ovr_fp z]; exact e) (.inr (.inl n))
  refine ⟨?_, ⟨fs, by rw [cur_is eo]; exact List.getElem?_set_self hl, ?_⟩, E.f⟩
  · rw [es]
    refine ⟨S.S.sub0, E.st, ⟨E.st.gd, S'.loc.len, fun j s e => ?_, S'.loc.apart⟩, fun j s b e o q => ?_⟩
    · obtain ⟨ov, q, ok⟩ := S'.loc.slot j s e
      refine ⟨ov, q, ?_⟩
      cases s with
      | no => trivial
      | val d => exact ok
      | own ds =>
        obtain ⟨p, vs, rfl, n, q2, r⟩ := ok
        have nz := no p (S'.fresh j _ p e rfl q).1
        exact ⟨p, vs, rfl, n, by rw [hid_ne (fun z => nz ((same p).mp z))]; exact q2, r⟩
      | ins c2 fs2 =>
        obtain ⟨p, C2, dx2, gs2, rfl, n, n', hm, q2, q3, r⟩ := ok
        obtain ⟨f1, f2⟩ := S'.fresh j _ p e rfl q
        have nz := no p f1
        have nd := no dx2 (f2 _ _ _ q2).1
        exact ⟨p, C2, dx2, gs2, rfl, n, n', hm, by rw [hid_ne (fun z => nz ((same p).mp z))]; exact q2, by rw [hid_ne (fun z => nd ((same dx2).mp z))]; exact q3, r⟩
    · obtain ⟨f1, f2⟩ := S'.fresh j s b e o q
      have nz := no b f1
      refine ⟨fun u z => f1 u (by show ovr a H H0.1 b = some u; rw [ovr_ne nz]; exact z), fun C2 dx2 gs2 z => ?_⟩
      obtain ⟨_, z⟩ := hid_some z
      obtain ⟨f3, f4⟩ := f2 C2 dx2 gs2 z
      have nd := no dx2 f3
      exact ⟨fun u y => f3 u (by show ovr a H H0.1 dx2 = some u; rw [ovr_ne nd]; exact y), f4⟩
  · obtain ⟨fs', e', mm⟩ := E.o
    cases e'
    exact mm
theorem SM.cur_eq (S : SM K mg T i a c F0 H0 F H σ δ) (e : δ[i]? = some (.val (.obj c fs))) : cur i δ = .obj c fs := cur_is e
end
section
variable {T : List (Addr × Str)} {X : Cx} {i : Nat} {c : Str} {W : Wi} {st : Stmt} {rest bd : List Stmt} {f g : Addr → Sto → OM} {e tg iter : Expr} {fe : Addr → Sto → RM D} {ft : Addr → Sto → RM Bool} {fo : Sto → Out} {pos pos' : Pos}
theorem op_read {D' : Ends} {σ : L2.St} {H : Hp} (h : sM X.K X.mg T i c W (opS i fo) D' σ H) : sD X.K X.mg T W fo D' σ H := by
  obtain ⟨a, F0, H0, F, δ, S, h⟩ := h
  obtain ⟨fs, eo, C, dx, gs, vf, m⟩ := S.o
  refine ⟨F0, (ovr a H H0.1, H0.2), F, _, S.over, ?_⟩
  unfold opS at h
  cases e : fo (δ.set i (.val (.opq a))) with
  | nx δ' =>
    rw [e] at h
    dsimp only at h
    split at h
    · rename_i b hb
      by_cases hba : b = a
      · rw [if_pos hba] at h
        subst hba
        exact fun σ' F' H' r S' => h σ' F' H' r (S.back S' hb)
      · rw [if_neg hba] at h; exact h.elim
    · exact h.elim
  | rt d =>
    rw [e] at h
    intro v F' H' st rv
    have := S.back_en m st
    rw [← cur_is eo] at this
    exact h v F' H' this rv
  | rs y =>
    rw [e] at h
    intro F' H' st
    have := S.back_en m st
    rw [← cur_is eo] at this
    exact h F' H' this
  | bk δ' => rw [e] at h; exact (show False from h).elim
  | ct δ' => rw [e] at h; exact (show False from h).elim
  | stuck => rw [e] at h; exact h
theorem dsm_op (h : DS T X W st fo) : DSM T X i c W st (opS i fo) := weakS h fun D' σ H q => op_read q
theorem dsms_op (h : DSs T X W rest fo) : DSMs T X i c W rest (opS i fo) := weakSs h fun D' σ H q => op_read q
/-! ### while -/
theorem dsm_while (n : Nat) (hp : PassesOwn (model X.prog X.w) X.A X.env X.xe) (hc : DTM T X i c W e ft) (hb : DSMs T X i c W bd f) : DSM T X i c W (.While e bd [] pos) (whM i ft f n) :=
  weakS (ps_while hp hc hb) fun D' σ H ⟨a, F0, H0, F, δ, S, h⟩ => by
    refine ⟨fun m σ H => ∃ F δ, SM X.K X.mg T i a c F0 H0 F H σ δ ∧ PostSM X.K X.mg T i a c F0 H0 F W D' (whM i ft f m a δ), ⟨n, F, δ, S, h⟩, ?_⟩
    rintro m σ H ⟨F, δ, S, h⟩
    cases m with
    | zero => exact (show False from h).elim
    | succ m =>
      refine outG (D' := D') S (k := fun k δ1 => if k = true then (match f a δ1 with
        | .nx δ' => whM i ft f m a δ'
        | o => o) else .nx δ1) h fun k o b F1 H1 r1 S1 rv h1 => ?_
      cases rv
      cases k with
      | false =>
        rw [if_neg Bool.false_ne_true] at h1 ⊢
        exact h1 σ F1 H1 (.refl F1) S1
      | true =>
        rw [if_pos rfl] at h1 ⊢
        refine ⟨fun σ' H' => ∃ F' δ', SM X.K X.mg T i a c F0 H0 F' H' σ' δ' ∧ PostSM X.K X.mg T i a c F0 H0 F' W D' (whM i ft f m a δ'), fun σ' H' ⟨F', δ', S', h'⟩ => ⟨m, Nat.lt_succ_self m, F', δ', S', h'⟩, ?_⟩
        refine ⟨a, F0, H0, F1, _, S1, ?_⟩
        cases e : f a (δ.set i (.val o)) with
        | nx δ' => rw [e] at h1; exact fun σ' F' H' r S' => ⟨F', δ', S', h1.shift r⟩
        | rt d o => rw [e] at h1; exact h1
        | rs c o => rw [e] at h1; exact h1
        | stuck => rw [e] at h1; exact h1
/-! ### for -/
theorem for_read {fi : Sto → Res (List D)} {D' : Ends} {σ : L2.St} {H : Hp} {J : It} {a : Addr} {F0 : Hp} {H0 : Hp × Addr} {F1 : Hp} {δ : Sto} {ds : List D} {j : Nat} (hj : j ≠ i) (S : SM X.K X.mg T i a c F0 H0 F1 H σ δ) (wk : WalkD X.K X.mg T J F1 ds) (h : PostSM X.K X.mg T i a c F0 H0 F1 W D' (forMS j f a ds δ)) :
    ∃ Iv : Nat → Nat → L2.St → Hp → Prop, (∃ m, Iv 0 m σ H) ∧ ∀ k m σ H, Iv k m σ H → (J.stop k H ∧ D'.nx σ H) ∨ (J.go k H ∧ ∃ N : L2.St → Hp → Prop, (∀ σ' H', N σ' H' → ∃ m', m' < m ∧ Iv (k + 1) m' σ' H') ∧ ∀ x H', J.yld k H x H' → gName j x σ H' fun σ2 H2 => sM X.K X.mg T i c W f { nx := N, rt := D'.rt, bk := D'.nx, ct := N } σ2 H2) := by
  refine ⟨fun k m σ H => m = ds.length - k ∧ k ≤ ds.length ∧ ∃ F δ, Rel F1 F ∧ SM X.K X.mg T i a c F0 H0 F H σ δ ∧ PostSM X.K X.mg T i a c F0 H0 F W D' (forMS j f a (ds.drop k) δ), ⟨ds.length, by simp, Nat.zero_le _, F1, δ, .refl F1, S, h⟩, ?_⟩
  rintro k m σ H ⟨rfl, hk, F, δ, rel, S, h⟩
  by_cases hlt : k < ds.length
  · have ed : ds[k]? = some ds[k] := List.getElem?_eq_getElem hlt
    obtain ⟨go, yl⟩ := (wk k F H rel S.lm.gd).1 ds[k] ed
    rw [List.drop_eq_getElem_cons hlt] at h
    refine .inr ⟨go, fun σ' H' => ∃ F' δ', Rel F1 F' ∧ SM X.K X.mg T i a c F0 H0 F' H' σ' δ' ∧ PostSM X.K X.mg T i a c F0 H0 F' W D' (forMS j f a (ds.drop (k + 1)) δ'), fun σ' H' ⟨F', δ', r', S', h'⟩ => ⟨ds.length - (k + 1), by omega, rfl, hlt, F', δ', r', S', h'⟩, fun x H' y => ?_⟩
    obtain ⟨F2, st2, rx⟩ := yl x H' y
    obtain ⟨sm, L2'⟩ := S.lm.step st2
    have S2 : SM X.K X.mg T i a c F0 H0 F2 H' σ δ := by
      have := S.step (o := cur i δ) sm (by rw [S.lm.set_cur]; exact L2')
      rw [S.lm.set_cur] at this
      exact this
    have h2 := h.shift st2.r
    unfold forMS at h2
    refine ⟨a, F0, H0, F2, _, S2.setVal hj rx, ?_⟩
    have rel2 := rel.trans st2.r
    cases eb : f a (δ.set j (.val ds[k])) with
    | nx δ' => rw [eb] at h2; exact fun σ' F' H' r S' => ⟨F', δ', rel2.trans r, S', h2.shift r⟩
    | rt d o => rw [eb] at h2; exact h2
    | rs c o => rw [eb] at h2; exact h2
    | stuck => rw [eb] at h2; exact h2
  · have e : k = ds.length := by omega
    subst e
    rw [List.drop_length] at h
    exact .inl ⟨(wk _ F H rel S.lm.gd).2 (Nat.le_refl _), h σ F H (.refl F) S⟩
end
end Dn


set_option Elab.async false
set_option linter.all false
set_option maxRecDepth 100000
set_option maxHeartbeats 4000000
namespace Dn
open PySem PySem.Spec PyProof.Rows L2
/-! ### for, by what is walked -/
def forR (i j : Nat) (fa : Addr → Sto → RM (List D)) (b : Addr → Sto → OM) : Addr → Sto → OM := fun a δ => if j ≠ i then ((fa a δ).out i δ fun xs δ1 => match asRng2 xs with
  | .ok ds => forMS j b a ds δ1
  | _ => .stuck) else .stuck
section
variable {T : List (Addr × Str)} {X : Cx} {i : Nat} {c : Str} {W : Wi} {st : Stmt} {rest bd : List Stmt} {f g : Addr → Sto → OM} {e iter : Expr} {fe : Addr → Sto → RM D} {ft : Addr → Sto → RM Bool} {pos pos' : Pos} {x : Str} {px : Pos}
theorem SM.pstep {K : PySem.W.Frag} {mg : Str → Option Value} {a : Addr} {F0 : Hp} {H0 : Hp × Addr} {F H F' H' : Hp} {σ : L2.St} {δ : Sto} (S : SM K mg T i a c F0 H0 F H σ δ) (st : Step T F H F' H') : SM K mg T i a c F0 H0 F' H' σ δ := by
  obtain ⟨sm, L⟩ := S.lm.step st
  have := S.step (o := cur i δ) sm (by rw [S.lm.set_cur]; exact L)
  rw [S.lm.set_cur] at this
  exact this
theorem dsm_for {fi : Sto → Res (List D)} (j : Nat) (hp : PassesOwn (model X.prog X.w) X.A X.env X.xe) (hc : X.calm = true) (hi : DI T X W (.Name x px) iter fi) (hN : X.N.Nodup) (hb : DSMs T X i c W bd f) (hj : X.N[j]? = some x := by rfl) (hx : L2.Loc X.env.scope x := by first | exact Or.inl rfl | exact Or.inr rfl) (hf : X.fn x = true ∨ X.env.scope.names.lookup x = some .local := by first | exact .inl rfl | exact .inr rfl | assumption)
    (hs : ∀ x, foldedSetIterable iter X.env x = pure x := by intro _; rfl) : DSM T X i c W (.For (.Name x px) iter bd [] pos) (forM i j fi f) :=
  weakS (ps_for hp hc hi (pg_name hN hj hx hf) hb hs) fun D' σ H ⟨a, F0, H0, F, δ, S, h⟩ => by
    unfold forM at h
    by_cases hji : j ≠ i
    · rw [if_pos hji] at h
      refine ⟨F, δ.set i (.val (.opq a)), S.S.loc.unhid, ?_⟩
      cases e : fi (δ.set i (.val (.opq a))) with
      | ok ds =>
        rw [e] at h
        intro J F1 H1 st1 wk
        exact for_read (fi := fi) hji (S.pstep st1) wk (PostSM.shift h st1.r)
      | rs y =>
        rw [e] at h
        exact fun F' H' st => h F' H' (S.pstep st).enM
      | stuck => rw [e] at h; exact h
    · rw [if_neg hji] at h; exact h.elim
theorem dsm_forR {fa : Addr → Sto → RM (List D)} {p q : Expr} {p1 p2 : Pos} (j : Nat) (hp : PassesOwn (model X.prog X.w) X.A X.env X.xe) (hc : X.calm = true) (hm : X.mg "range" = none) (ha : DAM T X i c W [p, q] fa) (hN : X.N.Nodup) (hb : DSMs T X i c W bd f) (hg : Gl X "range" := by rfl) (hj : X.N[j]? = some x := by rfl) (hx : L2.Loc X.env.scope x := by first | exact Or.inl rfl | exact Or.inr rfl) (hf : X.fn x = true ∨ X.env.scope.names.lookup x = some .local := by first | exact .inl rfl | exact .inr rfl | assumption)
    (hs0 : starEach [p, q] X.env = [(false, eval p X.env), (false, eval q X.env)] := by rfl) (hs2 : starEach [q] X.env = [(false, eval q X.env)] := by rfl)
    (hs : ∀ x, foldedSetIterable (.Call (.Name "range" p1) [p, q] [] p2) X.env x = pure x := by intro _; rfl) : DSM T X i c W (.For (.Name x px) (.Call (.Name "range" p1) [p, q] [] p2) bd [] pos) (forR i j fa f) :=
  weakS (ps_for hp hc (pi_range2 hg hm ha hs0 hs2) (pg_name hN hj hx hf) hb hs) fun D' σ H ⟨a, F0, H0, F, δ, S, h⟩ => by
    unfold forR at h
    by_cases hji : j ≠ i
    · rw [if_pos hji] at h
      refine outG S h fun xs o vs F1 H1 r1 S1 rv h1 => ?_
      unfold asRng2 at h1
      split at h1
      · rename_i ds e
        split at e
        · rename_i u v
          split at e
          · rename_i hj2
            cases e
            unfold okI at hj2
            obtain ⟨w1, w2, rfl, q1, q2⟩ := rv.two
            cases q1; cases q2
            exact ⟨u, v, rfl, ⟨by omega, by omega, by omega, by omega⟩, for_read (fi := fun _ => .stuck) hji S1 walk_r h1⟩
          · cases e
        · cases e
      · exact h1.elim
    · rw [if_neg hji] at h; exact h.elim
end
/-! ### defs that turn their first argument -/
def runM (n m : Nat) (fb : Addr → Sto → OM) (a : Addr) (ds : List D) : RM D := if ds.length = n then (match fb a (ds.map Slot.val ++ List.replicate m .no) with
  | .nx δ => .ok .non (cur 0 δ)
  | .rt d o => .ok d o
  | .rs x o => .rs x o
  | .stuck => .stuck) else .stuck
def PostFM (K : PySem.W.Frag) (mg : Str → Option Value) (a : Addr) (c : Str) (F H : Hp) (Q : VK) (E : XK) : RM D → Prop
  | .ok d o => ∀ v F' H' fs, o = .obj c fs → StM [] a F H F' H' → Mc K mg a c fs F' H' → Rp K mg F' v d → Q v H'
  | .rs x o => ∀ F' H' fs, o = .obj c fs → StM [] a F H F' H' → Mc K mg a c fs F' H' → E (clsOf mg x) none H'
  | .stuck => False
def spM (K : PySem.W.Frag) (mg : Str → Option Value) (c : Str) (g : Addr → List D → RM D) : Sp := fun vs H Q E => ∃ F a fs us ds, vs = .ref a :: us ∧ Gd [] F (hid a H) ∧ Mc K mg a c fs F H ∧ RpL K mg F us ds ∧ PostFM K mg a c F H Q E (g a (.obj c fs :: ds))
section
variable {P : Program} {w : World} {K : PySem.W.Frag} {mg : Str → Option Value} {base : Heap}
theorem fnM {c x qual : Str} {st : Stmt} {f : Addr} {fd : FuncData} {N ps : List Str} {k : Nat} {fb : Addr → Sto → OM} (n m : Nat) (Fn : Fun K x qual st f fd) (S : FnScope N ps (defScope st)) (hps : ps.length = n) (hN : N.length = n + m)
    (hbody : ∀ (cdv : Value) (A : Around) (outer : List Env) (s : Shared) (H : Hp) (E : XK), Room k (A.deeper (envOfC qual (defScope st) s.heap.objs.size f cdv)) →
      DSMs [] (cxOf (L2N.CX P w) P w K mg base N qual (defScope st) f cdv A outer s H E) 0 c (fun c H => E (clsOf mg c) none H) (defBody st) fb) : FnOk P w K mg base (L2N.CX P w) (k + 1) f fd ps (spM K mg c (runM n m fb)) := by
  obtain ⟨oc, od, kV, doc, pm, an, cdv, ct, osl, rfl, lk, hcd⟩ := Fn.ex
  refine fn_of lk hcd S (fun vs H Q E h => ?_) (fun A outer s H vs Q E hr h => ⟨_, hbody cdv A outer s H E hr, ?_⟩)
  · obtain ⟨F, a, fs, us, ds, rfl, gd, mc, r, h⟩ := h
    unfold runM at h
    by_cases hl : (D.obj c fs :: ds).length = n
    · rw [hps, ← hl, List.length_cons, List.length_cons, r.length]
    · rw [if_neg hl] at h; exact h.elim
  · obtain ⟨F, a, fs, us, ds, rfl, gd, mc, r, h⟩ := h
    unfold runM at h
    by_cases hl : (D.obj c fs :: ds).length = n
    · rw [if_pos hl] at h
      have SS := start_slots (N := N) (vs := .ref a :: us) (ds := .opq a :: ds) (.cons (.opq a) r) gd (n := n) (m := m) hl hN
      refine ⟨a, F, (hid a H, 0), F, Slot.val (D.obj c fs) :: (ds.map Slot.val ++ List.replicate m Slot.no), ⟨(SS : StR K mg [] F (hid a H, 0) F (hid a H) (L2.start N (V.ref a :: us)) (Slot.val (D.opq a) :: (ds.map Slot.val ++ List.replicate m Slot.no))), ⟨fs, rfl, mc⟩, fun x h => .of (hid_fp h)⟩, ?_⟩
      change PostFM K mg a c F H Q E (match fb a (Slot.val (D.obj c fs) :: (ds.map Slot.val ++ List.replicate m Slot.no)) with | .nx δ => .ok .non (cur 0 δ) | .rt d o => .ok d o | .rs x o => .rs x o | .stuck => .stuck) at h
      cases e : fb a (Slot.val (D.obj c fs) :: (ds.map Slot.val ++ List.replicate m Slot.no)) with
      | nx δ =>
        rw [e] at h
        intro σ F' H' _ S'
        obtain ⟨fs', e1, m1⟩ := S'.o
        exact h .non F' H' fs' (cur_is e1) ⟨S'.S.st, S'.f⟩ m1 .non
      | rt d o =>
        rw [e] at h
        intro v F' H' E' rv
        obtain ⟨fs', e1, m1⟩ := E'.o
        exact h v F' H' fs' e1 ⟨E'.st, E'.f⟩ m1 rv
      | rs y o =>
        rw [e] at h
        intro F' H' E'
        obtain ⟨fs', e1, m1⟩ := E'.o
        exact h F' H' fs' e1 ⟨E'.st, E'.f⟩ m1
      | stuck => rw [e] at h; exact h
    · rw [if_neg hl] at h; exact h.elim
end
def MtM (P : Program) (w : World) (K : PySem.W.Frag) (mg : Str → Option Value) (base : Heap) (k : Nat) (c m : Str) (ps : List Str) (g : Addr → List D → RM D) : Prop :=
  ∃ C f fd, mg c = some (.ref C) ∧ Cls K C ∧ Meth K C m f ∧ FnOk P w K mg base (L2N.CX P w) k f fd ps (spM K mg c g) ∧ L2.Binds K fd ps []
def FnM (P : Program) (w : World) (K : PySem.W.Frag) (mg : Str → Option Value) (base : Heap) (k : Nat) (c x : Str) (ps : List Str) (g : Addr → List D → RM D) : Prop :=
  ∃ f fd, FnOk P w K mg base (L2N.CX P w) k f fd ps (spM K mg c g) ∧ PySem.W.keepIn K (.ref f) = true ∧ L2.Binds K fd ps [] ∧ mg x = some (.ref f)
section
variable {P : Program} {w : World} {K : PySem.W.Frag} {mg : Str → Option Value} {base : Heap}
theorem mtM {c m qual : Str} {st : Stmt} {N ps : List Str} {k : Nat} {fb : Addr → Sto → OM} (n r : Nat) (Fn : MtT K mg c m qual st ps) (S : FnScope N ps (defScope st)) (hps : ps.length = n) (hN : N.length = n + r)
    (hbody : ∀ (f : Addr) (cdv : Value) (A : Around) (outer : List Env) (s : Shared) (H : Hp) (E : XK), Room k (A.deeper (envOfC qual (defScope st) s.heap.objs.size f cdv)) →
      DSMs [] (cxOf (L2N.CX P w) P w K mg base N qual (defScope st) f cdv A outer s H E) 0 c (fun c H => E (clsOf mg c) none H) (defBody st) fb) : MtM P w K mg base (k + 1) c m ps (runM n r fb) := by
  obtain ⟨C, f, fd, hm, cl, me, F, b⟩ := Fn
  exact ⟨C, f, fd, hm, cl, me, fnM n r F S hps hN (hbody f), b⟩
theorem fnMP {c x : Str} {st : Stmt} {N ps : List Str} {k : Nat} {fb : Addr → Sto → OM} (n m : Nat) (Fn : FnT K mg x st ps) (S : FnScope N ps (defScope st)) (hps : ps.length = n) (hN : N.length = n + m)
    (hbody : ∀ (f : Addr) (cdv : Value) (A : Around) (outer : List Env) (s : Shared) (H : Hp) (E : XK), Room k (A.deeper (envOfC x (defScope st) s.heap.objs.size f cdv)) →
      DSMs [] (cxOf (L2N.CX P w) P w K mg base N x (defScope st) f cdv A outer s H E) 0 c (fun c H => E (clsOf mg c) none H) (defBody st) fb) : FnM P w K mg base (k + 1) c x ps (runM n m fb) := by
  obtain ⟨f, fd, F, b, g⟩ := Fn
  exact ⟨f, fd, fnM n m F S hps hN (hbody f), F.kp, b, g⟩
end
/-! ### their calls -/
def mthM (i : Nat) (m : Str) (g : Addr → List D → RM D) (fa : Addr → Sto → RM (List D)) : Addr → Sto → RM D := fun a δ => match cur i δ with
  | .obj _ fs => if fs.lookup m = none ∧ m ≠ ("#" : Str) then (fa a δ).bind i δ fun xs δ1 => g a (cur i δ1 :: xs) else .stuck
  | _ => .stuck
def fncM (i : Nat) (g : Addr → List D → RM D) (fa : Addr → Sto → RM (List D)) : Addr → Sto → RM D := fun a δ => (fa a δ).bind i δ fun xs δ1 => g a (cur i δ1 :: xs)
theorem Fr0.none {H : Hp} {p : Addr} (h : Fr0 [] H p) : H p = none := by
  cases e : H p with
  | none => rfl
  | some o => exact (h o e (.inl rfl)).elim
theorem StM.lift {T : List (Addr × Str)} {a : Addr} {F H F' H' : Hp} (s : StM [] a F H F' H') (g : Gd T F (hid a H)) : StM T a F H F' H' := ⟨s.st.lift g, fun x h => .of (s.fp x h).none⟩
section
variable {T : List (Addr × Str)} {X : Cx} {i : Nat} {c m x y : Str} {W : Wi} {e : Expr} {es : List Expr} {fa : Addr → Sto → RM (List D)} {k : Nat} {ps : List Str} {g : Addr → List D → RM D} {p apos pos : Pos} {pl : Sem Bool}
theorem call_read {a : Addr} {F H : Hp} {σ : L2.St} {δ : Sto} {Q : VK} {vs : List V} {xs : List D} (L : LM X.K X.mg T i a c F H σ δ) (r : RpL X.K X.mg F vs xs) (h : PostG X.K X.mg T (Rp X.K X.mg) i a c F H σ δ W Q (g a (cur i δ :: xs))) : spM X.K X.mg c g (.ref a :: vs) H Q (WE (wx X.mg W) σ) := by
  obtain ⟨fs, eo, mc⟩ := L.o
  refine ⟨F, a, fs, vs, xs, rfl, L.L.gd.bare, mc, r, ?_⟩
  rw [cur_is eo] at h
  cases e : g a (.obj c fs :: xs) with
  | ok d o =>
    rw [e] at h
    intro v F' H' fs' eo' st m rv
    subst eo'
    exact h v F' H' (st.lift L.L.gd) (L.turn (st.lift L.L.gd) m) rv
  | rs y o =>
    rw [e] at h
    intro F' H' fs' eo' st m
    subst eo'
    exact ⟨rfl, y, rfl, h F' H' (st.lift L.L.gd) (L.turn (st.lift L.L.gd) m)⟩
  | stuck => rw [e] at h; exact h
theorem mth_readM {C : Addr} {σ : L2.St} {H : Hp} {Q : VK} {ta : TA} (hm : X.mg c = some (.ref C)) (hta : ∀ σ H Q', tG X.K X.mg T (RpL X.K X.mg) i c W fa σ H Q' → ta σ H Q') (h : tG X.K X.mg T (Rp X.K X.mg) i c W (mthM i m g fa) σ H Q) : tMethN C m (spM X.K X.mg c g) (fun σ => WE (wx X.mg W) σ) (tVar i) ta σ H Q := by
  obtain ⟨F, δ, a, L, h⟩ := h
  obtain ⟨fs, eo, C', dx, gs, vf, mc⟩ := L.o
  have hm' := mc.m
  rw [hm] at hm'; cases hm'
  unfold mthM at h
  rw [cur_is eo] at h
  dsimp only at h
  by_cases hc : fs.lookup m = none ∧ m ≠ ("#" : Str)
  · rw [if_pos hc] at h
    have ln : gs.lookup m = none := by
      cases z : gs.lookup m with
      | none => rfl
      | some v => exact (mc.h3 m v z).elim (fun q => by rw [hc.1] at q; cases q) (fun q => (hc.2 q).elim)
    exact ⟨.ref a, L.at, a, dx, gs, rfl, mc.ea, ln, hta _ _ _ (bindG L h fun xs o vs F1 H1 s1 L1 r1 h1 => call_read L1 r1 h1)⟩
  · rw [if_neg hc] at h; exact h.elim
theorem dem_mth (G : MtM X.prog X.w X.K X.mg X.base k c m ps g) (hr : Room k X.A) (tk : L2N.Takes X (wx X.mg W)) (ha : DAM T X i c W (e :: es) fa) (hN : X.N[i]? = some x := by rfl) (hv : Vis X.env.scope x := by first | exact Or.inl rfl | exact Or.inr (Or.inl rfl) | exact Or.inr (Or.inr rfl)) (hd : (x == ("__debug__" : Str)) = false := by decide) (hcd : (x == ("__classdict__" : Str)) = false := by decide)
    (hst : starEach (e :: es) X.env = (false, eval e X.env) :: starEach es X.env := by rfl) (hpl : (backTo pos (starEach es X.env)).any (·.1) = false := by rfl)
    (ht : eval (.Call (.Attribute (.Name x p) m apos) (e :: es) [] pos) X.env = (do let ov ← eval (.Name x p) X.env; standAt apos.atName; let (f, first) ← holding [ov] (getMethod ov m pl); callWith pos f first (backTo pos (starEach (e :: es) X.env)) (backToKw pos (keywordEach [] X.env))) := by rfl) :
    DEM T X i c W (.Call (.Attribute (.Name x p) m apos) (e :: es) [] pos) (mthM i m g fa) := by
  obtain ⟨C, f, fd, hm, cl, me, F, b⟩ := G
  exact weakE (pe_mthN (pe_var (i := i) hN hv hd hcd) cl me F hr b (fun σ => L2N.passAt tk σ) ha hst hpl ht) fun σ H Q h => mth_readM hm (fun _ _ _ z => z) h
theorem dem_fn (G : FnM X.prog X.w X.K X.mg X.base k c y ps g) (hr : Room k X.A) (tk : L2N.Takes X (wx X.mg W)) (ha : DAM T X i c W es fa) (hN : X.N[i]? = some x := by rfl) (hv : Vis X.env.scope x := by first | exact Or.inl rfl | exact Or.inr (Or.inl rfl) | exact Or.inr (Or.inr rfl)) (hd : (x == ("__debug__" : Str)) = false := by decide) (hcd : (x == ("__classdict__" : Str)) = false := by decide)
    (hg : Gl X y := by rfl) (hdb : (y == ("__debug__" : Str)) = false := by decide) (he : starEach (.Name x p :: es) X.env = (false, eval (.Name x p) X.env) :: starEach es X.env := by rfl) (hpl : (backTo pos (starEach es X.env)).any (·.1) = false := by rfl) :
    DEM T X i c W (.Call (.Name y apos) (.Name x p :: es) [] pos) (fncM i g fa) := by
  obtain ⟨f, fd, F, kp, b, hm⟩ := G
  exact weakE (pe_callS F hr hg hm kp b (fun σ => L2N.passAt tk σ) (pa_cons (pe_var (i := i) hN hv hd hcd) ha he) hdb he hpl) fun σ H Q ⟨F, δ, a, L, h⟩ => ⟨.ref a, L.at, bindG L h fun xs o vs F1 H1 s1 L1 r1 h1 => call_read L1 r1 h1⟩
end
end Dn


set_option Elab.async false
set_option linter.all false
set_option maxRecDepth 100000
set_option maxHeartbeats 4000000
namespace Dn
open PySem PySem.Spec PyProof.Rows L2
/-! ### an object is made, and lives on in a slot -/
def wipeL : List Nat → Sto → Sto
  | [], δ => δ
  | j :: vs, δ => wipeL vs (δ.set j .no)
def forget (vs : List Nat) : OM → Out
  | .nx δ => .nx (wipeL vs δ)
  | .rt d _ => .rt d
  | .rs x _ => .rs x
  | .stuck => .stuck
open Classical in
/-- what is told wherever the object lies -/
noncomputable def agree (vs : List Nat) (g : Addr → OM) : Out := if h : ∃ o, ∀ a, forget vs (g a) = o then Classical.choose h else .stuck
theorem agree_is {vs : List Nat} {g : Addr → OM} {o : Out} (h : ∀ a, forget vs (g a) = o) : agree vs g = o := by
  have hx : ∃ o, ∀ a, forget vs (g a) = o := ⟨o, h⟩
  unfold agree
  rw [dif_pos hx]
  exact ((Classical.choose_spec hx) 0).symm.trans (h 0)
theorem agree_at {vs : List Nat} {g : Addr → OM} (h : agree vs g ≠ .stuck) (a : Addr) : forget vs (g a) = agree vs g := by
  unfold agree at h ⊢
  by_cases hx : ∃ o, ∀ a, forget vs (g a) = o
  · rw [dif_pos hx]; exact Classical.choose_spec hx a
  · rw [dif_neg hx] at h; exact (h rfl).elim
noncomputable def newM (i : Nat) (vs : List Nat) (gi : List D → Res D) (fa : Sto → Res (List D)) (fr : Addr → Sto → OM) : Sto → Out := fun δ => (fa δ).out fun ds => (gi ds).out fun v => if i < δ.length then agree (i :: vs) fun a => fr a (δ.set i (.val v)) else .stuck
/-- a maker's promise: the object stands unfrozen -/
def spN (K : PySem.W.Frag) (mg : Str → Option Value) (c : Str) (g : List D → Res D) : Sp := fun vs H Q E => ∃ F ds x C dx H1 us, vs = .ref x :: us ∧ H = upd (upd H1 dx (.own x)) x (.ins C dx []) ∧ H1 x = none ∧ H1 dx = none ∧ dx ≠ x ∧ mg c = some (.ref C) ∧ Gd [] F H1 ∧ RpL K mg F us ds ∧
  (match g ds with
  | .ok d => ∀ F' H' fs, d = .obj c fs → Step [] F H1 F' (hid x H') → Mc K mg x c fs F' H' → (∀ y, fp x H' y → H1 y = none) → Q .non H'
  | .rs e => ∀ F' H', Step [] F H1 F' H' → E (clsOf mg e) none H'
  | .stuck => False)
def MkN (P : Program) (w : World) (K : PySem.W.Frag) (mg : Str → Option Value) (base : Heap) (k : Nat) (c : Str) (ps : List Str) (g : List D → Res D) : Prop :=
  ∃ C f fd, mg c = some (.ref C) ∧ Mk K C f ∧ FnOk P w K mg base (L2N.CX P w) k f fd ps (spN K mg c g) ∧ L2.Binds K fd ps []
section
variable {K : PySem.W.Frag} {mg : Str → Option Value} {T : List (Addr × Str)} {F0 : Hp} {H0 : Hp × Addr} {F H F' H' : Hp} {σ : L2.St} {δ : Sto} {W : Wi} {D' : Ends} {i : Nat} {a : Addr} {c : Str}
theorem outAS {f : Sto → Res (List D)} {k : List D → Out} {Q : List V → Hp → Prop} (S : StR K mg T F0 H0 F H σ δ) (h : PostS K mg T F0 H0 F W D' ((f δ).out k))
    (hk : ∀ ds vs F' H', Rel F F' → StR K mg T F0 H0 F' H' σ δ → RpL K mg F' vs ds → PostS K mg T F0 H0 F' W D' (k ds) → Q vs H') : tDA K mg T W f σ H Q := by
  refine ⟨F, δ, S.loc, ?_⟩
  cases e : f δ with
  | ok d => rw [e] at h; exact fun v F' H' st r => hk d v F' H' st.r (S.step st) r (h.shift st.r)
  | rs c => rw [e] at h; exact fun F' H' st => h F' H' (S.st.trans st)
  | stuck => rw [e] at h; exact h
theorem Step.unhid (s : Step T F H F' (Dn.hid a H')) : Step T F H F' H' := ⟨s.r, s.gd.unhid, fun x o n e v => (hid_some (s.fr x o n e v)).2, fun x o n e v => by
  obtain ⟨n1, o1, e1, v1⟩ := s.off x o n e v
  exact ⟨n1, o1, (hid_some e1).2, v1⟩⟩
theorem StR.unhid (S : StR K mg T F0 H0 F (Dn.hid a H) σ δ) : StR K mg T F0 H0 F H σ δ := ⟨S.sub0, S.st.unhid, S.loc.unhid, fun j s b e o q => by
  obtain ⟨h1, h2⟩ := S.fresh j s b e o q
  obtain ⟨ov, q1, ok⟩ := S.loc.slot j s e
  rw [q] at q1; cases q1
  obtain ⟨nb, nd⟩ := own_at ok o
  exact ⟨h1, fun C dx gs z => h2 C dx gs (by rw [hid_ne nb]; exact z)⟩⟩
theorem StR.wipe1 (S : StR K mg T F0 H0 F H σ δ) (i : Nat) : StR K mg T F0 H0 F H σ (δ.set i .no) := by
  have old : ∀ {j : Nat} {s : Slot}, (δ.set i .no)[j]? = some s → s.owned = true → δ[j]? = some s := fun {j s} e o => by
    rcases set_cases e with ⟨_, rfl, _⟩ | ⟨_, e⟩
    · cases o
    · exact e
  refine ⟨S.sub0, S.st, ⟨S.loc.gd, by rw [List.length_set]; exact S.loc.len, fun j s e => ?_, fun j k s s' b hjk e1 e2 o1 o2 q1 q2 => S.loc.apart j k s s' b hjk (old e1 o1) (old e2 o2) o1 o2 q1 q2⟩, fun j s b e o q => S.fresh j s b (old e o) o q⟩
  rcases set_cases e with ⟨rfl, rfl, hl⟩ | ⟨_, e⟩
  · have hl' : j < σ.length := by rw [S.loc.len]; exact hl
    exact ⟨σ[j], List.getElem?_eq_getElem hl', trivial⟩
  · exact S.loc.slot j s e
theorem StR.wipeL : ∀ (vs : List Nat) {δ : Sto}, StR K mg T F0 H0 F H σ δ → StR K mg T F0 H0 F H σ (Dn.wipeL vs δ)
  | [], _, S => S
  | j :: vs, _, S => StR.wipeL vs (S.wipe1 j)
theorem forget_read {vs : List Nat} {o : OM} (h : PostS K mg T F0 H0 F W D' (forget (i :: vs) o)) (rl : Rel F F') : PostSM K mg T i a c F0 H0 F' W D' o := by
  cases o with
  | nx δ' =>
    intro σ' F2 H2 r2 S2
    have hl := S2.S.wipe1 i
    rw [List.set_set] at hl
    exact h σ' F2 H2 (rl.trans r2) (hl.unhid.wipeL vs)
  | rt d o => exact fun v F2 H2 E rv => h v F2 H2 E.st.unhid rv
  | rs x o => exact fun F2 H2 E => h F2 H2 E.st.unhid
  | stuck => exact h
end
section
variable {T : List (Addr × Str)} {X : Cx} {W : Wi} {e : Expr} {es : List Expr} {rest : List Stmt} {fa : Sto → Res (List D)} {c x : Str} {k : Nat} {ps : List Str} {g : List D → Res D} {fr : Addr → Sto → OM} {p pos pos' spos : Pos}
theorem dss_new (i : Nat) (us : List Nat) (hN : X.N.Nodup) (G : MkN X.prog X.w X.K X.mg X.base k c ps g) (hr : Room (k + 1) X.A) (tk : L2N.Takes X (wx X.mg W)) (ha : DA T X W (e :: es) fa) (hrest : DSMs T X i c W rest fr) (hg : Gl X c := by rfl) (hdb : (c == ("__debug__" : Str)) = false := by decide)
    (he : starEach (e :: es) X.env = (false, eval e X.env) :: starEach es X.env := by rfl) (hpl : (backTo pos (starEach es X.env)).any (·.1) = false := by rfl)
    (hi : X.N[i]? = some x := by rfl) (hx : L2.Loc X.env.scope x := by first | exact Or.inl rfl | exact Or.inr rfl) (hs : swapsWith (.Call (.Name c p) (e :: es) [] pos) (some (.Name x pos')) spos.line X.env = pure false := by rfl) (hf : X.fn x = true ∨ X.env.scope.names.lookup x = some .local := by first | exact .inl rfl | exact .inr rfl | assumption) :
    DSs T X W (.Assign [.Name x pos'] (.Call (.Name c p) (e :: es) [] pos) spos :: rest) (newM i us g fa fr) := by
  obtain ⟨C, f, fd, hm, mk, F, b⟩ := G
  refine weakSs (pss_cons (ps_set hN hi hx (pe_mkN mk F hr hg hm b (fun σ => L2N.passAt tk σ) ha hdb he hpl) hs hf) hrest) fun D' σ H ⟨F0, H0, F, δ, S, h⟩ => ?_
  refine outAS S h fun ds vs F1 H1 r1 S1 rv h1 x dx hx hdx hne => ?_
  refine ⟨F1, ds, x, C, dx, H1, vs, rfl, rfl, hx, hdx, hne, hm, S1.loc.gd.bare, rv, ?_⟩
  cases z : g ds with
  | ok v =>
    rw [z] at h1
    intro F' H' fs ev st mc hfr
    rw [out_ok] at h1
    by_cases hl : i < δ.length
    · rw [if_pos hl] at h1
      have ns : agree (i :: us) (fun a => fr a (δ.set i (.val v))) ≠ .stuck := fun q => by rw [q] at h1; exact h1
      rw [← agree_at ns x] at h1
      have st' := st.lift S1.loc.gd
      refine ⟨rfl, x, F0, H0, F', δ.set i (.val v), ⟨?_, ⟨fs, by rw [ev]; exact List.getElem?_set_self hl, mc⟩, fun y hy => S1.st.back S1.sub0 (.of (hfr y hy))⟩, forget_read h1 st'.r⟩
      rw [List.set_set]
      exact (S1.step st').setVal (.opq x)
    · rw [if_neg hl] at h1; exact h1.elim
  | rs y => rw [z] at h1; exact fun F' H' st => ⟨rfl, y, rfl, h1 F' H' (S1.st.trans (st.lift S1.loc.gd))⟩
  | stuck => rw [z] at h1; exact h1
end
end Dn


set_option Elab.async false
set_option linter.all false
set_option maxRecDepth 100000
set_option maxHeartbeats 4000000
namespace Dn
open PySem PySem.Spec PyProof.Rows L2
/-! ### plain fields -/
def sca : D → Bool
  | .non => true
  | .bl _ => true
  | .int _ => true
  | .str _ => true
  | _ => false
theorem rp_sca {K : PySem.W.Frag} {mg : Str → Option Value} {F F' : Hp} {v : V} {d : D} (h : sca d = true) (r : Rp K mg F v d) : Rp K mg F' v d := by
  cases r with
  | non => exact .non
  | bl b => exact .bl b
  | int i => exact .int i
  | str e => exact .str e
  | _ => cases h
def fstM (i : Nat) (f : Str) (fe : Addr → Sto → RM D) : Addr → Sto → OM := fun a δ => (fe a δ).out i δ fun d δ1 => match cur i δ1 with
  | .obj c fs => if f ≠ ("parts" : Str) ∧ f ≠ ("#" : Str) ∧ sca d = true ∧ (fs.lookup f).isSome = true then .nx (δ1.set i (.val (.obj c (putD f d fs)))) else .stuck
  | _ => .stuck
theorem lookup_putD {f n : Str} {d : D} : ∀ {fs : List (Str × D)}, (putD f d fs).lookup n = if n = f then some d else fs.lookup n
  | [] => by
    unfold putD
    by_cases h : n = f
    · subst h; rw [if_pos rfl, List.lookup_cons_self]
    · rw [if_neg h, List.lookup_cons, beq_eq_false_iff_ne.mpr h]
  | (g, x) :: r => by
    unfold putD
    by_cases hg : g = f
    · subst hg
      rw [if_pos rfl]
      by_cases h : n = g
      · subst h; rw [if_pos rfl, List.lookup_cons_self]
      · rw [if_neg h, List.lookup_cons, List.lookup_cons, beq_eq_false_iff_ne.mpr h]
    · rw [if_neg hg]
      by_cases h : n = g
      · subst h
        rw [if_neg hg, List.lookup_cons_self, List.lookup_cons_self]
      · rw [List.lookup_cons, beq_eq_false_iff_ne.mpr h, lookup_putD, List.lookup_cons, beq_eq_false_iff_ne.mpr h]
section
variable {T : List (Addr × Str)} {X : Cx} {i : Nat} {c f x : Str} {W : Wi} {e : Expr} {fe : Addr → Sto → RM D} {p pos pos' : Pos}
theorem dsm_fst (P : FldP X.K X.mg c f) (he : DEM T X i c W e fe) (hN : X.N[i]? = some x := by rfl) (hv : Vis X.env.scope x := by first | exact Or.inl rfl | exact Or.inr (Or.inl rfl) | exact Or.inr (Or.inr rfl)) (hd : (x == ("__debug__" : Str)) = false := by decide) (hcd : (x == ("__classdict__" : Str)) = false := by decide)
    (hs : swapsWith e (some (.Attribute (.Name x p) f pos')) pos.line X.env = pure false := by rfl) : DSM T X i c W (.Assign [.Attribute (.Name x p) f pos'] e pos) (fstM i f fe) :=
  weakS (ps_fld (pe_var (i := i) hN hv hd hcd) he hs) fun D' σ H ⟨a, F0, H0, F, δ, S, h⟩ => outG S h fun d o v F1 H1 r1 S1 rv h1 => by
    obtain ⟨fs, eo, C, dx, gs, vf, m⟩ := S1.o
    rw [cur_is eo] at h1
    dsimp only at h1
    by_cases hc : f ≠ ("parts" : Str) ∧ f ≠ ("#" : Str) ∧ sca d = true ∧ (fs.lookup f).isSome = true
    · rw [if_pos hc] at h1
      obtain ⟨hp, hse, hsc, hsome⟩ := hc
      obtain ⟨C', hm, cl, na⟩ := P
      have hm' := m.m
      rw [hm] at hm'; cases hm'
      obtain ⟨d0, hd0⟩ := Option.isSome_iff_exists.mp hsome
      have g0 := (m.h1 f d0 hd0).1
      refine ⟨.ref a, S1.lm.at, a, C, dx, gs, rfl, m.ea, cl, na, Nat.lt_trans m.h5 (by decide), ?_⟩
      have hda : dx ≠ a := fun z => by have := m.ed; rw [z, m.ea] at this; cases this
      have gl : ∀ n, (putF f v gs).lookup n = if n = f then some v else gs.lookup n := fun n => by rw [lookup_putF]
      have ea' : upd H1 a (.ins C dx (putF f v gs)) a = some (.ins C dx (putF f v gs)) := upd_same
      have same : ∀ y, fp a (upd H1 a (.ins C dx (putF f v gs))) y ↔ fp a H1 y := fun y => by
        rw [fp_ins ea', fp_ins m.ea, gl, if_neg (Ne.symm hp)]
      have eh : hid a (upd H1 a (.ins C dx (putF f v gs))) = hid a H1 := by
        funext y
        by_cases z : fp a H1 y
        · rw [hid_fp z, hid_fp ((same y).mpr z)]
        · rw [hid_ne z, hid_ne (fun q => z ((same y).mp q)), upd_ne (fun q => z (by rw [q]; exact .inl rfl))]
      refine h1 σ F1 _ (.refl F1) ⟨?_, ⟨putD f d fs, List.getElem?_set_self S1.lm.lt, C, dx, putF f v gs, fun n => if n = f then v else vf n, ?_⟩, fun y hy => S1.f y ((same y).mp hy)⟩
      · rw [List.set_set, eh]
        exact S1.S
      · refine ⟨hm, m.na, m.nd, ea', by rw [upd_ne hda]; exact m.ed, by rw [lookup_putD, if_neg (Ne.symm hse)]; exact m.h0, fun n d' en => ?_, fun n v' en => ?_, by rw [put_len g0]; exact m.h5, m.h6⟩
        · rw [lookup_putD] at en
          by_cases hn : n = f
          · rw [if_pos hn] at en
            cases en
            refine ⟨by rw [gl, if_pos hn, if_pos hn], .inl ⟨by rw [hn]; exact hp, ?_⟩⟩
            rw [if_pos hn]
            exact rp_sca hsc rv
          · rw [if_neg hn] at en
            obtain ⟨q1, q2⟩ := m.h1 n d' en
            refine ⟨by rw [gl, if_neg hn, if_neg hn]; exact q1, ?_⟩
            rw [if_neg hn]
            refine q2.keep fun b vs eb ebl hnp => ?_
            subst hnp
            rw [eb] at q1
            have hb : b ≠ a := fun z => by rw [z, m.ea] at ebl; cases ebl
            exact ⟨by rw [upd_ne hb]; exact ebl, (m.parts q1).1⟩
        · rw [gl] at en
          rw [lookup_putD]
          by_cases hn : n = f
          · rw [if_pos hn]; exact .inl rfl
          · rw [if_neg hn] at en ⊢; exact m.h3 n v' en
    · rw [if_neg hc] at h1; exact h1.elim
end
/-! ### a maker by plain statements, the object left unfrozen -/
def Out.madeN (c : Str) : Out → Res D
  | .nx δ => (match (δ[0]? : Option Slot) with
    | some (Slot.ins c' fs) => if c' = c ∧ fs.lookup ("#" : Str) = none ∧ (fs.all fun q => sca q.2) = true ∧ fs.lookup ("parts" : Str) = none ∧ c ≠ ("#" : Str) ∧ fs.length < 200 then .ok (.obj c fs) else .stuck
    | _ => .stuck)
  | .rs x => .rs x
  | _ => .stuck
def runN (c : Str) (n m : Nat) (b : Sto → Out) (ds : List D) : Res D := if ds.length = n then (b (.ins c [] :: (ds.map Slot.val ++ List.replicate m .no))).madeN c else .stuck
section
variable {P : Program} {w : World} {K : PySem.W.Frag} {mg : Str → Option Value} {base : Heap}
theorem fnN {x qual c : Str} {st : Stmt} {f : Addr} {fd : FuncData} {N ps : List Str} {k : Nat} {fb : Sto → Out} (n m : Nat) (Fn : Fun K x qual st f fd) (S : FnScope N ps (defScope st)) (hps : ps.length = n + 1) (hN : N.length = n + 1 + m)
    (hbody : ∀ (cdv : Value) (A : Around) (outer : List Env) (s : Shared) (H : Hp) (E : XK), Room k (A.deeper (envOfC qual (defScope st) s.heap.objs.size f cdv)) →
      DSs [] (cxOf (L2N.CX P w) P w K mg base N qual (defScope st) f cdv A outer s H E) (fun c H => E (clsOf mg c) none H) (defBody st) fb) : FnOk P w K mg base (L2N.CX P w) (k + 1) f fd ps (spN K mg c (runN c n m fb)) := by
  obtain ⟨oc, od, kV, doc, pm, an, cdv, ct, osl, rfl, lk, hcd⟩ := Fn.ex
  refine fn_of lk hcd S (fun vs H Q E h => ?_) (fun A outer s H vs Q E hr h => ⟨_, hbody cdv A outer s H E hr, ?_⟩)
  · obtain ⟨F, ds, y, C, dx, H1, us, rfl, _, _, _, _, _, _, r, h⟩ := h
    unfold runN at h
    by_cases hl : ds.length = n
    · rw [List.length_cons, r.length, hl, hps]
    · rw [if_neg hl] at h; exact h.elim
  · obtain ⟨F, ds, y, C, dx, H1, us, rfl, rfl, hy, hdx, hne, hm, gd, r, h⟩ := h
    unfold runN at h
    by_cases hl : ds.length = n
    · rw [if_pos hl] at h
      have g1 : Gd [] F (upd (upd H1 dx (.own y)) y (.ins C dx [])) := by
        have s1 := Step.junk (o := .own y) gd hdx
        exact (Step.junk s1.gd (by rw [upd_ne (Ne.symm hne)]; exact hy)).gd
      have st1 : Step [] F H1 F (upd (upd H1 dx (.own y)) y (.ins C dx [])) := (Step.junk (o := .own y) gd hdx).trans (Step.junk (Step.junk (o := .own y) gd hdx).gd (by rw [upd_ne (Ne.symm hne)]; exact hy))
      have SS := start_slots (N := N) (vs := .ref y :: us) (ds := .opq y :: ds) (.cons (.opq y) r) g1 (n := n + 1) (m := m) (by simp [hl]) hN
      have S0 : StR K mg [] F (H1, y) F (upd (upd H1 dx (.own y)) y (.ins C dx [])) (L2.start N (.ref y :: us)) (.ins c [] :: (ds.map Slot.val ++ List.replicate m .no)) := by
        have e0 : (L2.start N (.ref y :: us))[0]? = some (some (.ref y)) := by
          obtain ⟨ov, q, v, e, rv⟩ := SS.loc.slot 0 (.val (.opq y)) rfl
          subst e
          cases rv
          exact q
        refine ⟨gd.sub, st1, ⟨g1, ?_, fun i s e => ?_, fun i j s s' a hij e1 e2 o1 o2 q1 q2 => ?_⟩, fun i s a e o q => ?_⟩
        · have := SS.loc.len
          simpa using this
        · cases i with
          | zero =>
            cases e
            exact ⟨_, e0, y, C, dx, [], rfl, gd.sub.none hy, gd.sub.none hdx, hm, upd_same, by rw [upd_ne hne, upd_same], .nil⟩
          | succ i => exact SS.loc.slot (i + 1) s (by simpa using e)
        · have vl : ∀ (i : Nat) s, (Slot.ins c [] :: (ds.map Slot.val ++ List.replicate m .no))[i]? = some s → s.owned = true → i = 0 := fun i s e o => by
            cases i with
            | zero => rfl
            | succ i =>
              have e : (ds.map Slot.val ++ List.replicate m .no)[i]? = some s := by simpa using e
              rcases List.mem_append.mp (List.mem_of_getElem? e) with z | z
              · obtain ⟨d, _, rfl⟩ := List.mem_map.mp z
                cases o
              · rw [(List.mem_replicate.mp z).2] at o; cases o
          exact hij ((vl i s e1 o1).trans (vl j s' e2 o2).symm)
        · cases i with
          | zero =>
            rw [e0] at q; cases q
            refine ⟨.of hy, fun C2 dx2 gs2 z => ?_⟩
            rw [upd_same] at z; cases z
            exact ⟨.of hdx, rfl⟩
          | succ i =>
            have e : (ds.map Slot.val ++ List.replicate m .no)[i]? = some s := by simpa using e
            rcases List.mem_append.mp (List.mem_of_getElem? e) with z | z
            · obtain ⟨d, _, rfl⟩ := List.mem_map.mp z
              cases o
            · rw [(List.mem_replicate.mp z).2] at o; cases o
      refine ⟨F, (H1, y), F, _, S0, ?_⟩
      cases e : fb (.ins c [] :: (ds.map Slot.val ++ List.replicate m .no)) with
      | nx δ =>
        rw [e] at h
        intro σ F' H' _ S'
        unfold Out.madeN at h
        dsimp only at h
        split at h
        · rename_i d ed
          split at ed
          · rename_i c' fs e1
            by_cases hc : c' = c ∧ fs.lookup ("#" : Str) = none ∧ (fs.all fun q => sca q.2) = true ∧ fs.lookup ("parts" : Str) = none ∧ c ≠ ("#" : Str) ∧ fs.length < 200
            · rw [if_pos hc] at ed
              cases ed
              obtain ⟨rfl, hs0, hsc, hpn, hrw, hlen⟩ := hc
              obtain ⟨ov, q, a, C', dx', gs, rfl, nF, nD, hm', hH, hD, fl⟩ := S'.loc.slot 0 _ e1
              have hm' : mg c' = some (.ref C') := hm'
              rw [hm] at hm'; cases hm'
              obtain ⟨fa, fb'⟩ := S'.fresh 0 _ a e1 rfl q
              obtain ⟨fd', ea⟩ := fb' _ _ _ hH
              have ea : a = y := ea
              subst ea
              have hfp : ∀ z, fp a H' z ↔ z = a ∨ z = dx' := fun z => by
                rw [fp_ins hH]
                constructor
                · rintro (q | q | q)
                  · exact .inl q
                  · exact .inr q
                  · obtain ⟨d, ld, _⟩ := fl.back q
                    rw [hpn] at ld; cases ld
                · rintro (q | q)
                  · exact .inl q
                  · exact .inr (.inl q)
              have mc : MC K mg a c' fs F' H' C dx' gs (fun n => (gs.lookup n).getD .non) := by
                refine ⟨hm, nF, nD, hH, hD, hs0, fun n d en => ?_, fun n v en => ?_, by rw [fl.len]; exact hlen, hrw⟩
                · obtain ⟨v, lv, rv⟩ := fl.look en
                  refine ⟨by rw [lv]; rfl, .inl ⟨fun z => (by rw [z, hpn] at en; cases en), ?_⟩⟩
                  rw [lv]
                  exact rp_sca (List.all_eq_true.mp hsc (n, d) (look_mem en)) rv
                · obtain ⟨d, ld, _⟩ := fl.back en
                  rw [ld]; exact .inl rfl
              have n1 : ∀ z, fp a H' z → H1 z = none := fun z hz => by
                rcases (hfp z).mp hz with q | q
                · rw [q]; exact fa.none
                · rw [q]; exact fd'.none
              refine h F' H' fs rfl ⟨S'.st.r, S'.st.gd.hid mc, fun z o nz ez v => ?_, fun z o nz ez v => ?_⟩ ⟨C, dx', gs, _, mc⟩ n1
              · rw [hid_ne (fun q => by
                  have e0 : H1 z = some o := ez
                  rw [n1 z q] at e0; cases e0)]
                exact S'.st.fr z o nz ez v
              · obtain ⟨m1, o1, e2, v1⟩ := S'.st.off z o nz ez v
                exact ⟨m1, o1, by rw [hid_ne (fun q => by
                  have e0 : H1 z = some o := ez
                  rw [n1 z q] at e0; cases e0)]; exact e2, v1⟩
            · rw [if_neg hc] at ed; cases ed
          · cases ed
        · rename_i d ed
          split at ed
          · split at ed <;> cases ed
          · cases ed
        · exact h.elim
      | rt d => rw [e] at h; exact (show False from h).elim
      | rs c => rw [e] at h; exact h
      | bk δ => rw [e] at h; exact (show False from h).elim
      | ct δ => rw [e] at h; exact (show False from h).elim
      | stuck => rw [e] at h; exact h
    · rw [if_neg hl] at h; exact h.elim
theorem mkN_of {c qual : Str} {st : Stmt} {N ps : List Str} {k : Nat} {fb : Sto → Out} (n r : Nat) (Fn : MkT K mg c qual st ps) (S : FnScope N ps (defScope st)) (hps : ps.length = n + 1) (hN : N.length = n + 1 + r)
    (hbody : ∀ (f : Addr) (cdv : Value) (A : Around) (outer : List Env) (s : Shared) (H : Hp) (E : XK), Room k (A.deeper (envOfC qual (defScope st) s.heap.objs.size f cdv)) →
      DSs [] (cxOf (L2N.CX P w) P w K mg base N qual (defScope st) f cdv A outer s H E) (fun c H => E (clsOf mg c) none H) (defBody st) fb) : MkN P w K mg base (k + 1) c ps (runN c n r fb) := by
  obtain ⟨C, f, fd, hm, mk, F, b⟩ := Fn
  exact ⟨C, f, fd, hm, mk, fnN n r F S hps hN (hbody f), b⟩
end
end Dn


set_option Elab.async false
set_option linter.all false
set_option maxRecDepth 100000
set_option maxHeartbeats 4000000
namespace Dn
open PySem PySem.Spec PyProof.Rows L2
/-! ### a list by turns, each of which may turn the object -/
def lcMS (i j : Nat) (fe : Addr → Sto → RM D) (a : Addr) : List D → Sto → RM (List D)
  | [], δ => .ok [] (cur i δ)
  | x :: xs, δ => match fe a (δ.set j (.val x)) with
    | .ok y o => (match lcMS i j fe a xs (δ.set i (.val o)) with
      | .ok ys o' => .ok (y :: ys) o'
      | _ => .stuck)
    | _ => .stuck
def lcM (i j : Nat) (fa : Addr → Sto → RM (List D)) (fe : Addr → Sto → RM D) : Addr → Sto → RM D := fun a δ => if j ≠ i then ((fa a δ).bind i δ fun xs δ1 => match asRng2 xs with
  | .ok ds => if ds.length ≤ line then (match lcMS i j fe a ds δ1 with
    | .ok ys o => .ok (.lst ys) o
    | _ => .stuck) else .stuck
  | _ => .stuck) else .stuck
section
variable {K : PySem.W.Frag} {mg : Str → Option Value} {T : List (Addr × Str)} {i j : Nat} {a : Addr} {c : Str} {F H F' H' : Hp} {σ : L2.St} {δ : Sto} {W : Wi} {fs : List (Str × D)}
theorem LM.setVal (L : LM K mg T i a c F H σ δ) (hj : j ≠ i) {v : V} {d : D} (r : Rp K mg F v d) : LM K mg T i a c F H (σ.set j (some v)) (δ.set j (.val d)) := by
  obtain ⟨fs, e, m⟩ := L.o
  refine ⟨?_, fs, by rw [List.getElem?_set_ne hj]; exact e, m⟩
  rw [List.set_comm _ _ hj]
  exact L.L.setVal r
/-- a list beside the object is turned -/
theorem StM.upd {p : Addr} {vs us : List V} (s : StM T a F H F' H') (m : Mc K mg a c fs F' H') (n0 : H p = none) (hF : F' p = none) (np : ¬ Dn.fp a H' p) (e : H' p = some (.lst vs)) : StM T a F H F' (L2.upd H' p (.lst us)) ∧ Mc K mg a c fs F' (L2.upd H' p (.lst us)) ∧ ¬ Dn.fp a (L2.upd H' p (.lst us)) p := by
  have npa : p ≠ a := fun z => np (.inl z)
  have ea : L2.upd H' p (.lst us) a = H' a := upd_ne (Ne.symm npa)
  have same : ∀ x, Dn.fp a (L2.upd H' p (.lst us)) x ↔ Dn.fp a H' x := fun x => by unfold Dn.fp; rw [ea]
  have eh : hid a (L2.upd H' p (.lst us)) = L2.upd (hid a H') p (.lst us) := by
    funext x
    by_cases z : Dn.fp a H' x
    · have hx : x ≠ p := fun q => np (by rw [← q]; exact z)
      rw [hid_fp ((same x).mpr z), upd_ne hx, hid_fp z]
    · rw [hid_ne (fun q => z ((same x).mp q))]
      by_cases hx : x = p
      · rw [hx, upd_same, upd_same]
      · rw [upd_ne hx, upd_ne hx, hid_ne z]
  have n1 : Fr0 T (hid a H) p := .of (by
    by_cases z : Dn.fp a H p
    · exact hid_fp z
    · rw [hid_ne z]; exact n0)
  have e1 : hid a H' p = some (.lst vs) := by rw [hid_ne np]; exact e
  refine ⟨⟨?_, fun x h => s.fp x ((same x).mp h)⟩, ?_, fun q => np ((same p).mp q)⟩
  · rw [eh]
    exact s.st.turn n1 hF (fun ps z => by rw [e1] at z; cases z) (fun φ z => by rw [e1] at z; cases z)
  · obtain ⟨C, dx, gs, vf, mc⟩ := m
    refine ⟨C, dx, gs, vf, mc.keep fun x hx => ⟨upd_ne (fun q => np (by rw [← q]; exact hx)), mc.off hx⟩⟩
end
section
variable {T : List (Addr × Str)} {X : Cx} {i : Nat} {c : Str} {W : Wi} {elt p q : Expr} {x : Str} {px p1 p2 pos : Pos} {scope : Scope} {fa : Addr → Sto → RM (List D)} {fe : Addr → Sto → RM D}
theorem dem_lc (j : Nat) (hc : X.calm = true) (hN : X.N.Nodup) (hm : X.mg "range" = none) (ha : DAM T X i c W [p, q] fa) (ok : BlkOk X.N X.env.scope scope [(x, j)])
    (hg : ∀ (s : Shared) (H : Hp) (C : Addr) (cl : List (Str × Addr)) (fp : List Addr), PG (X.blk s H scope (compEnvC scope cl C X.env) fp) (.Name x px) (gName j))
    (he : ∀ (s : Shared) (H : Hp) (C : Addr) (cl : List (Str × Addr)) (fp : List Addr), DEM T (X.blk s H scope (compEnvC scope cl C X.env) fp) i c WF elt fe)
    (hgr : Gl X "range" := by rfl) (hs0 : starEach [p, q] X.env = [(false, eval p X.env), (false, eval q X.env)] := by rfl) (hs2 : starEach [q] X.env = [(false, eval q X.env)] := by rfl) (hs : ∀ y, foldedSetIterable (.Call (.Name "range" p1) [p, q] [] p2) X.env y = pure y := by intro _; rfl) :
    DEM T X i c W (.ListComp elt [⟨.Name x px, .Call (.Name "range" p1) [p, q] [] p2, [], 0⟩] scope pos) (lcM i j fa fe) :=
  weakE (pe_lc (te := tG X.K X.mg T (Rp X.K X.mg) i c WF fe) (tt := tDT X.K X.mg T WF yes) hc hN (pi_range2 hgr hm ha hs0 hs2) ok hg (fun _ _ _ _ _ => dts_nil) he hs) fun σ H Q ⟨F, δ, a, L, h⟩ => by
    unfold lcM at h
    by_cases hji : j ≠ i
    · rw [if_pos hji] at h
      refine bindG L h fun xs o vs F1 H1 s1 L1 r1 h1 => ?_
      generalize δ.set i (.val o) = δ1 at L1 h1
      unfold asRng2 at h1
      split at h1
      · rename_i ds e
        split at e
        · rename_i u v
          split at e
          · rename_i hj2
            cases e
            unfold okI at hj2
            obtain ⟨w1, w2, rfl, q1, q2⟩ := r1.two
            cases q1; cases q2
            refine ⟨u, v, rfl, ⟨by omega, by omega, by omega, by omega⟩, ?_⟩
            have wk : WalkD X.K X.mg T (Itr u (v - u).toNat) F1 (upTo u (v - u).toNat) := walk_r
            generalize upTo u (v - u).toNat = ds at h1 wk
            by_cases hz : ds.length ≤ line
            · rw [if_pos hz] at h1
              intro Dl hD
              obtain ⟨fs1, e1, mc1⟩ := L1.o
              have nfp : ¬ Dn.fp a H1 Dl := fun z => by
                obtain ⟨_, _, _, _, m⟩ := mc1
                obtain ⟨o, q1, _⟩ := m.there z
                rw [hD] at q1; cases q1
              have hF1 : F1 Dl = none := L1.gd.sub.none hD
              obtain ⟨sj, Lj⟩ := L1.step (Step.junk (o := .lst []) L1.gd hD)
              have npj : ¬ Dn.fp a (L2.upd H1 Dl (.lst [])) Dl := fun z => by
                obtain ⟨_, _, _, _, _, m⟩ := Lj.o
                have ea : L2.upd H1 Dl (.lst []) a = H1 a := upd_ne (fun q => nfp (.inl q.symm))
                exact nfp (by unfold Dn.fp at z ⊢; rw [ea] at z; exact z)
              cases el : lcMS i j fe a ds δ1 with
              | rs y o => rw [el] at h1; exact (show False from h1).elim
              | stuck => rw [el] at h1; exact (show False from h1).elim
              | ok tot oe =>
                rw [el] at h1
                refine ⟨fun k m H' => m = ds.length - k ∧ k ≤ ds.length ∧ ∃ F' acc ys zs fs', StM T a F1 H1 F' H' ∧ Mc X.K X.mg a c fs' F' H' ∧ F' Dl = none ∧ ¬ Dn.fp a H' Dl ∧ H' Dl = some (.lst acc) ∧ RpL X.K X.mg F' acc ys ∧ acc.length ≤ k ∧ lcMS i j fe a (ds.drop k) (δ1.set i (.val (.obj c fs'))) = .ok zs oe ∧ tot = ys ++ zs,
                  ⟨ds.length, by simp, Nat.zero_le _, F1, [], [], tot, fs1, sj, ?_, hF1, npj, upd_same, .nil, Nat.zero_le _, ?_, rfl⟩, ?_⟩
                · obtain ⟨fs2, e2, mc2⟩ := Lj.o
                  rw [e1] at e2; cases e2
                  exact mc2
                · rw [← cur_is e1, set_cur e1]; exact el
                · rintro k m H' ⟨rfl, hk, F', acc, ys, zs, fs', st, mc, nD, npD, eD, rv, hacc, ez, et⟩
                  have Lk : LM X.K X.mg T i a c F' H' σ (δ1.set i (.val (.obj c fs'))) := L1.turn st mc
                  by_cases hlt : k < ds.length
                  · have ed : ds[k]? = some ds[k] := List.getElem?_eq_getElem hlt
                    obtain ⟨go, yl⟩ := (wk k F' H' st.st.r Lk.gd).1 ds[k] ed
                    rw [List.drop_eq_getElem_cons hlt] at ez
                    refine .inr ⟨go, fun H2 => ∃ F' acc ys zs fs', StM T a F1 H1 F' H2 ∧ Mc X.K X.mg a c fs' F' H2 ∧ F' Dl = none ∧ ¬ Dn.fp a H2 Dl ∧ H2 Dl = some (.lst acc) ∧ RpL X.K X.mg F' acc ys ∧ acc.length ≤ k + 1 ∧ lcMS i j fe a (ds.drop (k + 1)) (δ1.set i (.val (.obj c fs'))) = .ok zs oe ∧ tot = ys ++ zs, fun H2 q => ⟨ds.length - (k + 1), by omega, rfl, hlt, q⟩, fun y H2 yy => ?_⟩
                    obtain ⟨F2, st2, rx⟩ := yl y H2 yy
                    obtain ⟨s2, L2'⟩ := Lk.step st2
                    have L3 := L2'.setVal hji rx
                    have e0 : (L2.wipe σ ([(x, j)].map (·.2))).set j (some y) = σ.set j (some y) := List.set_set ..
                    dsimp only [gName]
                    rw [e0]
                    refine ⟨by show (σ.set j (some y)).set j none = σ.set j none; rw [List.set_set], ?_⟩
                    refine ⟨F2, _, L3.L.unhid, fun F3 H3 st3 => ?_⟩
                    obtain ⟨s3, L4⟩ := L3.step st3
                    rw [if_pos rfl]
                    refine ⟨F3, _, a, L4, ?_⟩
                    unfold lcMS at ez
                    cases ef : fe a ((δ1.set i (.val (.obj c fs'))).set j (.val ds[k])) with
                    | rs y o => rw [ef] at ez; cases ez
                    | stuck => rw [ef] at ez; cases ez
                    | ok y2 o2 =>
                      rw [ef] at ez
                      dsimp only at ez
                      intro v2 F4 H4 s4 L5 rv2
                      have stt : StM T a F1 H1 F4 H4 := ((st.trans L1.L.gd s2).trans L1.L.gd s3).trans L1.L.gd s4
                      have k4 : StM T a F' H' F4 H4 := (s2.trans Lk.L.gd s3).trans Lk.L.gd s4
                      have hd : hid a H' Dl = some (.lst acc) := by rw [hid_ne npD]; exact eD
                      have hd4 := k4.st.fr Dl _ nD hd (.inr fun _ z => by cases z)
                      have nF4 := (k4.st.off Dl _ nD hd (.inr (.inl fun _ z => by cases z))).1
                      obtain ⟨np4, eD4⟩ := hid_some hd4
                      obtain ⟨fs5, e5, mc5⟩ := L5.o
                      have eo2 : o2 = .obj c fs5 := by
                        rw [List.getElem?_set_self (by rw [List.length_set]; exact Lk.lt)] at e5
                        cases e5; rfl
                      subst eo2
                      obtain ⟨u1, u2, u3⟩ := stt.upd mc5 hD nF4 np4 eD4 (us := acc ++ [v2])
                      rw [List.set_set] at ez
                      cases er : lcMS i j fe a (ds.drop (k + 1)) (δ1.set i (.val (.obj c fs5))) with
                      | rs y o => rw [er] at ez; cases ez
                      | stuck => rw [er] at ez; cases ez
                      | ok zs2 o3 =>
                        rw [er] at ez
                        cases ez
                        refine ⟨acc, eD4, Nat.lt_of_lt_of_le (Nat.lt_of_le_of_lt hacc hlt) (Nat.le_trans hz line_le), F4, acc ++ [v2], ys ++ [y2], zs2, fs5, u1, u2, nF4, u3, upd_same, (rv.mono k4.st.r).append (.cons rv2 .nil), by rw [List.length_append, List.length_singleton]; omega, er, ?_⟩
                        rw [et, List.append_assoc]
                        rfl
                  · have ek : k = ds.length := by omega
                    subst ek
                    rw [List.drop_length] at ez
                    unfold lcMS at ez
                    have ec : cur i (δ1.set i (.val (.obj c fs'))) = .obj c fs' := cur_is (List.getElem?_set_self L1.lt)
                    rw [ec] at ez
                    cases ez
                    rw [List.append_nil] at et
                    subst et
                    refine .inl ⟨(wk _ F' H' st.st.r Lk.gd).2 (Nat.le_refl _), ?_⟩
                    have hd : hid a H' Dl = some (.lst acc) := by rw [hid_ne npD]; exact eD
                    have n1 : Fr0 T (hid a H1) Dl := .of (by rw [hid_ne nfp]; exact hD)
                    have sf : StM T a F1 H1 (L2.upd F' Dl (.lst acc)) H' := ⟨st.st.freeze n1 nD hd, st.fp⟩
                    have mf : Mc X.K X.mg a c fs' (L2.upd F' Dl (.lst acc)) H' := by
                      obtain ⟨C, dx, gs, vf, mm⟩ := mc
                      exact ⟨C, dx, gs, vf, mm.keep fun x hx => ⟨rfl, by rw [upd_ne (fun q => npD (by rw [← q]; exact hx))]; exact mm.off hx⟩⟩
                    exact h1 _ _ H' sf (L1.turn sf mf) (RpL.lst upd_same (rv.mono (fun b o q => ⟨o, by rw [upd_ne (ne_of_none q nD)]; exact q, .refl o⟩)))
            · rw [if_neg hz] at h1; exact h1.elim
          · cases e
        · cases e
      · exact h1.elim
    · rw [if_neg hji] at h; exact h.elim
theorem dem_callB {id : String} {x : Str} {e : Expr} {es : List Expr} {r : List V → Hp → VK → Prop} {g : List D → Res D} (hc : CallR X (.builtin id) r) (hr : RCD X.K X.mg T r g) (hm : X.mg x = none) (hv : bootBuiltins x = some (.builtin id)) (ha : DAM T X i c W (e :: es) fa)
    (hg : Gl X x := by rfl) (hn : x ≠ "__name__" := by decide) (hdb : (x == ("__debug__" : Str)) = false := by decide) (he : starEach (e :: es) X.env = (false, eval e X.env) :: starEach es X.env := by rfl) (hpl : (backTo pos (starEach es X.env)).any (·.1) = false := by rfl) :
    DEM T X i c W (.Call (.Name x px) (e :: es) [] pos) (appM i g fa) :=
  weakE (pe_callB hc hg hm hv ha hn hdb he hpl) fun σ H Q ⟨F, δ, a, L, h⟩ => bindG L h fun ds o vs F1 H1 s1 L1 r1 h1 => hr F1 H1 vs ds W Q L1.gd r1 (pureG L1 h1)
end
end Dn


set_option Elab.async false
set_option linter.all false
set_option maxRecDepth 100000
set_option maxHeartbeats 4000000
namespace Lw
open PySem PySem.Spec PyProof.Rows L2 Dn
def topS (i : Nat) : Stmt := PySem.Challenge.pw_tersewood_k21_room_and_looks.main.body.getD i (.Pass ⟨0, 0, 0, 0⟩)
abbrev s_needs : Stmt := topS 8
abbrev s_need_bits : Stmt := topS 11
abbrev s_in_bits : Stmt := topS 9
abbrev s_pack : Stmt := topS 12
abbrev s_Row___init__ : Stmt := inS (topS 18) 0
abbrev s_Row_room : Stmt := inS (topS 18) 15
abbrev s_Row_looks : Stmt := inS (topS 18) 16
abbrev s__law_cell : Stmt := topS 20
abbrev s__law_drawn : Stmt := topS 21
abbrev s__law_needs : Stmt := topS 22
abbrev s__law_bits : Stmt := topS 23
abbrev s_Row_need : Stmt := inS (topS 18) 1
abbrev s_Row_look : Stmt := inS (topS 18) 4
abbrev s_out_of : Stmt := topS 10
abbrev s_need_packed : Stmt := topS 13
abbrev s_number_at : Stmt := topS 14
abbrev s_Row_up_to : Stmt := inS (topS 18) 6
abbrev s_Row_ones : Stmt := inS (topS 18) 7
abbrev s_Row_noughts : Stmt := inS (topS 18) 8
abbrev s_Row_ahead : Stmt := inS (topS 18) 9
abbrev s_Row_found_at : Stmt := inS (topS 18) 10
abbrev s_Row_one_at : Stmt := inS (topS 18) 11
abbrev s_Row_nought_at : Stmt := inS (topS 18) 12
abbrev s__law_asked : Stmt := topS 24
abbrev s__law_due : Stmt := topS 25
abbrev s_law : Stmt := topS 26
abbrev fs_Row : List Str := ["own", "wide", "whole_blocks", "counts", "seen"]
structure Txt (K : PySem.W.Frag) (mg : Str → Option Value) (CT c0 c1 c2 c3 c4 c5 c6 : Addr) : Prop where
  b_all : mg "all" = none
  b_range : mg "range" = none
  b_str : mg "str" = none
  b_len : mg "len" = none
  b_int : mg "int" = none
  b_sum : mg "sum" = none
  b_min : mg "min" = none
  b_max : mg "max" = none
  k_MOST : ∃ t, mg "MOST" = some (.int 4096 t)
  k_BLOCK : ∃ t, mg "BLOCK" = some (.int 32 t)
  tab : ExcPart K mg CT ["BadNumber", "BadBits", "BadPlace", "TooMany"]
  c_Row : ∃ C, ClsOk K mg "Row" C fs_Row
  f_needs : FnT K mg "needs" s_needs ["number"]
  f_need_bits : FnT K mg "need_bits" s_need_bits ["bits"]
  f_in_bits : FnT K mg "in_bits" s_in_bits ["number", "wide"]
  f_pack : FnT K mg "pack" s_pack ["numbers", "wide"]
  f_Row___init__ : MkT K mg "Row" "Row.__init__" s_Row___init__ ["self", "bits"]
  f_Row_room : MtT K mg "Row" "room" "Row.room" s_Row_room ["self"]
  f_Row_looks : MtT K mg "Row" "looks" "Row.looks" s_Row_looks ["self"]
  f__law_cell : FnT K mg "_law_cell" s__law_cell ["script", "k"]
  f__law_drawn : FnT K mg "_law_drawn" s__law_drawn ["cell", "k"]
  f__law_needs : FnT K mg "_law_needs" s__law_needs ["number"]
  f__law_bits : FnT K mg "_law_bits" s__law_bits ["number", "wide"]
  f_Row_need : MtT K mg "Row" "need" "Row.need" s_Row_need ["self", "good"]
  f_Row_look : MtT K mg "Row" "look" "Row.look" s_Row_look ["self", "place"]
  f_out_of : FnT K mg "out_of" s_out_of ["bits"]
  f_need_packed : FnT K mg "need_packed" s_need_packed ["bits", "wide"]
  f_number_at : FnT K mg "number_at" s_number_at ["bits", "wide", "place"]
  f_Row_up_to : MtT K mg "Row" "up_to" "Row.up_to" s_Row_up_to ["self", "block"]
  f_Row_ones : MtT K mg "Row" "ones" "Row.ones" s_Row_ones ["self", "place"]
  f_Row_noughts : MtT K mg "Row" "noughts" "Row.noughts" s_Row_noughts ["self", "place"]
  f_Row_ahead : MtT K mg "Row" "ahead" "Row.ahead" s_Row_ahead ["self", "block", "sign"]
  f_Row_found_at : MtT K mg "Row" "found_at" "Row.found_at" s_Row_found_at ["self", "number", "sign"]
  f_Row_one_at : MtT K mg "Row" "one_at" "Row.one_at" s_Row_one_at ["self", "number"]
  f_Row_nought_at : MtT K mg "Row" "nought_at" "Row.nought_at" s_Row_nought_at ["self", "number"]
  f__law_asked : FnT K mg "_law_asked" s__law_asked ["row", "way", "at"]
  f__law_due : FnT K mg "_law_due" s__law_due ["bits", "way", "at"]
structure Lms (K : PySem.W.Frag) (mg : Str → Option Value) (base : Heap) (T : List (Addr × Str)) : Prop where
section
variable {P : Program} {w : World} {K : PySem.W.Frag} {mg : Str → Option Value} {base : Heap} {CT c0 c1 c2 c3 c4 c5 c6 : Addr}
/-! ### needs -/
theorem sc_needs : FnScope ["number", "found"] ["number"] (defScope s_needs) := ⟨rfl, rfl, rfl, by decide +kernel, rfl, by decide +kernel, by decide +kernel⟩
def b_needs : Sto → Out := seqS (ifS (tst (bin ltD (vr 0) (cst (.int 0)))) (rais "BadNumber") (nopS))
  (seqS (asg 1 (cst (.int 0)))
  (seqS (whS (tst (bin gtD (vr 0) (cst (.int 0)))) (seqS (asg 0 (bin fdivD (vr 0) (cst (.int 2))))
  (asg 1 (bin addD (vr 1) (cst (.int 1))))) 2000000)
  (retS (vr 1))))
def d_needs : List D → Res D := runF 1 1 b_needs
theorem ok_needs (tx : Txt K mg CT c0 c1 c2 c3 c4 c5 c6) : FnP P w K mg base 1 "needs" ["number"] d_needs := fnP 1 1 tx.f_needs sc_needs rfl rfl (fun f cdv A outer s H E hr => dss_cons (ds_if (dt_cmp op_ltA r_lt (de_var 0) (de_int) (nomark _)) (dss_one (ds_raiseP tx.tab (by decide +kernel) rfl tk_def)) (dss_nil))
  (dss_cons (ds_set 1 sc_needs.nd (de_int))
  (dss_cons (ds_while 2000000 (passes_of rfl) (dt_cmp op_gt r_gt (de_var 0) (de_int) (nomark _)) (dss_cons (ds_set 0 sc_needs.nd (de_op op_fdivW r_fdiv (de_var 0) (de_int)))
  (dss_one (ds_set 1 sc_needs.nd (de_op op_addA r_add (de_var 1) (de_int))))))
  (dss_one (ds_ret (de_var 1))))))
/-! ### need_bits -/
theorem sc_need_bits : FnScope ["bits", "sign"] ["bits"] (defScope s_need_bits) := ⟨rfl, rfl, rfl, by decide +kernel, rfl, by decide +kernel, by decide +kernel⟩
def b_need_bits : Sto → Out := ifS (notT (tst (app allD (consA (lstE (lcF (itS (vr 0)) (tgN 1) [1] (yes) (bin inA (vr 1) (cst (.str [48, 49]))))) (nilA))))) (rais "BadBits") (nopS)
def d_need_bits : List D → Res D := runF 1 1 b_need_bits
theorem ok_need_bits (tx : Txt K mg CT c0 c1 c2 c3 c4 c5 c6) : FnP P w K mg base 1 "need_bits" ["bits"] d_need_bits := fnP 1 1 tx.f_need_bits sc_need_bits rfl rfl (fun f cdv A outer s H E hr => dss_one (ds_if (dt_not (dt_val (de_callB (cr_all rfl) rc_all tx.b_all (by decide +kernel) (da_cons (dl_de (dl_lc (own := [("sign", 1)]) rfl sc_need_bits.nd (di_seq (de_var 0)) (blkOk_by (by kernel_rfl)) (tgok_name 1) (fun _ _ _ _ _ => pg_name (i := 1) sc_need_bits.nd rfl (by first | exact Or.inl rfl | exact Or.inr rfl)) (fun _ _ _ _ _ => dts_nil) (fun _ _ _ _ _ => de_cmp op_inA r_inB (de_var 1) (de_str) rfl))) (da_nil))))) (dss_one (ds_raiseP tx.tab (by decide +kernel) rfl tk_def)) (dss_nil)))
/-! ### in_bits -/
theorem sc_in_bits : FnScope ["number", "wide", "found", "turn"] ["number", "wide"] (defScope s_in_bits) := ⟨rfl, rfl, rfl, by decide +kernel, rfl, by decide +kernel, by decide +kernel⟩
def b_in_bits : Sto → Out := seqS (asg 2 (cst (.str [])))
  (seqS (forF (rngA asRng1 (consA (vr 1) (nilA))) (tgN 3) (seqS (asg 2 (bin addD (app strD (consA (bin modD (vr 0) (cst (.int 2))) (nilA))) (vr 2)))
  (asg 0 (bin fdivD (vr 0) (cst (.int 2))))))
  (retS (vr 2)))
def d_in_bits : List D → Res D := runF 2 2 b_in_bits
theorem ok_in_bits (tx : Txt K mg CT c0 c1 c2 c3 c4 c5 c6) : FnP P w K mg base 1 "in_bits" ["number", "wide"] d_in_bits := fnP 2 2 tx.f_in_bits sc_in_bits rfl rfl (fun f cdv A outer s H E hr => dss_cons (ds_set 2 sc_in_bits.nd (de_str))
  (dss_cons (ds_for (passes_of rfl) rfl (di_range1 tx.b_range (da_cons (de_var 1) (da_nil))) (dg_name 3 sc_in_bits.nd) (dss_cons (ds_set 2 sc_in_bits.nd (de_op op_addA r_add (de_callTy call_str_int rc_str tx.b_str (by decide +kernel) (da_cons (de_op op_mod r_mod (de_var 0) (de_int)) (da_nil))) (de_var 2)))
  (dss_one (ds_set 0 sc_in_bits.nd (de_op op_fdivW r_fdiv (de_var 0) (de_int))))))
  (dss_one (ds_ret (de_var 2)))))
/-! ### pack -/
theorem sc_pack : FnScope ["numbers", "wide", "number"] ["numbers", "wide"] (defScope s_pack) := ⟨rfl, rfl, rfl, by decide +kernel, rfl, by decide +kernel, by decide +kernel⟩
def b_pack : Sto → Out := seqS (forF (itS (vr 0)) (tgN 2) (ifS (tst (bin gtD (app d_needs (consA (vr 2) (nilA))) (vr 1))) (rais "BadNumber") (nopS)))
  (retS (binS joinD (cst (.str [])) (lstE (lcF (itS (vr 0)) (tgN 2) [2] (yes) (app d_in_bits (consA (vr 2) (consA (vr 1) (nilA))))))))
def d_pack : List D → Res D := runF 2 1 b_pack
theorem ok_pack (tx : Txt K mg CT c0 c1 c2 c3 c4 c5 c6) : FnP P w K mg base 2 "pack" ["numbers", "wide"] d_pack := fnP 2 1 tx.f_pack sc_pack rfl rfl (fun f cdv A outer s H E hr => dss_cons (ds_for (passes_of rfl) rfl (di_seq (de_var 0)) (dg_name 2 sc_pack.nd) (dss_one (ds_if (dt_cmp op_gt r_gt (de_callP (ok_needs tx) (hr.mono (by decide)) tk_def (da_cons (de_var 2) (da_nil))) (de_var 1) (nomark _)) (dss_one (ds_raiseP tx.tab (by decide +kernel) rfl tk_def)) (dss_nil))))
  (dss_one (ds_ret (de_join (de_str) (dl_de (dl_lc (own := [("number", 2)]) rfl sc_pack.nd (di_seq (de_var 0)) (blkOk_by (by kernel_rfl)) (tgok_name 2) (fun _ _ _ _ _ => pg_name (i := 2) sc_pack.nd rfl (by first | exact Or.inl rfl | exact Or.inr rfl)) (fun _ _ _ _ _ => dts_nil) (fun _ _ _ _ _ => de_callP (ok_in_bits tx) (hr.mono (by decide)) tk_none (da_cons (de_var 2) (da_cons (de_var 1) (da_nil))))))))))
/-! ### Row.__init__ -/
theorem sc_Row___init__ : FnScope ["self", "bits", "counts", "so_far", "block"] ["self", "bits"] (defScope s_Row___init__) := ⟨rfl, rfl, rfl, by decide +kernel, rfl, by decide +kernel, by decide +kernel⟩
def b_Row___init__ : Sto → Out := seqS (drp (app d_need_bits (consA (vr 1) (nilA))))
  (seqS (ifS (tst (bin gtD (app lenD (consA (vr 1) (nilA))) (cst (.int (4096))))) (rais "TooMany") (nopS))
  (seqS (fstS 0 "Row" "own" (vr 1))
  (seqS (fstS 0 "Row" "wide" (app d_needs (consA (app lenD (consA (vr 1) (nilA))) (nilA))))
  (seqS (fstS 0 "Row" "whole_blocks" (bin fdivD (app lenD (consA (vr 1) (nilA))) (cst (.int (32)))))
  (seqS (asgN 2 (newA (nilA)))
  (seqS (asg 3 (cst (.int 0)))
  (seqS (forF (rngA asRng1 (consA (fldO 0 "Row" "whole_blocks") (nilA))) (tgN 4) (seqS (asg 3 (bin addD (vr 3) (binS countD (slc (vr 1) (part (bin mulD (vr 4) (cst (.int (32))))) (part (bin mulD (bin addD (vr 4) (cst (.int 1))) (cst (.int (32)))))) (cst (.str [49])))))
  (appS 2 (vr 3))))
  (seqS (frzS 2 (fstS 0 "Row" "counts" (app d_pack (consA (vr 2) (consA (fldO 0 "Row" "wide") (nilA))))))
  (fstS 0 "Row" "seen" (cst (.int 0)))))))))))
def d_Row___init__ : List D → Res D := runN "Row" 1 3 b_Row___init__
theorem ok_Row___init__ (tx : Txt K mg CT c0 c1 c2 c3 c4 c5 c6) : MkN P w K mg base 3 "Row" ["self", "bits"] d_Row___init__ := mkN_of 1 3 tx.f_Row___init__ sc_Row___init__ rfl rfl (fun f cdv A outer s H E hr => dss_cons (ds_expr (de_callP (ok_need_bits tx) (hr.mono (by decide)) tk_def (da_cons (de_var 1) (da_nil))))
  (dss_cons (ds_if (dt_cmp op_gt r_gt (de_callB call_len rc_len tx.b_len PySem.boot_len (da_cons (de_var 1) (da_nil))) (de_gintE tx.k_MOST) (nomark _)) (dss_one (ds_raiseP tx.tab (by decide +kernel) rfl tk_def)) (dss_nil))
  (dss_cons (ds_fst 0 (fld_of tx.c_Row (by decide +kernel)) (de_var 1))
  (dss_cons (ds_fst 0 (fld_of tx.c_Row (by decide +kernel)) (de_callP (ok_needs tx) (hr.mono (by decide)) tk_def (da_cons (de_callB call_len rc_len tx.b_len PySem.boot_len (da_cons (de_var 1) (da_nil))) (da_nil))))
  (dss_cons (ds_fst 0 (fld_of tx.c_Row (by decide +kernel)) (de_op op_fdivW r_fdiv (de_callB call_len rc_len tx.b_len PySem.boot_len (da_cons (de_var 1) (da_nil))) (de_gintE tx.k_BLOCK)))
  (dss_cons (ds_setN 2 sc_Row___init__.nd (dl_lst (da_nil)))
  (dss_cons (ds_set 3 sc_Row___init__.nd (de_int))
  (dss_cons (ds_for (passes_of rfl) rfl (di_range1 tx.b_range (da_cons (de_fldO 0 (fld_of tx.c_Row (by decide +kernel))) (da_nil))) (dg_name 4 sc_Row___init__.nd) (dss_cons (ds_set 3 sc_Row___init__.nd (de_op op_addA r_add (de_var 3) (de_count (de_slice (de_var 1) (do_some (de_op op_mulA r_mul (de_var 4) (de_gintE tx.k_BLOCK))) (do_some (de_op op_mulA r_mul (de_op op_addA r_add (de_var 4) (de_int)) (de_gintE tx.k_BLOCK)))) (de_str))))
  (dss_one (ds_app 2 (de_var 3)))))
  (dss_cons (ds_frz 2 (ds_fst 0 (fld_of tx.c_Row (by decide +kernel)) (de_callP (ok_pack tx) (hr.mono (by decide)) tk_def (da_cons (de_var 2) (da_cons (de_fldO 0 (fld_of tx.c_Row (by decide +kernel))) (da_nil))))))
  (dss_one (ds_fst 0 (fld_of tx.c_Row (by decide +kernel)) (de_int))))))))))))
/-! ### Row.room -/
theorem sc_Row_room : FnScope ["self"] ["self"] (defScope s_Row_room) := ⟨rfl, rfl, rfl, by decide +kernel, rfl, by decide +kernel, by decide +kernel⟩
def b_Row_room : Sto → Out := retS (bin addD (app lenD (consA (un (fldD "Row" "own") (vr 0)) (nilA))) (app lenD (consA (un (fldD "Row" "counts") (vr 0)) (nilA))))
def d_Row_room : List D → Res D := runF 1 0 b_Row_room
theorem ok_Row_room (tx : Txt K mg CT c0 c1 c2 c3 c4 c5 c6) : MtP P w K mg base 1 "Row" "room" ["self"] d_Row_room := mtP 1 0 tx.f_Row_room sc_Row_room rfl rfl (fun f cdv A outer s H E hr => dss_one (ds_ret (de_op op_addA r_add (de_callB call_len rc_len tx.b_len PySem.boot_len (da_cons (de_fld (fld_of tx.c_Row (by decide +kernel)) (de_var 0)) (da_nil))) (de_callB call_len rc_len tx.b_len PySem.boot_len (da_cons (de_fld (fld_of tx.c_Row (by decide +kernel)) (de_var 0)) (da_nil))))))
/-! ### Row.looks -/
theorem sc_Row_looks : FnScope ["self"] ["self"] (defScope s_Row_looks) := ⟨rfl, rfl, rfl, by decide +kernel, rfl, by decide +kernel, by decide +kernel⟩
def b_Row_looks : Sto → Out := retS (un (fldD "Row" "seen") (vr 0))
def d_Row_looks : List D → Res D := runF 1 0 b_Row_looks
theorem ok_Row_looks (tx : Txt K mg CT c0 c1 c2 c3 c4 c5 c6) : MtP P w K mg base 1 "Row" "looks" ["self"] d_Row_looks := mtP 1 0 tx.f_Row_looks sc_Row_looks rfl rfl (fun f cdv A outer s H E hr => dss_one (ds_ret (de_fld (fld_of tx.c_Row (by decide +kernel)) (de_var 0))))
/-! ### _law_cell -/
theorem sc__law_cell : FnScope ["script", "k"] ["script", "k"] (defScope s__law_cell) := ⟨rfl, rfl, rfl, by decide +kernel, rfl, by decide +kernel, by decide +kernel⟩
def b__law_cell : Sto → Out := seqS (ifS (tst (bin eqD (vr 0) (app mkL (nilA)))) (retS (bin mulD (vr 1) (cst (.int 7919)))) (nopS))
  (retS (bin addD (bin ixD (vr 0) (bin modD (vr 1) (app lenD (consA (vr 0) (nilA))))) (bin mulD (bin fdivD (vr 1) (app lenD (consA (vr 0) (nilA)))) (cst (.int 104729)))))
def d__law_cell : List D → Res D := runF 2 0 b__law_cell
theorem ok__law_cell (tx : Txt K mg CT c0 c1 c2 c3 c4 c5 c6) : FnP P w K mg base 1 "_law_cell" ["script", "k"] d__law_cell := fnP 2 0 tx.f__law_cell sc__law_cell rfl rfl (fun f cdv A outer s H E hr => dss_cons (ds_if (dt_cmp (op_eqA hr.units) r_eq (de_var 0) (de_lst (da_nil)) (nomark _)) (dss_one (ds_ret (de_op op_mulA r_mul (de_var 1) (de_int)))) (dss_nil))
  (dss_one (ds_ret (de_op op_addA r_add (de_ix (de_var 0) (de_op op_mod r_mod (de_var 1) (de_callB call_len rc_len tx.b_len PySem.boot_len (da_cons (de_var 0) (da_nil))))) (de_op op_mulA r_mul (de_op op_fdivW r_fdiv (de_var 1) (de_callB call_len rc_len tx.b_len PySem.boot_len (da_cons (de_var 0) (da_nil)))) (de_int))))))
/-! ### _law_drawn -/
theorem sc__law_drawn : FnScope ["cell", "k", "more"] ["cell", "k"] (defScope s__law_drawn) := ⟨rfl, rfl, rfl, by decide +kernel, rfl, by decide +kernel, by decide +kernel⟩
def b__law_drawn : Sto → Out := seqS (asg 2 (bin modD (bin addD (bin mulD (vr 0) (cst (.int 6364136223846793005))) (bin mulD (bin addD (vr 1) (cst (.int 1))) (cst (.int 1442695040888963407)))) (cst (.int 340282366920938463463374607431768211507))))
  (seqS (asg 2 (bin modD (bin mulD (vr 2) (vr 2)) (cst (.int 340282366920938463463374607431768211297))))
  (seqS (asg 2 (bin mulD (bin mulD (bin addD (bin modD (vr 2) (cst (.int 18446744073709551557))) (cst (.int 1))) (bin addD (bin fdivD (vr 2) (cst (.int 18446744073709551557))) (cst (.int 1)))) (vr 2)))
  (retS (bin modD (vr 2) (cst (.int 340282366920938463463374607431768211507))))))
def d__law_drawn : List D → Res D := runF 2 1 b__law_drawn
theorem ok__law_drawn (tx : Txt K mg CT c0 c1 c2 c3 c4 c5 c6) : FnP P w K mg base 1 "_law_drawn" ["cell", "k"] d__law_drawn := fnP 2 1 tx.f__law_drawn sc__law_drawn rfl rfl (fun f cdv A outer s H E hr => dss_cons (ds_set 2 sc__law_drawn.nd (de_op op_mod r_mod (de_op op_addA r_add (de_op op_mulA r_mul (de_var 0) (de_int)) (de_op op_mulA r_mul (de_op op_addA r_add (de_var 1) (de_int)) (de_int))) (de_int)))
  (dss_cons (ds_set 2 sc__law_drawn.nd (de_op op_mod r_mod (de_op op_mulA r_mul (de_var 2) (de_var 2)) (de_int)))
  (dss_cons (ds_set 2 sc__law_drawn.nd (de_op op_mulA r_mul (de_op op_mulA r_mul (de_op op_addA r_add (de_op op_mod r_mod (de_var 2) (de_int)) (de_int)) (de_op op_addA r_add (de_op op_fdivW r_fdiv (de_var 2) (de_int)) (de_int))) (de_var 2)))
  (dss_one (ds_ret (de_op op_mod r_mod (de_var 2) (de_int)))))))
/-! ### _law_needs -/
theorem sc__law_needs : FnScope ["number", "found"] ["number"] (defScope s__law_needs) := ⟨rfl, rfl, rfl, by decide +kernel, rfl, by decide +kernel, by decide +kernel⟩
def b__law_needs : Sto → Out := seqS (asg 1 (cst (.int 0)))
  (seqS (whS (tst (bin gtD (vr 0) (cst (.int 0)))) (seqS (asg 0 (bin fdivD (vr 0) (cst (.int 2))))
  (asg 1 (bin addD (vr 1) (cst (.int 1))))) 2000000)
  (retS (vr 1)))
def d__law_needs : List D → Res D := runF 1 1 b__law_needs
theorem ok__law_needs (tx : Txt K mg CT c0 c1 c2 c3 c4 c5 c6) : FnP P w K mg base 1 "_law_needs" ["number"] d__law_needs := fnP 1 1 tx.f__law_needs sc__law_needs rfl rfl (fun f cdv A outer s H E hr => dss_cons (ds_set 1 sc__law_needs.nd (de_int))
  (dss_cons (ds_while 2000000 (passes_of rfl) (dt_cmp op_gt r_gt (de_var 0) (de_int) (nomark _)) (dss_cons (ds_set 0 sc__law_needs.nd (de_op op_fdivW r_fdiv (de_var 0) (de_int)))
  (dss_one (ds_set 1 sc__law_needs.nd (de_op op_addA r_add (de_var 1) (de_int))))))
  (dss_one (ds_ret (de_var 1)))))
/-! ### _law_bits -/
theorem sc__law_bits : FnScope ["number", "wide", "found", "turn"] ["number", "wide"] (defScope s__law_bits) := ⟨rfl, rfl, rfl, by decide +kernel, rfl, by decide +kernel, by decide +kernel⟩
def b__law_bits : Sto → Out := seqS (asg 2 (cst (.str [])))
  (seqS (forF (rngA asRng1 (consA (vr 1) (nilA))) (tgN 3) (seqS (asg 2 (bin addD (app strD (consA (bin modD (vr 0) (cst (.int 2))) (nilA))) (vr 2)))
  (asg 0 (bin fdivD (vr 0) (cst (.int 2))))))
  (retS (vr 2)))
def d__law_bits : List D → Res D := runF 2 2 b__law_bits
theorem ok__law_bits (tx : Txt K mg CT c0 c1 c2 c3 c4 c5 c6) : FnP P w K mg base 1 "_law_bits" ["number", "wide"] d__law_bits := fnP 2 2 tx.f__law_bits sc__law_bits rfl rfl (fun f cdv A outer s H E hr => dss_cons (ds_set 2 sc__law_bits.nd (de_str))
  (dss_cons (ds_for (passes_of rfl) rfl (di_range1 tx.b_range (da_cons (de_var 1) (da_nil))) (dg_name 3 sc__law_bits.nd) (dss_cons (ds_set 2 sc__law_bits.nd (de_op op_addA r_add (de_callTy call_str_int rc_str tx.b_str (by decide +kernel) (da_cons (de_op op_mod r_mod (de_var 0) (de_int)) (da_nil))) (de_var 2)))
  (dss_one (ds_set 0 sc__law_bits.nd (de_op op_fdivW r_fdiv (de_var 0) (de_int))))))
  (dss_one (ds_ret (de_var 2)))))
/-! ### Row.need -/
theorem sc_Row_need : FnScope ["self", "good"] ["self", "good"] (defScope s_Row_need) := ⟨rfl, rfl, rfl, by decide +kernel, rfl, by decide +kernel, by decide +kernel⟩
def b_Row_need : Sto → Out := ifS (notT (tst (vr 1))) (rais "BadPlace") (nopS)
def d_Row_need : List D → Res D := runF 2 0 b_Row_need
theorem ok_Row_need (tx : Txt K mg CT c0 c1 c2 c3 c4 c5 c6) : MtP P w K mg base 1 "Row" "need" ["self", "good"] d_Row_need := mtP 2 0 tx.f_Row_need sc_Row_need rfl rfl (fun f cdv A outer s H E hr => dss_one (ds_if (dt_not (dt_val (de_var 1))) (dss_one (ds_raiseP tx.tab (by decide +kernel) rfl tk_def)) (dss_nil)))
/-! ### Row.look -/
theorem sc_Row_look : FnScope ["self", "place"] ["self", "place"] (defScope s_Row_look) := ⟨rfl, rfl, rfl, by decide +kernel, rfl, by decide +kernel, by decide +kernel⟩
def b_Row_look : Addr → Sto → OM := seqM (fstM 0 "seen" (rdE 0 (bin addD (un (fldD "Row" "seen") (vr 0)) (cst (.int 1)))))
  (retM 0 (rdE 0 (app intD (consA (bin ixD (un (fldD "Row" "own") (vr 0)) (vr 1)) (nilA)))))
def m_Row_look : Addr → List D → RM D := runM 2 0 b_Row_look
theorem ok_Row_look (tx : Txt K mg CT c0 c1 c2 c3 c4 c5 c6) : MtM P w K mg base 1 "Row" "look" ["self", "place"] m_Row_look := mtM 2 0 tx.f_Row_look sc_Row_look rfl rfl (fun f cdv A outer s H E hr => dsms_cons (dsm_fst (fld_of tx.c_Row (by decide +kernel)) (dem_rd (de_op op_addA r_add (de_fld (fld_of tx.c_Row (by decide +kernel)) (de_var 0)) (de_int))))
  (dsms_one (dsm_ret (dem_rd (de_callTy call_intA rc_int tx.b_int (by decide +kernel) (da_cons (de_ix (de_fld (fld_of tx.c_Row (by decide +kernel)) (de_var 0)) (de_var 1)) (da_nil)))))))
/-! ### out_of -/
theorem sc_out_of : FnScope ["bits", "found", "sign"] ["bits"] (defScope s_out_of) := ⟨rfl, rfl, rfl, by decide +kernel, rfl, by decide +kernel, by decide +kernel⟩
def b_out_of : Sto → Out := seqS (asg 1 (cst (.int 0)))
  (seqS (forF (itS (vr 0)) (tgN 2) (asg 1 (bin addD (bin mulD (cst (.int 2)) (vr 1)) (app intD (consA (vr 2) (nilA))))))
  (retS (vr 1)))
def d_out_of : List D → Res D := runF 1 2 b_out_of
theorem ok_out_of (tx : Txt K mg CT c0 c1 c2 c3 c4 c5 c6) : FnP P w K mg base 1 "out_of" ["bits"] d_out_of := fnP 1 2 tx.f_out_of sc_out_of rfl rfl (fun f cdv A outer s H E hr => dss_cons (ds_set 1 sc_out_of.nd (de_int))
  (dss_cons (ds_for (passes_of rfl) rfl (di_seq (de_var 0)) (dg_name 2 sc_out_of.nd) (dss_one (ds_set 1 sc_out_of.nd (de_op op_addA r_add (de_op op_mulA r_mul (de_int) (de_var 1)) (de_callTy call_intA rc_int tx.b_int (by decide +kernel) (da_cons (de_var 2) (da_nil)))))))
  (dss_one (ds_ret (de_var 1)))))
/-! ### need_packed -/
theorem sc_need_packed : FnScope ["bits", "wide"] ["bits", "wide"] (defScope s_need_packed) := ⟨rfl, rfl, rfl, by decide +kernel, rfl, by decide +kernel, by decide +kernel⟩
def b_need_packed : Sto → Out := seqS (drp (app d_need_bits (consA (vr 0) (nilA))))
  (ifS (andT (tst (bin gtD (app lenD (consA (vr 0) (nilA))) (cst (.int 0)))) (orT (tst (bin eqD (vr 1) (cst (.int 0)))) (tst (bin gtD (bin modD (app lenD (consA (vr 0) (nilA))) (vr 1)) (cst (.int 0)))))) (rais "BadBits") (nopS))
def d_need_packed : List D → Res D := runF 2 0 b_need_packed
theorem ok_need_packed (tx : Txt K mg CT c0 c1 c2 c3 c4 c5 c6) : FnP P w K mg base 2 "need_packed" ["bits", "wide"] d_need_packed := fnP 2 0 tx.f_need_packed sc_need_packed rfl rfl (fun f cdv A outer s H E hr => dss_cons (ds_expr (de_callP (ok_need_bits tx) (hr.mono (by decide)) tk_def (da_cons (de_var 0) (da_nil))))
  (dss_one (ds_if (dw_pt (dw_and (dt_cmp op_gt r_gt (de_callB call_len rc_len tx.b_len PySem.boot_len (da_cons (de_var 0) (da_nil))) (de_int) (nomark _)) (dw_and1 (dw_pt (dw_or (dt_cmp (op_eqA hr.units) r_eq (de_var 1) (de_int) (nomark _)) (dw_or1 (dt_cmp op_gt r_gt (de_op op_mod r_mod (de_callB call_len rc_len tx.b_len PySem.boot_len (da_cons (de_var 0) (da_nil))) (de_var 1)) (de_int) (nomark _)))))))) (dss_one (ds_raiseP tx.tab (by decide +kernel) rfl tk_def)) (dss_nil))))
/-! ### number_at -/
theorem sc_number_at : FnScope ["bits", "wide", "place"] ["bits", "wide", "place"] (defScope s_number_at) := ⟨rfl, rfl, rfl, by decide +kernel, rfl, by decide +kernel, by decide +kernel⟩
def b_number_at : Sto → Out := seqS (drp (app d_need_packed (consA (vr 0) (consA (vr 1) (nilA)))))
  (seqS (ifS (orT (notT (tst (bin leD (cst (.int 0)) (vr 2)))) (orT (tst (bin gtD (bin mulD (bin addD (vr 2) (cst (.int 1))) (vr 1)) (app lenD (consA (vr 0) (nilA))))) (tst (bin eqD (vr 0) (cst (.str [])))))) (rais "BadPlace") (nopS))
  (retS (app d_out_of (consA (slc (vr 0) (part (bin mulD (vr 2) (vr 1))) (part (bin addD (bin mulD (vr 2) (vr 1)) (vr 1)))) (nilA)))))
def d_number_at : List D → Res D := runF 3 0 b_number_at
theorem ok_number_at (tx : Txt K mg CT c0 c1 c2 c3 c4 c5 c6) : FnP P w K mg base 3 "number_at" ["bits", "wide", "place"] d_number_at := fnP 3 0 tx.f_number_at sc_number_at rfl rfl (fun f cdv A outer s H E hr => dss_cons (ds_expr (de_callP (ok_need_packed tx) (hr.mono (by decide)) tk_def (da_cons (de_var 0) (da_cons (de_var 1) (da_nil)))))
  (dss_cons (ds_if (dw_pt (dw_or (dt_not (dt_cmp op_le r_le (de_int) (de_var 2) (nomark _))) (dw_or (dt_cmp op_gt r_gt (de_op op_mulA r_mul (de_op op_addA r_add (de_var 2) (de_int)) (de_var 1)) (de_callB call_len rc_len tx.b_len PySem.boot_len (da_cons (de_var 0) (da_nil))) (nomark _)) (dw_or1 (dt_cmp (op_eqA hr.units) r_eq (de_var 0) (de_str) (nomark _)))))) (dss_one (ds_raiseP tx.tab (by decide +kernel) rfl tk_def)) (dss_nil))
  (dss_one (ds_ret (de_callP (ok_out_of tx) (hr.mono (by decide)) tk_def (da_cons (de_slice (de_var 0) (do_some (de_op op_mulA r_mul (de_var 2) (de_var 1))) (do_some (de_op op_addA r_add (de_op op_mulA r_mul (de_var 2) (de_var 1)) (de_var 1)))) (da_nil)))))))
/-! ### Row.up_to -/
theorem sc_Row_up_to : FnScope ["self", "block"] ["self", "block"] (defScope s_Row_up_to) := ⟨rfl, rfl, rfl, by decide +kernel, rfl, by decide +kernel, by decide +kernel⟩
def b_Row_up_to : Sto → Out := seqS (ifS (tst (bin eqD (vr 1) (cst (.int 0)))) (retS (cst (.int 0))) (nopS))
  (retS (app d_number_at (consA (un (fldD "Row" "counts") (vr 0)) (consA (un (fldD "Row" "wide") (vr 0)) (consA (bin subD (vr 1) (cst (.int 1))) (nilA))))))
def d_Row_up_to : List D → Res D := runF 2 0 b_Row_up_to
theorem ok_Row_up_to (tx : Txt K mg CT c0 c1 c2 c3 c4 c5 c6) : MtP P w K mg base 4 "Row" "up_to" ["self", "block"] d_Row_up_to := mtP 2 0 tx.f_Row_up_to sc_Row_up_to rfl rfl (fun f cdv A outer s H E hr => dss_cons (ds_if (dt_cmp (op_eqA hr.units) r_eq (de_var 1) (de_int) (nomark _)) (dss_one (ds_ret (de_int))) (dss_nil))
  (dss_one (ds_ret (de_callP (ok_number_at tx) (hr.mono (by decide)) tk_def (da_cons (de_fld (fld_of tx.c_Row (by decide +kernel)) (de_var 0)) (da_cons (de_fld (fld_of tx.c_Row (by decide +kernel)) (de_var 0)) (da_cons (de_op op_sub r_sub (de_var 1) (de_int)) (da_nil))))))))
/-! ### Row.ones -/
theorem sc_Row_ones : FnScope ["self", "place", "block", "at"] ["self", "place"] (defScope s_Row_ones) := ⟨rfl, rfl, rfl, by decide +kernel, rfl, by decide +kernel, by decide +kernel⟩
def b_Row_ones : Addr → Sto → OM := seqM (drpM 0 (rdE 0 (mth "Row" "need" d_Row_need (vr 0) (consA (chn leD leD (cst (.int 0)) (vr 1) (app lenD (consA (un (fldD "Row" "own") (vr 0)) (nilA)))) (nilA)))))
  (seqM (opS 0 (asg 2 (bin fdivD (vr 1) (cst (.int (32))))))
  (retM 0 (binM 0 addD (rdE 0 (mth "Row" "up_to" d_Row_up_to (vr 0) (consA (vr 2) (nilA)))) (appM 0 sumD (consM 0 (lcM 0 3 (consM 0 (opE 0 (bin mulD (vr 2) (cst (.int (32))))) (consM 0 (opE 0 (vr 1)) (nilM 0))) (mthM 0 "look" m_Row_look (consM 0 (opE 0 (vr 3)) (nilM 0)))) (nilM 0))))))
def m_Row_ones : Addr → List D → RM D := runM 2 2 b_Row_ones
theorem ok_Row_ones (tx : Txt K mg CT c0 c1 c2 c3 c4 c5 c6) : MtM P w K mg base 5 "Row" "ones" ["self", "place"] m_Row_ones := mtM 2 2 tx.f_Row_ones sc_Row_ones rfl rfl (fun f cdv A outer s H E hr => dsms_cons (dsm_expr (dem_rd (de_mth (ok_Row_need tx) (hr.mono (by decide)) tk_def (de_var 0) (da_cons (de_chn op_le r_le op_le r_le (de_int) (de_var 1) (de_callB call_len rc_len tx.b_len PySem.boot_len (da_cons (de_fld (fld_of tx.c_Row (by decide +kernel)) (de_var 0)) (da_nil)))) (da_nil)))))
  (dsms_cons (dsm_op (ds_set 2 sc_Row_ones.nd (de_op op_fdivW r_fdiv (de_var 1) (de_gintE tx.k_BLOCK))))
  (dsms_one (dsm_ret (dem_bin op_addA r_add (dem_rd (de_mth (ok_Row_up_to tx) (hr.mono (by decide)) tk_def (de_var 0) (da_cons (de_var 2) (da_nil)))) (dem_callB (cr_sum rfl) rc_sum tx.b_sum (by decide +kernel) (dam_cons (dem_lc 3 rfl sc_Row_ones.nd tx.b_range (dam_cons (dem_op (de_op op_mulA r_mul (de_var 2) (de_gintE tx.k_BLOCK))) (dam_cons (dem_op (de_var 1)) (dam_nil))) (blkOk_by (by kernel_rfl)) (fun _ _ _ _ _ => pg_name (i := 3) sc_Row_ones.nd rfl (by first | exact Or.inl rfl | exact Or.inr rfl)) (fun _ _ _ _ _ => dem_mth (ok_Row_look tx) (hr.mono (by decide)) tk_none (dam_cons (dem_op (de_var 3)) (dam_nil)))) (dam_nil))))))))
/-! ### Row.noughts -/
theorem sc_Row_noughts : FnScope ["self", "place"] ["self", "place"] (defScope s_Row_noughts) := ⟨rfl, rfl, rfl, by decide +kernel, rfl, by decide +kernel, by decide +kernel⟩
def b_Row_noughts : Addr → Sto → OM := retM 0 (binM 0 subD (opE 0 (vr 1)) (mthM 0 "ones" m_Row_ones (consM 0 (opE 0 (vr 1)) (nilM 0))))
def m_Row_noughts : Addr → List D → RM D := runM 2 0 b_Row_noughts
theorem ok_Row_noughts (tx : Txt K mg CT c0 c1 c2 c3 c4 c5 c6) : MtM P w K mg base 6 "Row" "noughts" ["self", "place"] m_Row_noughts := mtM 2 0 tx.f_Row_noughts sc_Row_noughts rfl rfl (fun f cdv A outer s H E hr => dsms_one (dsm_ret (dem_bin op_sub r_sub (dem_op (de_var 1)) (dem_mth (ok_Row_ones tx) (hr.mono (by decide)) tk_def (dam_cons (dem_op (de_var 1)) (dam_nil))))))
/-! ### Row.ahead -/
theorem sc_Row_ahead : FnScope ["self", "block", "sign"] ["self", "block", "sign"] (defScope s_Row_ahead) := ⟨rfl, rfl, rfl, by decide +kernel, rfl, by decide +kernel, by decide +kernel⟩
def b_Row_ahead : Sto → Out := seqS (ifS (tst (bin eqD (vr 2) (cst (.int 1)))) (retS (mth "Row" "up_to" d_Row_up_to (vr 0) (consA (vr 1) (nilA)))) (nopS))
  (retS (bin subD (bin mulD (vr 1) (cst (.int (32)))) (mth "Row" "up_to" d_Row_up_to (vr 0) (consA (vr 1) (nilA)))))
def d_Row_ahead : List D → Res D := runF 3 0 b_Row_ahead
theorem ok_Row_ahead (tx : Txt K mg CT c0 c1 c2 c3 c4 c5 c6) : MtP P w K mg base 5 "Row" "ahead" ["self", "block", "sign"] d_Row_ahead := mtP 3 0 tx.f_Row_ahead sc_Row_ahead rfl rfl (fun f cdv A outer s H E hr => dss_cons (ds_if (dt_cmp (op_eqA hr.units) r_eq (de_var 2) (de_int) (nomark _)) (dss_one (ds_ret (de_mth (ok_Row_up_to tx) (hr.mono (by decide)) tk_def (de_var 0) (da_cons (de_var 1) (da_nil))))) (dss_nil))
  (dss_one (ds_ret (de_op op_sub r_sub (de_op op_mulA r_mul (de_var 1) (de_gintE tx.k_BLOCK)) (de_mth (ok_Row_up_to tx) (hr.mono (by decide)) tk_def (de_var 0) (da_cons (de_var 1) (da_nil)))))))
/-! ### Row.found_at -/
theorem sc_Row_found_at : FnScope ["self", "number", "sign", "low", "high", "middle", "left", "place"] ["self", "number", "sign"] (defScope s_Row_found_at) := ⟨rfl, rfl, rfl, by decide +kernel, rfl, by decide +kernel, by decide +kernel⟩
def wm_Row_found_at_1 : Addr → Sto → OM := seqM (opS 0 (asg 5 (bin fdivD (bin addD (bin addD (vr 3) (vr 4)) (cst (.int 1))) (cst (.int 2)))))
  (ifM 0 (rdT 0 (tst (bin leD (mth "Row" "ahead" d_Row_ahead (vr 0) (consA (vr 5) (consA (vr 2) (nilA)))) (vr 1)))) (opS 0 (asg 3 (vr 5))) (opS 0 (asg 4 (bin subD (vr 5) (cst (.int 1))))))
def b_Row_found_at : Addr → Sto → OM := seqM (drpM 0 (rdE 0 (mth "Row" "need" d_Row_need (vr 0) (consA (bin geD (vr 1) (cst (.int 0))) (nilA)))))
  (seqM (opS 0 (asg 3 (cst (.int 0))))
  (seqM (asgM 0 4 (rdE 0 (un (fldD "Row" "whole_blocks") (vr 0))))
  (seqM (whM 0 (opT 0 (tst (bin ltD (vr 3) (vr 4)))) (wm_Row_found_at_1) 2000000)
  (seqM (asgM 0 6 (rdE 0 (bin subD (vr 1) (mth "Row" "ahead" d_Row_ahead (vr 0) (consA (vr 3) (consA (vr 2) (nilA)))))))
  (seqM (forR 0 7 (consM 0 (opE 0 (bin mulD (vr 3) (cst (.int (32))))) (consM 0 (rdE 0 (app min2D (consA (app lenD (consA (un (fldD "Row" "own") (vr 0)) (nilA))) (consA (bin mulD (bin addD (vr 3) (cst (.int 1))) (cst (.int (32)))) (nilA))))) (nilM 0))) (ifM 0 (tstM 0 (binM 0 eqD (mthM 0 "look" m_Row_look (consM 0 (opE 0 (vr 7)) (nilM 0))) (opE 0 (vr 2)))) (seqM (opS 0 (ifS (tst (bin eqD (vr 6) (cst (.int 0)))) (retS (vr 7)) (nopS)))
  (opS 0 (asg 6 (bin subD (vr 6) (cst (.int 1)))))) (nopM)))
  (opS 0 (retS (cst .non))))))))
def m_Row_found_at : Addr → List D → RM D := runM 3 5 b_Row_found_at
theorem ok_Row_found_at (tx : Txt K mg CT c0 c1 c2 c3 c4 c5 c6) : MtM P w K mg base 6 "Row" "found_at" ["self", "number", "sign"] m_Row_found_at := mtM 3 5 tx.f_Row_found_at sc_Row_found_at rfl rfl (fun f cdv A outer s H E hr => dsms_cons (dsm_expr (dem_rd (de_mth (ok_Row_need tx) (hr.mono (by decide)) tk_def (de_var 0) (da_cons (de_cmp op_ge r_ge (de_var 1) (de_int) (nomark _)) (da_nil)))))
  (dsms_cons (dsm_op (ds_set 3 sc_Row_found_at.nd (de_int)))
  (dsms_cons (dsm_set 4 sc_Row_found_at.nd (dem_rd (de_fld (fld_of tx.c_Row (by decide +kernel)) (de_var 0))))
  (dsms_cons (dsm_while 2000000 (passes_of rfl) (dtm_op (dt_cmp op_ltA r_lt (de_var 3) (de_var 4) (nomark _))) (dsms_cons (dsm_op (ds_set 5 sc_Row_found_at.nd (de_op op_fdivW r_fdiv (de_op op_addA r_add (de_op op_addA r_add (de_var 3) (de_var 4)) (de_int)) (de_int))))
  (dsms_one (dsm_if (dtm_rd (dt_cmp op_le r_le (de_mth (ok_Row_ahead tx) (hr.mono (by decide)) tk_def (de_var 0) (da_cons (de_var 5) (da_cons (de_var 2) (da_nil)))) (de_var 1) (nomark _))) (dsms_one (dsm_op (ds_set 3 sc_Row_found_at.nd (de_var 5)))) (dsms_one (dsm_op (ds_set 4 sc_Row_found_at.nd (de_op op_sub r_sub (de_var 5) (de_int)))))))))
  (dsms_cons (dsm_set 6 sc_Row_found_at.nd (dem_rd (de_op op_sub r_sub (de_var 1) (de_mth (ok_Row_ahead tx) (hr.mono (by decide)) tk_def (de_var 0) (da_cons (de_var 3) (da_cons (de_var 2) (da_nil)))))))
  (dsms_cons (dsm_forR 7 (passes_of rfl) rfl tx.b_range (dam_cons (dem_op (de_op op_mulA r_mul (de_var 3) (de_gintE tx.k_BLOCK))) (dam_cons (dem_rd (de_callB (call_min2 rfl) rc_min2 tx.b_min (by decide +kernel) (da_cons (de_callB call_len rc_len tx.b_len PySem.boot_len (da_cons (de_fld (fld_of tx.c_Row (by decide +kernel)) (de_var 0)) (da_nil))) (da_cons (de_op op_mulA r_mul (de_op op_addA r_add (de_var 3) (de_int)) (de_gintE tx.k_BLOCK)) (da_nil))))) (dam_nil))) sc_Row_found_at.nd (dsms_one (dsm_if (dtm_cmp (op_eqA hr.units) r_eq (dem_mth (ok_Row_look tx) (hr.mono (by decide)) tk_def (dam_cons (dem_op (de_var 7)) (dam_nil))) (dem_op (de_var 2)) (nomark _)) (dsms_cons (dsm_op (ds_if (dt_cmp (op_eqA hr.units) r_eq (de_var 6) (de_int) (nomark _)) (dss_one (ds_ret (de_var 7))) (dss_nil)))
  (dsms_one (dsm_op (ds_set 6 sc_Row_found_at.nd (de_op op_sub r_sub (de_var 6) (de_int)))))) (dsms_nil))))
  (dsms_one (dsm_op (ds_ret (de_non))))))))))
/-! ### Row.one_at -/
theorem sc_Row_one_at : FnScope ["self", "number"] ["self", "number"] (defScope s_Row_one_at) := ⟨rfl, rfl, rfl, by decide +kernel, rfl, by decide +kernel, by decide +kernel⟩
def b_Row_one_at : Addr → Sto → OM := retM 0 (mthM 0 "found_at" m_Row_found_at (consM 0 (opE 0 (vr 1)) (consM 0 (opE 0 (cst (.int 1))) (nilM 0))))
def m_Row_one_at : Addr → List D → RM D := runM 2 0 b_Row_one_at
theorem ok_Row_one_at (tx : Txt K mg CT c0 c1 c2 c3 c4 c5 c6) : MtM P w K mg base 7 "Row" "one_at" ["self", "number"] m_Row_one_at := mtM 2 0 tx.f_Row_one_at sc_Row_one_at rfl rfl (fun f cdv A outer s H E hr => dsms_one (dsm_ret (dem_mth (ok_Row_found_at tx) (hr.mono (by decide)) tk_def (dam_cons (dem_op (de_var 1)) (dam_cons (dem_op (de_int)) (dam_nil))))))
/-! ### Row.nought_at -/
theorem sc_Row_nought_at : FnScope ["self", "number"] ["self", "number"] (defScope s_Row_nought_at) := ⟨rfl, rfl, rfl, by decide +kernel, rfl, by decide +kernel, by decide +kernel⟩
def b_Row_nought_at : Addr → Sto → OM := retM 0 (mthM 0 "found_at" m_Row_found_at (consM 0 (opE 0 (vr 1)) (consM 0 (opE 0 (cst (.int 0))) (nilM 0))))
def m_Row_nought_at : Addr → List D → RM D := runM 2 0 b_Row_nought_at
theorem ok_Row_nought_at (tx : Txt K mg CT c0 c1 c2 c3 c4 c5 c6) : MtM P w K mg base 7 "Row" "nought_at" ["self", "number"] m_Row_nought_at := mtM 2 0 tx.f_Row_nought_at sc_Row_nought_at rfl rfl (fun f cdv A outer s H E hr => dsms_one (dsm_ret (dem_mth (ok_Row_found_at tx) (hr.mono (by decide)) tk_def (dam_cons (dem_op (de_var 1)) (dam_cons (dem_op (de_int)) (dam_nil))))))
/-! ### _law_asked -/
theorem sc__law_asked : FnScope ["row", "way", "at"] ["row", "way", "at"] (defScope s__law_asked) := ⟨rfl, rfl, rfl, by decide +kernel, rfl, by decide +kernel, by decide +kernel⟩
def b__law_asked : Addr → Sto → OM := seqM (ifM 0 (opT 0 (tst (bin eqD (vr 1) (cst (.int 0))))) (retM 0 (mthM 0 "ones" m_Row_ones (consM 0 (opE 0 (vr 2)) (nilM 0)))) (nopM))
  (seqM (ifM 0 (opT 0 (tst (bin eqD (vr 1) (cst (.int 1))))) (retM 0 (mthM 0 "noughts" m_Row_noughts (consM 0 (opE 0 (vr 2)) (nilM 0)))) (nopM))
  (seqM (ifM 0 (opT 0 (tst (bin eqD (vr 1) (cst (.int 2))))) (retM 0 (mthM 0 "one_at" m_Row_one_at (consM 0 (opE 0 (vr 2)) (nilM 0)))) (nopM))
  (retM 0 (mthM 0 "nought_at" m_Row_nought_at (consM 0 (opE 0 (vr 2)) (nilM 0))))))
def m__law_asked : Addr → List D → RM D := runM 3 0 b__law_asked
theorem ok__law_asked (tx : Txt K mg CT c0 c1 c2 c3 c4 c5 c6) : FnM P w K mg base 8 "Row" "_law_asked" ["row", "way", "at"] m__law_asked := fnMP 3 0 tx.f__law_asked sc__law_asked rfl rfl (fun f cdv A outer s H E hr => dsms_cons (dsm_if (dtm_op (dt_cmp (op_eqA hr.units) r_eq (de_var 1) (de_int) (nomark _))) (dsms_one (dsm_ret (dem_mth (ok_Row_ones tx) (hr.mono (by decide)) tk_def (dam_cons (dem_op (de_var 2)) (dam_nil))))) (dsms_nil))
  (dsms_cons (dsm_if (dtm_op (dt_cmp (op_eqA hr.units) r_eq (de_var 1) (de_int) (nomark _))) (dsms_one (dsm_ret (dem_mth (ok_Row_noughts tx) (hr.mono (by decide)) tk_def (dam_cons (dem_op (de_var 2)) (dam_nil))))) (dsms_nil))
  (dsms_cons (dsm_if (dtm_op (dt_cmp (op_eqA hr.units) r_eq (de_var 1) (de_int) (nomark _))) (dsms_one (dsm_ret (dem_mth (ok_Row_one_at tx) (hr.mono (by decide)) tk_def (dam_cons (dem_op (de_var 2)) (dam_nil))))) (dsms_nil))
  (dsms_one (dsm_ret (dem_mth (ok_Row_nought_at tx) (hr.mono (by decide)) tk_def (dam_cons (dem_op (de_var 2)) (dam_nil))))))))
/-! ### _law_due -/
theorem sc__law_due : FnScope ["bits", "way", "at", "found", "place"] ["bits", "way", "at"] (defScope s__law_due) := ⟨rfl, rfl, rfl, by decide +kernel, rfl, by decide +kernel, by decide +kernel⟩
def b__law_due : Sto → Out := seqS (ifS (tst (bin ltD (vr 1) (cst (.int 2)))) (retS (binS countD (slc (vr 0) (noP) (part (vr 2))) (bin ixD (cst (.str [49, 48])) (vr 1)))) (nopS))
  (seqS (asg 3 (lstE (lcF (rngA asRng1 (consA (app lenD (consA (vr 0) (nilA))) (nilA))) (tgN 4) [4] (tst (bin eqD (bin ixD (vr 0) (vr 4)) (bin ixD (cst (.str [49, 48])) (bin subD (vr 1) (cst (.int 2)))))) (vr 4))))
  (retS (bin ixD (bin addD (slc (vr 3) (part (vr 2)) (noP)) (app mkL (consA (cst .non) (nilA)))) (cst (.int 0)))))
def d__law_due : List D → Res D := runF 3 2 b__law_due
theorem ok__law_due (tx : Txt K mg CT c0 c1 c2 c3 c4 c5 c6) : FnP P w K mg base 1 "_law_due" ["bits", "way", "at"] d__law_due := fnP 3 2 tx.f__law_due sc__law_due rfl rfl (fun f cdv A outer s H E hr => dss_cons (ds_if (dt_cmp op_ltA r_lt (de_var 1) (de_int) (nomark _)) (dss_one (ds_ret (de_count (de_slice (de_var 0) (do_none) (do_some (de_var 2))) (de_ix (de_str) (de_var 1))))) (dss_nil))
  (dss_cons (ds_setLc (own := [("place", 4)]) 3 rfl sc__law_due.nd (di_range1 tx.b_range (da_cons (de_callB call_len rc_len tx.b_len PySem.boot_len (da_cons (de_var 0) (da_nil))) (da_nil))) (blkOk_by (by kernel_rfl)) (tgok_name 4) (fun _ _ _ _ _ => pg_name (i := 4) sc__law_due.nd rfl (by first | exact Or.inl rfl | exact Or.inr rfl)) (fun _ _ _ _ _ => dts_one (dt_cmp (op_eqA hr.units) r_eq (de_ix (de_var 0) (de_var 4)) (de_ix (de_str) (de_op op_sub r_sub (de_var 1) (de_int))) (nomark _))) (fun _ _ _ _ _ => de_var 4) (sw_true rfl rfl rfl (by decide +kernel)))
  (dss_one (ds_ret (de_ix (de_op op_addA r_add (de_slice (de_var 3) (do_some (de_var 2)) (do_none)) (de_lst (da_cons (de_non) (da_nil)))) (de_int))))))
/-! ### law -/
theorem sc_law : FnScope ["script", "k", "more", "size", "bits", "row", "j", "here", "way", "at", "before"] ["script"] (defScope s_law) := ⟨rfl, rfl, rfl, by decide +kernel, rfl, by decide +kernel, by decide +kernel⟩
noncomputable def lm_law_1 : Addr → Sto → OM := seqM (opS 5 (asg 7 (app d__law_drawn (consA (vr 2) (consA (bin addD (cst (.int 40)) (vr 6)) (nilA))))))
  (seqM (opS 5 (asg 8 (bin modD (vr 7) (cst (.int 4)))))
  (seqM (opS 5 (asg 9 (bin modD (bin fdivD (vr 7) (cst (.int 8))) (bin addD (vr 3) (cst (.int 1))))))
  (seqM (asgM 5 10 (rdE 5 (mth "Row" "looks" d_Row_looks (vr 5) nilA)))
  (seqM (ifM 5 (tstM 5 (binM 5 neD (fncM 5 m__law_asked (consM 5 (opE 5 (vr 8)) (consM 5 (opE 5 (vr 9)) (nilM 5)))) (opE 5 (app d__law_due (consA (vr 4) (consA (vr 8) (consA (vr 9) (nilA)))))))) (opS 5 (retS (cst (.bl false)))) (nopM))
  (ifM 5 (rdT 5 (orT (tst (bin gtD (bin subD (mth "Row" "looks" d_Row_looks (vr 5) nilA) (vr 10)) (bin ixD (app mkL (consA (cst (.int 31)) (consA (cst (.int 31)) (consA (cst (.int 32)) (consA (cst (.int 32)) (nilA)))))) (vr 8)))) (tst (bin ltD (mth "Row" "looks" d_Row_looks (vr 5) nilA) (vr 10))))) (opS 5 (retS (cst (.bl false)))) (nopM))))))
noncomputable def lp_law_1 : Sto → Out := seqS (asg 2 (app d__law_drawn (consA (app d__law_cell (consA (vr 0) (consA (vr 1) (nilA)))) (consA (vr 1) (nilA)))))
  (seqS (asg 3 (bin modD (vr 2) (cst (.int 301))))
  (seqS (asg 4 (slc (binS joinD (cst (.str [])) (lstE (lcF (rngA asRng1 (consA (cst (.int 31)) (nilA))) (tgN 6) [6] (yes) (app d__law_bits (consA (bin modD (app d__law_drawn (consA (vr 2) (consA (vr 6) (nilA)))) (cst (.int 1024))) (consA (cst (.int 10)) (nilA))))))) (noP) (part (vr 3))))
  (newM 5 [6, 7, 8, 9, 10] d_Row___init__ (consA (vr 4) (nilA)) (seqM (ifM 5 (rdT 5 (tst (bin neD (mth "Row" "room" d_Row_room (vr 5) nilA) (bin addD (vr 3) (bin mulD (bin fdivD (vr 3) (cst (.int 32))) (app d__law_needs (consA (vr 3) (nilA)))))))) (opS 5 (retS (cst (.bl false)))) (nopM))
  (forM 5 6 (rngA asRng1 (consA (cst (.int 60)) (nilA))) (lm_law_1))))))
noncomputable def b_law : Sto → Out := seqS (forF (rngA asRng1 (consA (app max2D (consA (cst (.int 1)) (consA (app min2D (consA (cst (.int 3)) (consA (app lenD (consA (vr 0) (nilA))) (nilA)))) (nilA)))) (nilA))) (tgN 1) (lp_law_1))
  (retS (cst (.bl true)))
noncomputable def d_law : List D → Res D := runF 1 10 b_law
theorem ok_law {T : List (Addr × Str)} {f : Addr} {oc : Value} {od an : Option Addr} {osl : Array (Option Value)} {kV doc pm cdv ct : Value} (tx : Txt K mg CT c0 c1 c2 c3 c4 c5 c6) (lm : Lms K mg base T)
    (lk : K.lookup f = some ⟨oc, od, .func (PySem.W.fnOf "law" "law" (defArgs s_law) (defBody s_law) (defScope s_law) .none kV doc pm an cdv ct), osl⟩) (hcd : PySem.W.codeIn K cdv "law" = true) :
    FnOk P w K mg base (L2N.CX P w) 9 f (PySem.W.fnOf "law" "law" (defArgs s_law) (defBody s_law) (defScope s_law) .none kV doc pm an cdv ct) ["script"] (spL K mg T d_law) :=
  fnL 1 10 lk hcd sc_law rfl rfl (fun A outer s H E hr => dss_cons (ds_for (passes_of rfl) rfl (di_range1 tx.b_range (da_cons (de_callB (call_max2 rfl) rc_max2 tx.b_max (by decide +kernel) (da_cons (de_int) (da_cons (de_callB (call_min2 rfl) rc_min2 tx.b_min (by decide +kernel) (da_cons (de_int) (da_cons (de_callB call_len rc_len tx.b_len PySem.boot_len (da_cons (de_var 0) (da_nil))) (da_nil)))) (da_nil)))) (da_nil))) (dg_name 1 sc_law.nd) (dss_cons (ds_set 2 sc_law.nd (de_callP (ok__law_drawn tx) (hr.mono (by decide)) tk_def (da_cons (de_callP (ok__law_cell tx) (hr.mono (by decide)) tk_def (da_cons (de_var 0) (da_cons (de_var 1) (da_nil)))) (da_cons (de_var 1) (da_nil)))))
  (dss_cons (ds_set 3 sc_law.nd (de_op op_mod r_mod (de_var 2) (de_int)))
  (dss_cons (ds_set 4 sc_law.nd (de_slice (de_join (de_str) (dl_de (dl_lc (own := [("j", 6)]) rfl sc_law.nd (di_range1 tx.b_range (da_cons (de_int) (da_nil))) (blkOk_by (by kernel_rfl)) (tgok_name 6) (fun _ _ _ _ _ => pg_name (i := 6) sc_law.nd rfl (by first | exact Or.inl rfl | exact Or.inr rfl)) (fun _ _ _ _ _ => dts_nil) (fun _ _ _ _ _ => de_callP (ok__law_bits tx) (hr.mono (by decide)) tk_none (da_cons (de_op op_mod r_mod (de_callP (ok__law_drawn tx) (hr.mono (by decide)) tk_none (da_cons (de_var 2) (da_cons (de_var 6) (da_nil)))) (de_int)) (da_cons (de_int) (da_nil))))))) (do_none) (do_some (de_var 3))))
  (dss_new 5 [6, 7, 8, 9, 10] sc_law.nd (ok_Row___init__ tx) (hr.mono (by decide)) tk_def (da_cons (de_var 4) (da_nil)) (dsms_cons (dsm_if (dtm_rd (dt_cmp (op_neA hr.units) r_ne (de_mth0 (ok_Row_room tx) (hr.mono (by decide)) tk_def (de_var 5)) (de_op op_addA r_add (de_var 3) (de_op op_mulA r_mul (de_op op_fdivW r_fdiv (de_var 3) (de_int)) (de_callP (ok__law_needs tx) (hr.mono (by decide)) tk_def (da_cons (de_var 3) (da_nil))))) (nomark _))) (dsms_one (dsm_op (ds_ret (de_bl)))) (dsms_nil))
  (dsms_one (dsm_for 6 (passes_of rfl) rfl (di_range1 tx.b_range (da_cons (de_int) (da_nil))) sc_law.nd (dsms_cons (dsm_op (ds_set 7 sc_law.nd (de_callP (ok__law_drawn tx) (hr.mono (by decide)) tk_def (da_cons (de_var 2) (da_cons (de_op op_addA r_add (de_int) (de_var 6)) (da_nil))))))
  (dsms_cons (dsm_op (ds_set 8 sc_law.nd (de_op op_mod r_mod (de_var 7) (de_int))))
  (dsms_cons (dsm_op (ds_set 9 sc_law.nd (de_op op_mod r_mod (de_op op_fdivW r_fdiv (de_var 7) (de_int)) (de_op op_addA r_add (de_var 3) (de_int)))))
  (dsms_cons (dsm_set 10 sc_law.nd (dem_rd (de_mth0 (ok_Row_looks tx) (hr.mono (by decide)) tk_def (de_var 5))))
  (dsms_cons (dsm_if (dtm_cmp (op_neA hr.units) r_ne (dem_fn (ok__law_asked tx) (hr.mono (by decide)) tk_def (dam_cons (dem_op (de_var 8)) (dam_cons (dem_op (de_var 9)) (dam_nil)))) (dem_op (de_callP (ok__law_due tx) (hr.mono (by decide)) tk_def (da_cons (de_var 4) (da_cons (de_var 8) (da_cons (de_var 9) (da_nil)))))) (nomark _)) (dsms_one (dsm_op (ds_ret (de_bl)))) (dsms_nil))
  (dsms_one (dsm_if (dtm_rd (dw_pt (dw_or (dt_cmp op_gt r_gt (de_op op_sub r_sub (de_mth0 (ok_Row_looks tx) (hr.mono (by decide)) tk_def (de_var 5)) (de_var 10)) (de_ix (de_lst (da_cons (de_int) (da_cons (de_int) (da_cons (de_int) (da_cons (de_int) (da_nil)))))) (de_var 8)) (nomark _)) (dw_or1 (dt_cmp op_ltA r_lt (de_mth0 (ok_Row_looks tx) (hr.mono (by decide)) tk_def (de_var 5)) (de_var 10) (nomark _)))))) (dsms_one (dsm_op (ds_ret (de_bl)))) (dsms_nil))))))))))))))))
  (dss_one (ds_ret (de_bl))))
end
end Lw


set_option Elab.async false
set_option linter.all false
set_option maxRecDepth 100000
set_option maxHeartbeats 4000000
namespace Dn
open PySem PySem.Spec PyProof.Rows L2
/-! ### numbers and their bits -/
def nb (n : Nat) : Nat := if h : n = 0 then 0 else nb (n / 2) + 1
decreasing_by omega
theorem nb_zero : nb 0 = 0 := by rw [nb]; rfl
theorem nb_pos {n : Nat} (h : n ≠ 0) : nb n = nb (n / 2) + 1 := by rw [nb, dif_neg h]
theorem nb_le : ∀ (w n : Nat), nb n ≤ w ↔ n < 2 ^ w
  | 0, n => by
    by_cases h : n = 0
    · subst h; rw [nb_zero]; simp
    · rw [nb_pos h]; simp; omega
  | w + 1, n => by
    by_cases h : n = 0
    · subst h; rw [nb_zero]; exact ⟨fun _ => Nat.two_pow_pos _, fun _ => Nat.zero_le _⟩
    · rw [nb_pos h]
      have ih := nb_le w (n / 2)
      rw [Nat.pow_succ]
      constructor
      · intro q
        have := ih.mp (by omega)
        omega
      · intro q
        have := ih.mpr (by omega)
        omega
/-- the w low bits of a number, as a text of noughts and ones -/
def tb : Nat → Int → List Nat
  | 0, _ => []
  | w + 1, n => tb w (n / 2) ++ [48 + (n % 2).toNat]
theorem tb_len : ∀ (w : Nat) (n : Int), (tb w n).length = w
  | 0, _ => rfl
  | w + 1, n => by rw [tb, List.length_append, tb_len w]; rfl
def isBit (c : Nat) : Prop := c = 48 ∨ c = 49
instance (c : Nat) : Decidable (isBit c) := inferInstanceAs (Decidable (c = 48 ∨ c = 49))
theorem bit_lt {c : Nat} (h : isBit c) : c < 1114112 := by rcases h with rfl | rfl <;> decide
theorem tb_bit : ∀ (w : Nat) (n : Int), ∀ c ∈ tb w n, isBit c
  | 0, _, c, h => by cases h
  | w + 1, n, c, h => by
    rw [tb, List.mem_append] at h
    rcases h with h | h
    · exact tb_bit w _ c h
    · rw [List.mem_singleton] at h
      have : n % 2 = 0 ∨ n % 2 = 1 := by omega
      subst h
      rcases this with e | e <;> rw [e]
      · exact .inl rfl
      · exact .inr rfl
/-- the number that a text of bits tells, behind a -/
def vl (a : Int) (l : List Nat) : Int := l.foldl (fun a c => 2 * a + ((c - 48 : Nat) : Int)) a
theorem vl_app (a : Int) (l m : List Nat) : vl a (l ++ m) = vl (vl a l) m := List.foldl_append
theorem vl_tb : ∀ (w : Nat) (n : Int), 0 ≤ n → n < 2 ^ w → vl 0 (tb w n) = n
  | 0, n, h0, h1 => by
    have : n = 0 := by simpa using (show n = 0 by have : n < 1 := h1; omega)
    rw [this]; rfl
  | w + 1, n, h0, h1 => by
    rw [tb, vl_app, vl_tb w (n / 2) (by omega) (by rw [Int.pow_succ] at h1; omega)]
    show 2 * (n / 2) + (((48 + (n % 2).toNat) - 48 : Nat) : Int) = n
    omega
theorem tb_nat (w : Nat) (n : Int) (h : 0 ≤ n) : nb n.toNat ≤ w ↔ n < 2 ^ w := by
  rw [nb_le]
  have e : ((2 ^ w : Nat) : Int) = 2 ^ w := by norm_cast
  omega
/-! ### cutting -/
theorem sIx_nat {n d k : Nat} : HT.sIx n d (some (k : Int)) = min k n := HT.sIx_nat n d k
theorem cut_mid {α : Type} {a b c : List α} {i j : Int} (hi : i = (a.length : Nat)) (hj : j = ((a.length + b.length : Nat) : Int)) : cutL (a ++ b ++ c) (some i) (some j) = b := by
  unfold cutL
  rw [hi, hj, sIx_nat, sIx_nat]
  have l1 : (a ++ b ++ c).length = a.length + b.length + c.length := by simp [Nat.add_assoc]
  rw [l1, Nat.min_eq_left (by omega), Nat.min_eq_left (by omega), List.append_assoc, List.drop_left]
  rw [show a.length + b.length - a.length = b.length by omega, List.take_left]
theorem cut_all {α : Type} {a : List α} {j : Int} (hj : j = ((a.length : Nat) : Int)) : cutL a none (some j) = a := by
  unfold cutL
  rw [hj, sIx_nat, HT.sIx_none, Nat.min_self, List.drop_zero, Nat.sub_zero, List.take_length]
theorem cut_none {α : Type} {a : List α} : cutL a none (some 0) = [] := by
  unfold cutL
  rw [show (0 : Int) = ((0 : Nat) : Int) from rfl, sIx_nat, HT.sIx_none, Nat.zero_min]
  simp
/-- a list of pieces of one length -/
theorem flat_split {α : Type} {w : Nat} : ∀ {ls : List (List α)} {i : Nat} {l : List α}, (∀ x ∈ ls, x.length = w) → ls[i]? = some l → ∃ a c, ls.flatten = a ++ l ++ c ∧ a.length = i * w
  | [], _, _, _, h => by cases h
  | x :: ls, 0, l, hw, h => by
    cases h
    exact ⟨[], ls.flatten, by simp, by simp⟩
  | x :: ls, i + 1, l, hw, h => by
    obtain ⟨a, c, e, ea⟩ := flat_split (i := i) (fun y hy => hw y (List.mem_cons_of_mem _ hy)) (by simpa using h)
    refine ⟨x ++ a, c, by rw [List.flatten_cons, e]; simp, ?_⟩
    rw [List.length_append, hw x List.mem_cons_self, ea, Nat.succ_mul]; omega
theorem flat_len {α : Type} {w : Nat} : ∀ {ls : List (List α)}, (∀ x ∈ ls, x.length = w) → ls.flatten.length = ls.length * w
  | [], _ => by simp
  | x :: ls, hw => by
    rw [List.flatten_cons, List.length_append, hw x List.mem_cons_self, flat_len fun y hy => hw y (List.mem_cons_of_mem _ hy), List.length_cons, Nat.succ_mul]; omega
end Dn


set_option Elab.async false
set_option linter.all false
set_option maxRecDepth 100000
set_option maxHeartbeats 4000000
namespace Dn
open PySem PySem.Spec PyProof.Rows L2
/-! ### working out what turns an object -/
def OM.finM : OM → RM D
  | .nx δ => .ok .non (cur 0 δ)
  | .rt d o => .ok d o
  | .rs x o => .rs x o
  | .stuck => .stuck
theorem runM_eq {n m : Nat} {fb : Addr → Sto → OM} {a : Addr} {ds : List D} (h : ds.length = n) : runM n m fb a ds = (fb a (ds.map Slot.val ++ List.replicate m .no)).finM := by
  unfold runM
  rw [if_pos h]
  cases fb a (ds.map Slot.val ++ List.replicate m .no) <;> rfl
section
variable {i j : Nat} {a : Addr} {δ δ' : Sto} {o o1 o2 : D} {d x y z : D} {fe fa fb : Addr → Sto → RM D} {ft : Addr → Sto → RM Bool} {fr : Addr → Sto → RM (List D)} {f g : Addr → Sto → OM} {b : Bool} {xs : List D} {c m : Str} {fs : List (Str × D)}
theorem cur_set {δ : Sto} (h : i < δ.length) : cur i (δ.set i (.val o)) = o := cur_is (List.getElem?_set_self h)
theorem seqM_rt (h : f a δ = .rt d o) : seqM f g a δ = .rt d o := by unfold seqM; rw [h]
theorem seqM_rs {s : Str} (h : f a δ = .rs s o) : seqM f g a δ = .rs s o := by unfold seqM; rw [h]
theorem retM_ok (h : fe a δ = .ok d o) (hi : i < δ.length) : retM i fe a δ = .rt d o := by unfold retM; rw [h, outM_ok, cur_set hi]
theorem retM_rs {s : Str} (h : fe a δ = .rs s o) : retM i fe a δ = .rs s o := by unfold retM; rw [h, outM_rs]
theorem asgM_ok (h : fe a δ = .ok d o) (hj : j ≠ i) : asgM i j fe a δ = .nx ((δ.set i (.val o)).set j (.val d)) := by unfold asgM; rw [h, outM_ok, if_pos hj]
theorem asgM_rs {s : Str} (h : fe a δ = .rs s o) : asgM i j fe a δ = .rs s o := by unfold asgM; rw [h, outM_rs]
theorem drpM_ok (h : fe a δ = .ok d o) : drpM i fe a δ = .nx (δ.set i (.val o)) := by unfold drpM; rw [h, outM_ok]
theorem drpM_rs {s : Str} (h : fe a δ = .rs s o) : drpM i fe a δ = .rs s o := by unfold drpM; rw [h, outM_rs]
theorem ifM_ok (h : ft a δ = .ok b o) : ifM i ft f g a δ = if b = true then f a (δ.set i (.val o)) else g a (δ.set i (.val o)) := by unfold ifM; rw [h, outM_ok]
theorem rdE_ok {fe : Sto → Res D} (h : fe δ = .ok d) (hf : fre (hasP (cur i δ)) 6 d = true) : rdE i fe a δ = .ok d (cur i δ) := by
  unfold rdE
  rw [h]
  dsimp only
  rw [if_pos hf]
theorem rdE_rs {fe : Sto → Res D} {s : Str} (h : fe δ = .rs s) : rdE i fe a δ = .rs s (cur i δ) := by unfold rdE; rw [h]
theorem rdT_ok {ft : Sto → Res Bool} (h : ft δ = .ok b) : rdT i ft a δ = .ok b (cur i δ) := by unfold rdT; rw [h, toM_ok]
theorem opE_ok {fe : Sto → Res D} (h : fe (δ.set i (.val (.opq a))) = .ok d) : opE i fe a δ = .ok d (cur i δ) := by unfold opE; rw [h, toM_ok]
theorem opT_ok {ft : Sto → Res Bool} (h : ft (δ.set i (.val (.opq a))) = .ok b) : opT i ft a δ = .ok b (cur i δ) := by unfold opT; rw [h, toM_ok]
theorem binM_ok {g : D → D → Res D} (ha : fa a δ = .ok x o1) (hb : fb a (δ.set i (.val o1)) = .ok y o2) (hg : g x y = .ok z) (hi : i < δ.length) : binM i g fa fb a δ = .ok z o2 := by
  unfold binM
  rw [ha, bindM_ok, hb, bindM_ok, hg, toM_ok, List.set_set, cur_set hi]
theorem tstM_ok (h : fe a δ = .ok (.bl b) o) (hi : i < δ.length) : tstM i fe a δ = .ok b o := by
  unfold tstM
  rw [h, bindM_ok, asB_bl, toM_ok, cur_set hi]
theorem nilM_ok : nilM i a δ = .ok [] (cur i δ) := rfl
theorem consM_ok (h : fe a δ = .ok x o) (hr : fr a (δ.set i (.val o)) = .ok xs o1) (hi : i < δ.length) : consM i fe fr a δ = .ok (x :: xs) o1 := by
  unfold consM
  rw [h, bindM_ok, hr, bindM_ok, List.set_set, cur_set hi]
theorem appM_ok {g : List D → Res D} (h : fr a δ = .ok xs o) (hg : g xs = .ok z) (hi : i < δ.length) : appM i g fr a δ = .ok z o := by
  unfold appM
  rw [h, bindM_ok, hg, toM_ok, cur_set hi]
theorem mthM_ok {g : Addr → List D → RM D} (hc : δ[i]? = some (.val (.obj c fs))) (hl : fs.lookup m = none ∧ m ≠ ("#" : Str)) (h : fr a δ = .ok xs o) : mthM i m g fr a δ = g a (o :: xs) := by
  have hi := (List.getElem?_eq_some_iff.mp hc).1
  unfold mthM
  rw [cur_is hc]
  dsimp only
  rw [if_pos hl, h, bindM_ok, cur_set hi]
theorem fncM_ok {g : Addr → List D → RM D} (h : fr a δ = .ok xs o) (hi : i < δ.length) : fncM i g fr a δ = g a (o :: xs) := by
  unfold fncM
  rw [h, bindM_ok, cur_set hi]
theorem whM_step {n : Nat} (h : ft a δ = .ok true o) (hb : f a (δ.set i (.val o)) = .nx δ') : whM i ft f (n + 1) a δ = whM i ft f n a δ' := by
  rw [whM, h, outM_ok, if_pos rfl, hb]
theorem whM_end {n : Nat} (h : ft a δ = .ok false o) : whM i ft f (n + 1) a δ = .nx (δ.set i (.val o)) := by
  rw [whM, h, outM_ok, if_neg Bool.false_ne_true]
theorem forMS_step (h : f a (δ.set j (.val x)) = .nx δ') : forMS j f a (x :: xs) δ = forMS j f a xs δ' := by
  rw [forMS, h]
theorem forMS_rt (h : f a (δ.set j (.val x)) = .rt d o) : forMS j f a (x :: xs) δ = .rt d o := by
  rw [forMS, h]
/-- a loop by an invariant -/
theorem forMS_inv {I : Nat → Sto → Prop} : ∀ (xs : List D) (k : Nat) (δ : Sto), I k δ → (∀ n x δ, xs[n]? = some x → I (k + n) δ → ∃ δ', f a (δ.set j (.val x)) = .nx δ' ∧ I (k + n + 1) δ') → ∃ δ', forMS j f a xs δ = .nx δ' ∧ I (k + xs.length) δ'
  | [], k, δ, h, _ => ⟨δ, rfl, h⟩
  | x :: xs, k, δ, h, hs => by
    obtain ⟨δ1, e1, h1⟩ := hs 0 x δ rfl h
    obtain ⟨δ2, e2, h2⟩ := forMS_inv xs (k + 1) δ1 h1 (fun n y δ hy hI => by
      obtain ⟨δ', e', h'⟩ := hs (n + 1) y δ (by simpa using hy) (by rw [show k + (n + 1) = k + 1 + n by omega]; exact hI)
      exact ⟨δ', e', by rw [show k + 1 + n + 1 = k + (n + 1) + 1 by omega]; exact h'⟩)
    exact ⟨δ2, by rw [forMS_step e1, e2], by rw [List.length_cons, show k + (xs.length + 1) = k + 1 + xs.length by omega]; exact h2⟩
end
end Dn


set_option Elab.async false
set_option linter.all false
set_option maxRecDepth 100000
set_option maxHeartbeats 4000000
namespace Lw
open PySem PySem.Spec PyProof.Rows L2 Dn
/-! ### what the numbers' defs answer -/
theorem wh_needs : ∀ (n : Nat) (z c : Int), 0 ≤ z → nb z.toNat < n → whS (tst (bin gtD (vr 0) (cst (.int 0)))) (seqS (asg 0 (bin fdivD (vr 0) (cst (.int 2)))) (asg 1 (bin addD (vr 1) (cst (.int 1))))) n [.val (.int z), .val (.int c)] = .nx [.val (.int 0), .val (.int (c + nb z.toNat))]
  | 0, _, _, _, h => absurd h (Nat.not_lt_zero _)
  | n + 1, z, c, h0, h => by
    by_cases hz : z = 0
    · subst hz
      rw [wh_end (by simp)]
      rw [show (0 : Int).toNat = 0 from rfl, nb_zero]
      simp
    · have hz' : z.toNat ≠ 0 := by omega
      have e2 : (z / 2).toNat = z.toNat / 2 := by omega
      rw [nb_pos hz'] at h
      rw [wh_step (δ' := [.val (.int (z / 2)), .val (.int (c + 1))]) (by simp; omega) (by simp [fdivD_int])]
      rw [wh_needs n (z / 2) (c + 1) (by omega) (by rw [e2]; omega), e2, nb_pos hz']
      rw [show c + 1 + ((nb (z.toNat / 2) : Nat) : Int) = c + ((nb (z.toNat / 2) + 1 : Nat) : Int) by omega]
theorem needs_is (z : Int) (h : nb z.toNat < 2000000) : d_needs [.int z] = if z < 0 then .rs "BadNumber" else .ok (.int (nb z.toNat)) := by
  rw [d_needs, run_eq (by rfl)]; unfold b_needs
  by_cases hz : z < 0
  · simp [hz]
  · simp [hz, wh_needs 2000000 z 0 (by omega) h]
theorem for_bits : ∀ (xs : List D) (n : Int) (v : Slot) (f : List Nat) (s : Slot), xs.length + f.length ≤ line → ∃ s', forS (tgN 3) (seqS (asg 2 (bin addD (app strD (consA (bin modD (vr 0) (cst (.int 2))) nilA)) (vr 2))) (asg 0 (bin fdivD (vr 0) (cst (.int 2))))) xs [.val (.int n), v, .val (.str f), s] = .nx [.val (.int (n / 2 ^ xs.length)), v, .val (.str (tb xs.length n ++ f)), s']
  | [], n, v, f, s, _ => ⟨s, by simp [tb]⟩
  | x :: xs, n, v, f, s, h => by
    have h' : xs.length + 1 + f.length ≤ line := h
    obtain ⟨s', e⟩ := for_bits xs (n / 2) v ([48 + (n % 2).toNat] ++ f) (.val x) (by simp; omega)
    refine ⟨s', ?_⟩
    have h1 : strD [.int (n % 2)] = .ok (.str [48 + (n % 2).toNat]) := if_pos ⟨by omega, by omega⟩
    rw [for_step (δ1 := [.val (.int n), v, .val (.str f), .val x]) (δ' := [.val (.int (n / 2)), v, .val (.str ([48 + (n % 2).toNat] ++ f)), .val x]) rfl
      (by simp [modD_int, h1, addD_str, fdivD_int, show 1 + f.length ≤ line by omega]), e]
    have e2 : n / 2 / 2 ^ xs.length = n / 2 ^ (xs.length + 1) := by rw [Int.ediv_ediv_of_nonneg (by decide), Int.pow_succ, Int.mul_comm]
    rw [e2, List.length_cons, tb, List.append_assoc]
theorem upTo_len (a : Int) (n : Nat) : (Dn.upTo a n).length = n := by unfold Dn.upTo; simp
theorem in_bits_is (n w : Int) (h0 : 0 ≤ w) (h : w ≤ 100000) : d_in_bits [.int n, .int w] = .ok (.str (tb w.toNat n)) := by
  rw [d_in_bits, run_eq (by rfl)]; unfold b_in_bits
  obtain ⟨s', e⟩ := for_bits (Dn.upTo 0 w.toNat) n (.val (.int w)) [] .no (by rw [upTo_len]; simp only [List.length_nil, line]; omega)
  rw [upTo_len] at e
  simp [rng1 (okI_of h0 (by omega)), e]
theorem for_out : ∀ (l : List Nat) (v : Slot) (a : Int) (s : Slot), (∀ c ∈ l, isBit c) → ∃ s', forS (tgN 2) (asg 1 (bin addD (bin mulD (cst (.int 2)) (vr 1)) (app intD (consA (vr 2) nilA)))) (l.map fun c => .str [c]) [v, .val (.int a), s] = .nx [v, .val (.int (vl a l)), s']
  | [], v, a, s, _ => ⟨s, rfl⟩
  | c :: l, v, a, s, h => by
    obtain ⟨s', e⟩ := for_out l v (2 * a + ((c - 48 : Nat) : Int)) (.val (.str [c])) fun d hd => h d (List.mem_cons_of_mem _ hd)
    refine ⟨s', ?_⟩
    have hc : intD [.str [c]] = .ok (.int ((c - 48 : Nat) : Int)) := if_pos (by rcases h c List.mem_cons_self with rfl | rfl <;> decide)
    have hm : mulOk 2 a = true := rfl
    rw [List.map_cons, for_step (δ1 := [v, .val (.int a), .val (.str [c])]) (δ' := [v, .val (.int (2 * a + ((c - 48 : Nat) : Int))), .val (.str [c])]) rfl (by simp [mulD_int hm, hc]), e]
    rfl
theorem out_of_is (l : List Nat) (h : ∀ c ∈ l, isBit c) : d_out_of [.str l] = .ok (.int (vl 0 l)) := by
  rw [d_out_of, run_eq (by rfl)]; unfold b_out_of
  obtain ⟨s', e⟩ := for_out l (.val (.str l)) 0 .no h
  simp [e]
theorem need_bits_is (l : List Nat) (hl : l.length ≤ line) : d_need_bits [.str l] = if ∀ c ∈ l, isBit c then .ok .non else .rs "BadBits" := by
  rw [d_need_bits, run_eq (by rfl)]; unfold b_need_bits
  have e := lcN_map (δ := [.val (.str l), .no]) (vs := [1]) (j := 1) (fe := bin inA (vr 1) (cst (.str [48, 49]))) (fi := itS (vr 0)) (xs := l.map fun c => .str [c]) (f := fun d => match d with | .str [c] => .bl (decide (isBit c)) | _ => .non) (by simp) (by simpa using hl) fun x hx => by
    obtain ⟨c, _, rfl⟩ := List.mem_map.mp hx
    simp only [wipeS, List.set, bin_eq, vr_eq, List.getElem?_cons_succ, List.getElem?_cons_zero, cst_eq, bind_ok]
    show Res.ok (D.bl (decide (c ∈ [48, 49]))) = Res.ok (D.bl (decide (isBit c)))
    rw [decide_eq_decide.mpr (show c ∈ [48, 49] ↔ isBit c by simp [isBit])]
  have e2 : allD [.lst ((l.map fun c => D.str [c]).map fun d => match d with | .str [c] => .bl (decide (isBit c)) | _ => .non)] = .ok (.bl (l.all fun c => decide (isBit c))) := by
    rw [List.map_map]
    show (match boolsO (l.map ((fun d => match d with | D.str [c] => D.bl (decide (isBit c)) | _ => .non) ∘ fun c => D.str [c])) with | some ns => Res.ok (D.bl (ns.all id)) | _ => .stuck) = _
    have : (l.map ((fun d => match d with | D.str [c] => D.bl (decide (isBit c)) | _ => .non) ∘ fun c => D.str [c])) = (l.map fun c => decide (isBit c)).map D.bl := by rw [List.map_map]; rfl
    rw [this, bools_map]
    simp
  simp only [List.map_cons, List.map_nil, List.replicate, List.cons_append, List.nil_append, ifS_eq, notT_eq, tst_eq, app_eq, consA_eq, nilA_eq, lstE_eq, e, bind_ok, e2, asB_bl, out_ok, rais_eq, nopS_eq]
  by_cases h : ∀ c ∈ l, isBit c
  · have : (l.all fun c => decide (isBit c)) = true := List.all_eq_true.mpr fun c hc => decide_eq_true (h c hc)
    rw [if_pos h, this]; rfl
  · have : (l.all fun c => decide (isBit c)) = false := by
      rw [← Bool.not_eq_true]
      intro q
      exact h fun c hc => of_decide_eq_true (List.all_eq_true.mp q c hc)
    rw [if_neg h, this]; rfl
/-! ### pack -/
def okN (w : Int) (n : Int) : Prop := 0 ≤ n ∧ (nb n.toNat : Int) ≤ w
instance (w n : Int) : Decidable (okN w n) := inferInstanceAs (Decidable (0 ≤ n ∧ (nb n.toNat : Int) ≤ w))
theorem for_pack : ∀ (ns : List Int) (v : Slot) (w : Int) (s : Slot), (∀ n ∈ ns, nb n.toNat < 2000000) → ∃ s', forS (tgN 2) (ifS (tst (bin gtD (app d_needs (consA (vr 2) nilA)) (vr 1))) (rais "BadNumber") nopS) (ns.map .int) [v, .val (.int w), s] = if ∀ n ∈ ns, okN w n then .nx [v, .val (.int w), s'] else .rs "BadNumber"
  | [], v, w, s, _ => ⟨s, by simp⟩
  | n :: ns, v, w, s, h => by
    obtain ⟨s', e⟩ := for_pack ns v w (.val (.int n)) fun d hd => h d (List.mem_cons_of_mem _ hd)
    refine ⟨s', ?_⟩
    have hn := needs_is n (h n List.mem_cons_self)
    by_cases h1 : okN w n
    · rw [List.map_cons, for_step (δ1 := [v, .val (.int w), .val (.int n)]) (δ' := [v, .val (.int w), .val (.int n)]) rfl (by
        have h0 : ¬ n < 0 := by have := h1.1; omega
        have h2 : ¬ w < (nb n.toNat : Int) := by have := h1.2; omega
        simp [hn, h0, h2]), e]
      simp [h1]
    · rw [List.map_cons, for_rs (c := "BadNumber") (δ1 := [v, .val (.int w), .val (.int n)]) rfl (by
        by_cases h0 : n < 0
        · simp [hn, h0]
        · have h2 : w < (nb n.toNat : Int) := by
            unfold okN at h1
            omega
          simp [hn, h0, h2])]
      simp [h1]
/-- the numbers' bits, one behind the other -/
def pk (w : Nat) (ns : List Int) : List Nat := (ns.map (tb w)).flatten
theorem pk_len (w : Nat) (ns : List Int) : (pk w ns).length = ns.length * w := by
  unfold pk
  rw [flat_len (w := w) (by intro x hx; obtain ⟨n, _, rfl⟩ := List.mem_map.mp hx; exact tb_len w n), List.length_map]
theorem pk_bit (w : Nat) (ns : List Int) : ∀ c ∈ pk w ns, isBit c := fun c hc => by
  obtain ⟨l, hl, hc⟩ := List.mem_flatten.mp hc
  obtain ⟨n, _, rfl⟩ := List.mem_map.mp hl
  exact tb_bit w n c hc
theorem lc_bits {d : List D → Res D} (hd : ∀ n w : Int, 0 ≤ w → w ≤ 100000 → d [.int n, .int w] = .ok (.str (tb w.toNat n))) {δ : Sto} {fi : Sto → Res (List D)} {ns : List Int} {w : Int} {i j : Nat} (hi : fi δ = .ok (ns.map .int)) (hw : 0 ≤ w) (hw1 : w ≤ 100000) (hl : ns.length ≤ line)
    (h1 : i ≠ j) (h2 : j < δ.length) (h3 : δ[i]? = some (.val (.int w))) : lcF fi (tgN j) [j] yes (app d (consA (vr j) (consA (vr i) nilA))) δ = .ok ((ns.map (tb w.toNat)).map .str) := by
  rw [lcN_map (f := fun x => match x with | .int n => .str (tb w.toNat n) | _ => .non) hi (by simpa using hl) fun x hx => ?_]
  · simp
  · obtain ⟨n, _, rfl⟩ := List.mem_map.mp hx
    have a1 : ((wipeS δ [j]).set j (.val (.int n)))[j]? = some (.val (.int n)) := by simp [wipeS, h2]
    have a2 : ((wipeS δ [j]).set j (.val (.int n)))[i]? = some (.val (.int w)) := by
      simp [wipeS, List.getElem?_set_ne (Ne.symm h1), h3]
    simp [a1, a2, hd n w hw hw1]
theorem pack_is (ns : List Int) (w : Int) (hw : w ≤ 1000) (hl : ns.length ≤ 1000) (h : ∀ n ∈ ns, nb n.toNat < 2000000) (h0 : 0 ≤ w ∨ ∃ n ∈ ns, ¬ okN w n) : d_pack [.lst (ns.map .int), .int w] = if ∀ n ∈ ns, okN w n then .ok (.str (pk w.toNat ns)) else .rs "BadNumber" := by
  rw [d_pack, run_eq (by rfl)]; unfold b_pack
  obtain ⟨s', e⟩ := for_pack ns (.val (.lst (ns.map .int))) w .no h
  by_cases hh : ∀ n ∈ ns, okN w n
  · have hw0 : 0 ≤ w := by
      rcases h0 with h0 | ⟨n, hn, q⟩
      · exact h0
      · exact absurd (hh n hn) q
    have e2 := lc_bits (d := d_in_bits) in_bits_is (δ := [.val (.lst (ns.map .int)), .val (.int w), s']) (fi := itS (vr 0)) (ns := ns) (w := w) (i := 1) (j := 2) (by simp) hw0 (by omega) (by simp only [line]; omega) (by decide) (by show 2 < 3; decide) rfl
    have hlen : (pk w.toNat ns).length ≤ line := by
      rw [pk_len]
      have : ns.length * w.toNat ≤ 1000 * 1000 := Nat.mul_le_mul hl (by omega)
      exact this
    rw [if_pos hh] at e ⊢
    have e3 := join_is hlen
    simp only [List.map_cons, List.map_nil, List.replicate, List.cons_append, List.nil_append, seqS_eq, forF_eq, itS_eq, vr_eq, List.getElem?_cons_zero, bind_ok, asSeq_lst, out_ok, e, seq_nx, retS_eq, binS_eq, cst_eq, lstE_eq, e2, e3, fin_rt, pk]
  · rw [if_neg hh] at e ⊢
    simp [e]
/-! ### unpack, number_at -/
theorem need_packed_is (l : List Nat) (w : Int) (hl : l.length ≤ line) (hw : 0 ≤ w) : d_need_packed [.str l, .int w] = if (∀ c ∈ l, isBit c) ∧ (l = [] ∨ (w ≠ 0 ∧ (l.length : Int) % w = 0)) then .ok .non else .rs "BadBits" := by
  rw [d_need_packed, run_eq (by rfl)]; unfold b_need_packed
  have e := need_bits_is l hl
  by_cases h1 : ∀ c ∈ l, isBit c
  · rw [if_pos h1] at e
    by_cases h2 : l = []
    · subst h2
      simp [e, lenD_str]
    · have hp : 0 < l.length := List.length_pos_iff.mpr h2
      by_cases h3 : w = 0
      · subst h3
        simp [e, lenD_str hl, h2, hp]
      · have h4 : 0 < w := by omega
        have h5 : 0 ≤ (l.length : Int) % w := Int.emod_nonneg _ h3
        by_cases h6 : (l.length : Int) % w = 0
        · rw [if_pos ⟨h1, .inr ⟨h3, h6⟩⟩]
          simp [e, lenD_str hl, hp, h3, modD_int h4, h6]
        · rw [if_neg (fun q => q.2.elim h2 fun z => h6 z.2)]
          have h7 : 0 < (l.length : Int) % w := by omega
          simp [e, lenD_str hl, hp, h3, modD_int h4, h7]
  · rw [if_neg h1] at e
    rw [if_neg (fun q => h1 q.1)]
    simp [e]
theorem pk_cut {w : Nat} {ns : List Int} {i : Nat} {n : Int} (h : ns[i]? = some n) {a b : Int} (ha : a = ((i * w : Nat) : Int)) (hb : b = ((i * w + w : Nat) : Int)) : cutL (pk w ns) (some a) (some b) = tb w n := by
  obtain ⟨x, c, e, ex⟩ := flat_split (w := w) (ls := ns.map (tb w)) (i := i) (l := tb w n) (by intro x hx; obtain ⟨n, _, rfl⟩ := List.mem_map.mp hx; exact tb_len w n) (by rw [List.getElem?_map, h]; rfl)
  unfold pk
  rw [e]
  exact cut_mid (by rw [ha, ex]) (by rw [hb, ex, tb_len])
theorem bits_sub {l : List Nat} (h : ∀ c ∈ l, isBit c) (lo hi : Option Int) : ∀ c ∈ cutL l lo hi, isBit c := fun c hc => h c (List.mem_of_mem_drop (List.mem_of_mem_take hc))
theorem slD_str {l : List Nat} (h : l.length ≤ line) (lo hi : Option Int) : slD (.str l) lo hi = .ok (.str (cutL l lo hi)) := if_pos h
theorem number_at_bad (l : List Nat) (w p : Int) (hl : l.length ≤ line) (hw : 0 ≤ w) (h : ¬ ((∀ c ∈ l, isBit c) ∧ (l = [] ∨ (w ≠ 0 ∧ (l.length : Int) % w = 0)))) : d_number_at [.str l, .int w, .int p] = .rs "BadBits" := by
  rw [d_number_at, run_eq (by rfl)]; unfold b_number_at
  have e := need_packed_is l w hl hw
  rw [if_neg h] at e
  simp [e]
theorem pk_nil (w : Nat) (ns : List Int) : pk w ns = [] ↔ ns.length * w = 0 := by
  rw [← pk_len, List.length_eq_zero_iff]
theorem packed_ok (ns : List Int) (w : Int) (hw : 0 ≤ w) : (∀ c ∈ pk w.toNat ns, isBit c) ∧ (pk w.toNat ns = [] ∨ (w ≠ 0 ∧ ((pk w.toNat ns).length : Int) % w = 0)) := by
  refine ⟨pk_bit _ _, ?_⟩
  by_cases h : w = 0
  · subst h
    exact .inl ((pk_nil _ _).mpr (by simp))
  · refine .inr ⟨h, ?_⟩
    rw [pk_len, Int.natCast_mul, Int.toNat_of_nonneg hw]
    exact Int.mul_emod_left _ _
theorem number_at_is (ns : List Int) (w p : Int) (hw : 0 ≤ w) (hw1 : w ≤ 1000) (hl : ns.length ≤ 1000) (hp : -1000 ≤ p) (hp1 : p ≤ 1000) (hv : ∀ n ∈ ns, 0 ≤ n ∧ n < 2 ^ w.toNat) :
    d_number_at [.str (pk w.toNat ns), .int w, .int p] = if h : 0 < w ∧ 0 ≤ p ∧ p.toNat < ns.length then .ok (.int ns[p.toNat]) else .rs "BadPlace" := by
  rw [d_number_at, run_eq (by rfl)]; unfold b_number_at
  have hlen : (pk w.toNat ns).length ≤ line := by
    rw [pk_len]
    have : ns.length * w.toNat ≤ 1000 * 1000 := Nat.mul_le_mul hl (by omega)
    exact this
  have e := need_packed_is (pk w.toNat ns) w hlen hw
  rw [if_pos (packed_ok ns w hw)] at e
  have m1 : mulOk (p + 1) w = true := by
    unfold mulOk
    rw [decide_eq_true (show -(2 ^ 64) < p + 1 by omega), decide_eq_true (show p + 1 < 2 ^ 64 by omega)]; rfl
  have m2 : mulOk p w = true := by
    unfold mulOk
    rw [decide_eq_true (show -(2 ^ 64) < p by omega), decide_eq_true (show p < 2 ^ 64 by omega)]; rfl
  have len : ((pk w.toNat ns).length : Int) = (ns.length : Int) * w := by rw [pk_len, Int.natCast_mul, Int.toNat_of_nonneg hw]
  by_cases h0 : 0 ≤ p
  · by_cases h1 : 0 < w
    · by_cases h2 : p.toNat < ns.length
      · have c1 : ¬ ((pk w.toNat ns).length : Int) < (p + 1) * w := by
          rw [len]
          have : (p + 1) * w ≤ (ns.length : Int) * w := Int.mul_le_mul_of_nonneg_right (by omega) hw
          omega
        have c2 : ¬ pk w.toNat ns = [] := fun z => by
          have := (pk_nil _ _).mp z
          rcases Nat.mul_eq_zero.mp this with z | z <;> omega
        have hn := List.getElem?_eq_getElem h2
        have cut := pk_cut (w := w.toNat) hn (a := p * w) (b := p * w + w) (by rw [Int.natCast_mul, Int.toNat_of_nonneg h0, Int.toNat_of_nonneg hw]) (by rw [Int.natCast_add, Int.natCast_mul, Int.toNat_of_nonneg h0, Int.toNat_of_nonneg hw])
        have o := out_of_is (tb w.toNat ns[p.toNat]) (tb_bit _ _)
        have hv' := hv _ (List.getElem_mem h2)
        rw [vl_tb _ _ hv'.1 hv'.2] at o
        rw [dif_pos ⟨h1, h0, h2⟩]
        simp [e, h0, mulD_int m1, mulD_int m2, lenD_str hlen, c1, c2, slD_str hlen, cut, o]
      · rw [dif_neg (fun q => h2 q.2.2)]
        have c1 : ((pk w.toNat ns).length : Int) < (p + 1) * w := by
          rw [len]
          have : (ns.length : Int) * w ≤ p * w := Int.mul_le_mul_of_nonneg_right (by omega) hw
          rw [Int.add_mul]
          omega
        simp [e, h0, mulD_int m1, lenD_str hlen, c1]
    · have hw0 : w = 0 := by omega
      rw [dif_neg (fun q => h1 q.1)]
      have c2 : pk w.toNat ns = [] := (pk_nil _ _).mpr (by rw [hw0]; simp)
      subst hw0
      rw [show Int.toNat 0 = 0 from rfl] at c2 e
      simp [c2] at e
      simp [e, h0, mulD_int m1, lenD_str, c2]
  · rw [dif_neg (fun q => h0 q.2.1)]
    simp [e, h0]
theorem cell_is (ns : List Int) (hns : ns.length ≤ 63) (k : Int) (h0 : 0 ≤ k) (h1 : k ≤ 1000) : ∃ z, d__law_cell [.scr ns, .int k] = .ok (.int z) := by
  rw [d__law_cell, run_eq (by rfl)]; unfold b__law_cell
  by_cases h : ns = []
  · refine ⟨k * 7919, ?_⟩
    have m : mulOk k 7919 = true := by
      unfold mulOk
      rw [decide_eq_true (show -(2 ^ 64) < k by omega), decide_eq_true (show k < 2 ^ 64 by omega)]; rfl
    simp [mkL_ok, script_nil, h, mulD_int m]
  · have hp : 0 < ns.length := List.length_pos_iff.mpr h
    have hp' : (0 : Int) < (ns.length : Int) := by omega
    have hm := Int.emod_nonneg k (show (ns.length : Int) ≠ 0 by omega)
    have hm2 := Int.emod_lt_of_pos k hp'
    have hlt : (k % (ns.length : Int)).toNat < ns.length := by omega
    have at1 : atI ns (k % (ns.length : Int)) = some ns[(k % (ns.length : Int)).toNat] := by
      unfold atI ixN
      rw [if_pos hm, if_pos hm2]
      exact List.getElem?_eq_getElem hlt
    have hb : (ns.length : Int) < 2 ^ 200 := by omega
    have hd := Int.ediv_nonneg h0 (show (0 : Int) ≤ ns.length by omega)
    have hd2 : k / (ns.length : Int) ≤ k := Int.ediv_le_self _ h0
    have m : mulOk (k / (ns.length : Int)) 104729 = true := by
      unfold mulOk
      rw [decide_eq_true (show -(2 ^ 64) < k / (ns.length : Int) by omega), decide_eq_true (show k / (ns.length : Int) < 2 ^ 64 by omega)]; rfl
    exact ⟨ns[(k % (ns.length : Int)).toNat] + k / (ns.length : Int) * 104729, by simp [mkL_ok, script_nil, h, modD_int hp', ixD, at1, fdivD_int ⟨hp', hb⟩, mulD_int m]⟩
theorem mul_small {i j : Int} (h0 : 0 ≤ i) (h1 : i < 2 ^ 200) (h2 : 0 ≤ j) (h3 : j < 2 ^ 200) : mulOk i j = true := by
  unfold mulOk
  rw [decide_eq_true (show i.natAbs < 2 ^ 200 by omega), decide_eq_true (show j.natAbs < 2 ^ 200 by omega)]
  simp
theorem drawn_is (c k : Int) : ∃ z, d__law_drawn [.int c, .int k] = .ok (.int z) ∧ 0 ≤ z ∧ z < 340282366920938463463374607431768211507 := by
  rw [d__law_drawn, run_eq (by rfl)]; unfold b__law_drawn
  have m1 : mulOk c 6364136223846793005 = true := by unfold mulOk; simp
  have m2 : mulOk (k + 1) 1442695040888963407 = true := by unfold mulOk; simp
  generalize hx : (c * 6364136223846793005 + (k + 1) * 1442695040888963407) % 340282366920938463463374607431768211507 = x
  have x0 : 0 ≤ x ∧ x < 340282366920938463463374607431768211507 := by omega
  have m3 : mulOk x x = true := mul_small x0.1 (by omega) x0.1 (by omega)
  generalize hy : x * x % 340282366920938463463374607431768211297 = y
  have y0 : 0 ≤ y ∧ y < 340282366920938463463374607431768211297 := by omega
  have a1 : 0 ≤ y % 18446744073709551557 + 1 ∧ y % 18446744073709551557 + 1 ≤ 18446744073709551557 := by omega
  have a2 : 0 ≤ y / 18446744073709551557 + 1 ∧ y / 18446744073709551557 + 1 ≤ 18446744073709552000 := by omega
  have m4 : mulOk (y % 18446744073709551557 + 1) (y / 18446744073709551557 + 1) = true := mul_small a1.1 (by omega) a2.1 (by omega)
  have p0 : 0 ≤ (y % 18446744073709551557 + 1) * (y / 18446744073709551557 + 1) := Int.mul_nonneg a1.1 a2.1
  have p1 : (y % 18446744073709551557 + 1) * (y / 18446744073709551557 + 1) ≤ 18446744073709551557 * 18446744073709552000 := Int.mul_le_mul a1.2 a2.2 a2.1 (by decide)
  have m5 : mulOk ((y % 18446744073709551557 + 1) * (y / 18446744073709551557 + 1)) y = true := mul_small p0 (by omega) y0.1 (by omega)
  refine ⟨_, by simp [mulD_int m1, mulD_int m2, modD_int, hx, mulD_int m3, hy, fdivD_int, mulD_int m4, mulD_int m5]; rfl, ?_, ?_⟩
  · exact Int.emod_nonneg _ (by decide)
  · exact Int.emod_lt_of_pos _ (by decide)
theorem cut_nat {α : Type} (l : List α) (i j : Nat) : cutL l (some (i : Int)) (some (j : Int)) = (l.drop i).take (j - i) := by
  unfold cutL
  rw [sIx_nat, sIx_nat]
  by_cases h : i ≤ l.length
  · rw [Nat.min_eq_left h]
    by_cases hj : j ≤ l.length
    · rw [Nat.min_eq_left hj]
    · rw [Nat.min_eq_right (by omega), List.take_of_length_le (by rw [List.length_drop]; omega), List.take_of_length_le (by rw [List.length_drop]; omega)]
  · rw [Nat.min_eq_right (show l.length ≤ i by omega), List.drop_length, List.drop_of_length_le (show l.length ≤ i by omega), List.take_nil, List.take_nil]
/-! ### a row that counts its looks -/
def cts (l : List Nat) (n : Nat) : List Int := (List.range n).map fun j => (((l.take (32 * (j + 1))).count 49 : Nat) : Int)
def rowS (l : List Nat) (n0 : Int) : D := .obj "Row" [("own", .str l), ("wide", .int ((nb l.length : Nat) : Int)), ("whole_blocks", .int ((l.length / 32 : Nat) : Int)), ("counts", .str (pk (nb l.length) (cts l (l.length / 32)))), ("seen", .int n0)]
theorem take_count (l : List Nat) (c a n : Nat) : (l.take (a + n)).count c = (l.take a).count c + ((l.drop a).take n).count c := by
  rw [List.take_add, List.count_append]
theorem row_for (l : List Nat) (hl : l.length ≤ 4096) (hb : ∀ c ∈ l, isBit c) (fs : List (Str × D)) : ∀ (n a : Nat) (s4 : Slot), (a + n) * 32 ≤ l.length →
    ∃ s4', forS (tgN 4) (seqS (asg 3 (bin addD (vr 3) (binS countD (slc (vr 1) (part (bin mulD (vr 4) (cst (.int 32)))) (part (bin mulD (bin addD (vr 4) (cst (.int 1))) (cst (.int 32))))) (cst (.str [49]))))) (appS 2 (vr 3)))
      ((List.range n).map fun (k : Nat) => .int ((a : Int) + (k : Int))) [.ins "Row" fs, .val (.str l), .own ((cts l a).map .int), .val (.int (((l.take (32 * a)).count 49 : Nat) : Int)), s4]
      = .nx [.ins "Row" fs, .val (.str l), .own ((cts l (a + n)).map .int), .val (.int (((l.take (32 * (a + n))).count 49 : Nat) : Int)), s4']
  | 0, a, s4, _ => ⟨s4, rfl⟩
  | n + 1, a, s4, h => by
    obtain ⟨s4', e⟩ := row_for l hl hb fs n (a + 1) (.val (.int (a : Int))) (by rw [show a + 1 + n = a + (n + 1) by omega]; exact h)
    refine ⟨s4', ?_⟩
    have hl' : l.length ≤ line := by simp only [line]; omega
    have er : (List.range (n + 1)).map (fun (k : Nat) => D.int ((a : Int) + (k : Int))) = .int (a : Int) :: (List.range n).map fun (k : Nat) => D.int (((a + 1 : Nat) : Int) + (k : Int)) := by
      rw [List.range_succ_eq_map, List.map_cons, List.map_map]
      have h0 : D.int ((a : Int) + ((0 : Nat) : Int)) = .int (a : Int) := by simp
      rw [h0]
      refine congrArg _ (List.map_congr_left fun k _ => ?_)
      show D.int ((a : Int) + ((k + 1 : Nat) : Int)) = D.int (((a + 1 : Nat) : Int) + (k : Int))
      rw [show (a : Int) + ((k + 1 : Nat) : Int) = ((a + 1 : Nat) : Int) + (k : Int) by omega]
    have m1 : mulOk (a : Int) 32 = true := by unfold mulOk; simp
    have m2 : mulOk ((a : Int) + 1) 32 = true := by unfold mulOk; simp
    have cut : cutL l (some ((a : Int) * 32)) (some (((a : Int) + 1) * 32)) = (l.drop (32 * a)).take 32 := by
      have := cut_nat l (32 * a) (32 * a + 32)
      rw [show ((32 * a : Nat) : Int) = (a : Int) * 32 by omega, show ((32 * a + 32 : Nat) : Int) = ((a : Int) + 1) * 32 by omega, show 32 * a + 32 - 32 * a = 32 by omega] at this
      exact this
    have cnt : (((l.take (32 * a)).count 49 : Nat) : Int) + (((((l.drop (32 * a)).take 32).count 49 : Nat)) : Int) = (((l.take (32 * (a + 1))).count 49 : Nat) : Int) := by
      rw [show 32 * (a + 1) = 32 * a + 32 by omega, take_count]
      omega
    have ct : cts l (a + 1) = cts l a ++ [(((l.take (32 * (a + 1))).count 49 : Nat) : Int)] := by
      unfold cts
      rw [List.range_succ, List.map_append]; rfl
    have hlen : (cts l a).length < line := by
      unfold cts
      rw [List.length_map, List.length_range]
      simp only [line]; omega
    rw [er, for_step (δ1 := [.ins "Row" fs, .val (.str l), .own ((cts l a).map .int), .val (.int (((l.take (32 * a)).count 49 : Nat) : Int)), .val (.int (a : Int))]) (δ' := [.ins "Row" fs, .val (.str l), .own ((cts l (a + 1)).map .int), .val (.int (((l.take (32 * (a + 1))).count 49 : Nat) : Int)), .val (.int (a : Int))]) rfl (by
      rw [seq_to (δ' := [.ins "Row" fs, .val (.str l), .own ((cts l a).map .int), .val (.int (((l.take (32 * (a + 1))).count 49 : Nat) : Int)), .val (.int (a : Int))]) (by
        simp only [asg_eq, bin_eq, binS_eq, slc_eq, part_eq, vr_eq, List.getElem?_cons_succ, List.getElem?_cons_zero, bind_ok, cst_eq, mulD_int m1, addD_int, mulD_int m2, asP_int, slD, if_pos hl', cut, countD, cnt, out_ok, List.set])]
      simp only [appS, List.getElem?_cons_succ, List.getElem?_cons_zero, vr_eq, out_ok, List.length_map, if_pos hlen, List.set, ct, List.map_append, List.map_cons, List.map_nil]), e]
    rw [show a + 1 + n = a + (n + 1) by omega]
theorem cts_ok (l : List Nat) (n : Nat) : ∀ z ∈ cts l n, 0 ≤ z ∧ z ≤ (l.length : Int) := fun z hz => by
  obtain ⟨j, _, rfl⟩ := List.mem_map.mp hz
  have h1 : (l.take (32 * (j + 1))).count 49 ≤ (l.take (32 * (j + 1))).length := List.count_le_length
  rw [List.length_take] at h1
  omega
theorem row_init (l : List Nat) (hl : l.length ≤ 4096) (hb : ∀ c ∈ l, isBit c) : d_Row___init__ [.str l] = .ok (rowS l 0) := by
  have hl' : l.length ≤ line := by simp only [line]; omega
  unfold d_Row___init__ Dn.runN
  rw [if_pos (show [D.str l].length = 1 from rfl)]
  unfold b_Row___init__
  have e1 := need_bits_is l hl'
  rw [if_pos hb] at e1
  have hnb : nb l.length ≤ 13 := (nb_le 13 l.length).mpr (by omega)
  have e2 := needs_is (l.length : Int) (by rw [Int.toNat_natCast]; omega)
  rw [if_neg (by omega), Int.toNat_natCast] at e2
  obtain ⟨s4', ef⟩ := row_for l hl hb [("own", .str l), ("wide", .int ((nb l.length : Nat) : Int)), ("whole_blocks", .int ((l.length / 32 : Nat) : Int))] (l.length / 32) 0 .no (by omega)
  have hok : ∀ n ∈ cts l (l.length / 32), okN ((nb l.length : Nat) : Int) n := fun n hn => by
    obtain ⟨h0, h1⟩ := cts_ok l _ n hn
    refine ⟨h0, ?_⟩
    have h2 := (nb_le (nb l.length) n.toNat).mpr (by
      have := (nb_le (nb l.length) l.length).mp (Nat.le_refl _)
      omega)
    omega
  have e3 := pack_is (cts l (l.length / 32)) ((nb l.length : Nat) : Int) (by omega) (by unfold cts; rw [List.length_map, List.length_range]; omega) (fun n hn => by
    have := (hok n hn).2
    omega) (.inl (by omega))
  rw [if_pos hok, Int.toNat_natCast] at e3
  have mk0 : mkN [] = .ok [] := if_pos (by decide)
  show (seqS _ _ [.ins "Row" [], .val (.str l), .no, .no, .no]).madeN "Row" = _
  rw [seq_to (δ' := [.ins "Row" [], .val (.str l), .no, .no, .no]) (by simp [e1])]
  rw [seq_to (δ' := [.ins "Row" [], .val (.str l), .no, .no, .no]) (by
    have : ¬ (4096 : Int) < (l.length : Int) := by omega
    simp [lenD_str hl', this])]
  rw [seq_to (δ' := [.ins "Row" [("own", .str l)], .val (.str l), .no, .no, .no]) (by rfl)]
  rw [seq_to (δ' := [.ins "Row" [("own", .str l), ("wide", .int ((nb l.length : Nat) : Int))], .val (.str l), .no, .no, .no]) (by
    have q : (app d_needs (consA (app lenD (consA (vr 1) nilA)) nilA)) [.ins "Row" [("own", .str l)], .val (.str l), .no, .no, .no] = .ok (.int ((nb l.length : Nat) : Int)) := by simp [lenD_str hl', e2]
    unfold fstS
    rw [q]
    rfl)]
  rw [seq_to (δ' := [.ins "Row" [("own", .str l), ("wide", .int ((nb l.length : Nat) : Int)), ("whole_blocks", .int ((l.length / 32 : Nat) : Int))], .val (.str l), .no, .no, .no]) (by
    have q : (bin fdivD (app lenD (consA (vr 1) nilA)) (cst (.int 32))) [.ins "Row" [("own", .str l), ("wide", .int ((nb l.length : Nat) : Int))], .val (.str l), .no, .no, .no] = .ok (.int ((l.length / 32 : Nat) : Int)) := by
      simp [lenD_str hl', fdivD_int]
    unfold fstS
    rw [q]
    rfl)]
  rw [seq_to (δ' := [.ins "Row" [("own", .str l), ("wide", .int ((nb l.length : Nat) : Int)), ("whole_blocks", .int ((l.length / 32 : Nat) : Int))], .val (.str l), .own [], .no, .no]) (by simp [mk0])]
  rw [seq_to (δ' := [.ins "Row" [("own", .str l), ("wide", .int ((nb l.length : Nat) : Int)), ("whole_blocks", .int ((l.length / 32 : Nat) : Int))], .val (.str l), .own [], .val (.int 0), .no]) (by simp)]
  have fo : fldO 0 "Row" "whole_blocks" [.ins "Row" [("own", .str l), ("wide", .int ((nb l.length : Nat) : Int)), ("whole_blocks", .int ((l.length / 32 : Nat) : Int))], .val (.str l), .own [], .val (.int 0), .no] = .ok (.int ((l.length / 32 : Nat) : Int)) := rfl
  rw [seq_to (δ' := [.ins "Row" [("own", .str l), ("wide", .int ((nb l.length : Nat) : Int)), ("whole_blocks", .int ((l.length / 32 : Nat) : Int))], .val (.str l), .own ((cts l (l.length / 32)).map .int), .val (.int (((l.take (32 * (0 + l.length / 32))).count 49 : Nat) : Int)), s4']) (by
    rw [forF_eq, rngA_eq, consA_eq, fo, bind_ok, nilA_eq, bind_ok, bind_ok, rng1 (okI_of (by omega) (by omega)), out_ok, Int.toNat_natCast]
    rw [Nat.zero_add] at ef ⊢
    exact ef)]
  rw [seq_to (δ' := [.ins "Row" [("own", .str l), ("wide", .int ((nb l.length : Nat) : Int)), ("whole_blocks", .int ((l.length / 32 : Nat) : Int)), ("counts", .str (pk (nb l.length) (cts l (l.length / 32))))], .val (.str l), .val (.lst ((cts l (l.length / 32)).map .int)), .val (.int (((l.take (32 * (0 + l.length / 32))).count 49 : Nat) : Int)), s4']) (by
    have fo2 : fldO 0 "Row" "wide" [.ins "Row" [("own", .str l), ("wide", .int ((nb l.length : Nat) : Int)), ("whole_blocks", .int ((l.length / 32 : Nat) : Int))], .val (.str l), .val (.lst ((cts l (l.length / 32)).map .int)), .val (.int (((l.take (32 * (0 + l.length / 32))).count 49 : Nat) : Int)), s4'] = .ok (.int ((nb l.length : Nat) : Int)) := rfl
    unfold frzS
    show fstS 0 "Row" "counts" _ [.ins "Row" [("own", .str l), ("wide", .int ((nb l.length : Nat) : Int)), ("whole_blocks", .int ((l.length / 32 : Nat) : Int))], .val (.str l), .val (.lst ((cts l (l.length / 32)).map .int)), .val (.int (((l.take (32 * (0 + l.length / 32))).count 49 : Nat) : Int)), s4'] = _
    unfold fstS
    rw [app_eq, consA_eq, consA_eq, nilA_eq, fo2]
    simp only [vr_eq, List.getElem?_cons_succ, List.getElem?_cons_zero, bind_ok, e3, out_ok]
    rfl)]
  show Out.madeN "Row" (.nx [.ins "Row" [("own", .str l), ("wide", .int ((nb l.length : Nat) : Int)), ("whole_blocks", .int ((l.length / 32 : Nat) : Int)), ("counts", .str (pk (nb l.length) (cts l (l.length / 32)))), ("seen", .int 0)], .val (.str l), .val (.lst ((cts l (l.length / 32)).map .int)), .val (.int (((l.take (32 * (0 + l.length / 32))).count 49 : Nat) : Int)), s4']) = _
  unfold Out.madeN
  dsimp only [List.getElem?_cons_zero]
  rw [if_pos ⟨rfl, rfl, rfl, rfl, by decide +kernel, by show 5 < 200; decide⟩]
  rfl
theorem mth_to {c m : Str} {g : List D → Res D} {fo : Sto → Res D} {fa : Sto → Res (List D)} {δ : Sto} {fs : List (Str × D)} {xs : List D} (ho : fo δ = .ok (.obj c fs)) (ha : fa δ = .ok xs) (hl : fs.lookup m = none) (hs : m ≠ "#") : mth c m g fo fa δ = g (.obj c fs :: xs) := by
  rw [mth_eq, ho, bind_ok]
  show (if c = c ∧ fs.lookup m = none ∧ m ≠ ("#" : Str) then _ else _) = _
  rw [if_pos ⟨rfl, hl, hs⟩, ha, bind_ok]
theorem row_lk {m : Str} {l : List Nat} {n0 : Int} (hl : m ≠ "own" ∧ m ≠ "wide" ∧ m ≠ "whole_blocks" ∧ m ≠ "counts" ∧ m ≠ "seen" ∧ m ≠ "#") : ([("own", .str l), ("wide", .int ((nb l.length : Nat) : Int)), ("whole_blocks", .int ((l.length / 32 : Nat) : Int)), ("counts", .str (pk (nb l.length) (cts l (l.length / 32)))), ("seen", .int n0)] : List (Str × D)).lookup m = none ∧ m ≠ ("#" : Str) := by
  obtain ⟨h1, h2, h3, h4, h5, h6⟩ := hl
  refine ⟨?_, h6⟩
  rw [List.lookup_cons, beq_eq_false_iff_ne.mpr h1, List.lookup_cons, beq_eq_false_iff_ne.mpr h2, List.lookup_cons, beq_eq_false_iff_ne.mpr h3, List.lookup_cons, beq_eq_false_iff_ne.mpr h4, List.lookup_cons, beq_eq_false_iff_ne.mpr h5]
  rfl
theorem row_mth {m : Str} {g : List D → Res D} {fo : Sto → Res D} {fa : Sto → Res (List D)} {δ : Sto} {l : List Nat} {n0 : Int} {xs : List D} (ho : fo δ = .ok (rowS l n0)) (ha : fa δ = .ok xs) (hl : m ≠ "own" ∧ m ≠ "wide" ∧ m ≠ "whole_blocks" ∧ m ≠ "counts" ∧ m ≠ "seen" ∧ m ≠ "#") : mth "Row" m g fo fa δ = g (rowS l n0 :: xs) := mth_to ho ha (row_lk hl).1 (row_lk (l := l) (n0 := n0) hl).2
theorem row_mm {m : Str} {g : Addr → List D → RM D} {fr : Addr → Sto → RM (List D)} {a : Addr} {δ : Sto} {l : List Nat} {n0 n1 : Int} {xs : List D} (hc : δ[0]? = some (.val (rowS l n0))) (h : fr a δ = .ok xs (rowS l n1)) (hl : m ≠ "own" ∧ m ≠ "wide" ∧ m ≠ "whole_blocks" ∧ m ≠ "counts" ∧ m ≠ "seen" ∧ m ≠ "#") : mthM 0 m g fr a δ = g a (rowS l n1 :: xs) := mthM_ok hc (row_lk hl) h
theorem f_own (l : List Nat) (n0 : Int) : fldD "Row" "own" (rowS l n0) = .ok (.str l) := rfl
theorem f_wide (l : List Nat) (n0 : Int) : fldD "Row" "wide" (rowS l n0) = .ok (.int ((nb l.length : Nat) : Int)) := rfl
theorem f_wb (l : List Nat) (n0 : Int) : fldD "Row" "whole_blocks" (rowS l n0) = .ok (.int ((l.length / 32 : Nat) : Int)) := rfl
theorem f_counts (l : List Nat) (n0 : Int) : fldD "Row" "counts" (rowS l n0) = .ok (.str (pk (nb l.length) (cts l (l.length / 32)))) := rfl
theorem f_seen (l : List Nat) (n0 : Int) : fldD "Row" "seen" (rowS l n0) = .ok (.int n0) := rfl
theorem need_is (l : List Nat) (n0 : Int) (b : Bool) : d_Row_need [rowS l n0, .bl b] = if b then .ok .non else .rs "BadPlace" := by
  rw [d_Row_need, run_eq (by rfl)]; unfold b_Row_need
  cases b <;> simp
def bt (l : List Nat) (p : Nat) : Int := ((l.getD p 0 - 48 : Nat) : Int)
theorem at_nat {α : Type} {l : List α} {p : Int} (h0 : 0 ≤ p) (h : p.toNat < l.length) : atI l p = some l[p.toNat] := by
  unfold atI ixN
  rw [if_pos h0, if_pos (by omega)]
  exact List.getElem?_eq_getElem h
theorem cts_get (l : List Nat) (n j : Nat) (h : j < n) : (cts l n)[j]? = some (((l.take (32 * (j + 1))).count 49 : Nat) : Int) := by
  unfold cts
  rw [List.getElem?_map, List.getElem?_range h]; rfl
theorem up_to_is (l : List Nat) (n0 : Int) (hl : l.length ≤ 4096) (b : Nat) (h : b ≤ l.length / 32) : d_Row_up_to [rowS l n0, .int (b : Int)] = .ok (.int (((l.take (32 * b)).count 49 : Nat) : Int)) := by
  rw [d_Row_up_to, run_eq (by rfl)]; unfold b_Row_up_to
  show (seqS _ _ [.val (rowS l n0), .val (.int (b : Int))]).fin = _
  by_cases h0 : b = 0
  · subst h0
    simp
  · have hne : ¬ (b : Int) = 0 := by omega
    rw [seq_to (δ' := [.val (rowS l n0), .val (.int (b : Int))]) (by simp [hne, h0])]
    have hlen : (cts l (l.length / 32)).length = l.length / 32 := by unfold cts; rw [List.length_map, List.length_range]
    have hw : 0 < nb l.length := by rw [nb_pos (by omega)]; omega
    have hnb : nb l.length ≤ 13 := (nb_le 13 l.length).mpr (by omega)
    have e := number_at_is (cts l (l.length / 32)) ((nb l.length : Nat) : Int) ((b : Int) - 1) (by omega) (by omega) (by omega) (by omega) (by omega) (fun n hn => by
      obtain ⟨q0, q1⟩ := cts_ok l _ n hn
      refine ⟨q0, ?_⟩
      rw [Int.toNat_natCast]
      have := (nb_le (nb l.length) l.length).mp (Nat.le_refl _)
      have e2 : ((2 ^ nb l.length : Nat) : Int) = 2 ^ nb l.length := by norm_cast
      omega)
    rw [Int.toNat_natCast, dif_pos ⟨by omega, by omega, by omega⟩] at e
    have hg : (cts l (l.length / 32))[((b : Int) - 1).toNat]'(by omega) = (((l.take (32 * b)).count 49 : Nat) : Int) := by
      have := cts_get l (l.length / 32) (b - 1) (by omega)
      rw [show b - 1 + 1 = b by omega] at this
      rw [← Option.some_inj, ← List.getElem?_eq_getElem, show ((b : Int) - 1).toNat = b - 1 by omega, this]
    rw [hg] at e
    simp only [retS_eq, app_eq, consA_eq, nilA_eq, un_eq, vr_eq, List.getElem?_cons_succ, List.getElem?_cons_zero, bind_ok, f_counts, f_wide, bin_eq, cst_eq, subD_int, e, out_ok, fin_rt]
theorem seg_cons (l : List Nat) (a n : Nat) (h : a < l.length) : (l.drop a).take (n + 1) = l[a] :: (l.drop (a + 1)).take n := by
  rw [List.drop_eq_getElem_cons h, List.take_succ_cons]
theorem bt_sum (l : List Nat) (hb : ∀ c ∈ l, isBit c) : ∀ (n a : Nat), a + n ≤ l.length → ((List.range n).map fun k => bt l (a + k)).sum = ((((l.drop a).take n).count 49 : Nat) : Int)
  | 0, a, _ => by simp
  | n + 1, a, h => by
    have ha : a < l.length := by omega
    rw [List.range_succ_eq_map, List.map_cons, List.map_map, List.sum_cons, seg_cons l a n ha]
    have ih := bt_sum l hb n (a + 1) (by omega)
    have e : (List.range n).map ((fun k => bt l (a + k)) ∘ Nat.succ) = (List.range n).map fun k => bt l (a + 1 + k) := List.map_congr_left fun k _ => by
      show bt l (a + (k + 1)) = bt l (a + 1 + k)
      rw [show a + (k + 1) = a + 1 + k by omega]
    rw [e, ih]
    have hg : bt l (a + 0) = ((l[a] - 48 : Nat) : Int) := by
      unfold bt
      simp [ha]
    rw [hg]
    rcases hb _ (List.getElem_mem ha) with q | q
    · rw [q, List.count_cons_of_ne (by decide)]; simp
    · rw [q, List.count_cons_self]
      show ((1 : Nat) : Int) + _ = _
      omega
def pos (c : Nat) : List Nat → List Nat
  | [] => []
  | x :: r => if x = c then 0 :: (pos c r).map (· + 1) else (pos c r).map (· + 1)
theorem pos_len (c : Nat) : ∀ l : List Nat, (pos c l).length = l.count c
  | [] => rfl
  | x :: r => by
    rw [pos]
    split
    · rename_i e
      rw [e, List.count_cons_self, List.length_cons, List.length_map, pos_len c r]
    · rename_i e
      rw [List.count_cons_of_ne e, List.length_map, pos_len c r]
theorem pos_app (c : Nat) : ∀ a b : List Nat, pos c (a ++ b) = pos c a ++ (pos c b).map (· + a.length)
  | [], b => by simp [pos]
  | x :: a, b => by
    rw [List.cons_append, pos, pos, pos_app c a b]
    have e : (pos c b).map (fun y => y + (x :: a).length) = ((pos c b).map (· + a.length)).map (· + 1) := by
      rw [List.map_map]
      refine List.map_congr_left fun y _ => ?_
      show y + (a.length + 1) = y + a.length + 1
      omega
    split <;> simp only [List.map_append, List.cons_append, e]
def Sg (c : Nat) (s : Int) : Prop := (c = 49 ∧ s = 1) ∨ (c = 48 ∧ s = 0)
theorem cnt_both : ∀ m : List Nat, (∀ c ∈ m, isBit c) → m.count 48 + m.count 49 = m.length
  | [], _ => rfl
  | x :: m, h => by
    have ih := cnt_both m fun c hc => h c (List.mem_cons_of_mem _ hc)
    rcases h x List.mem_cons_self with rfl | rfl
    · rw [List.count_cons_self, List.count_cons_of_ne (by decide), List.length_cons]; omega
    · rw [List.count_cons_self, List.count_cons_of_ne (by decide), List.length_cons]; omega
theorem ahead_is (l : List Nat) (n0 : Int) (hl : l.length ≤ 4096) (hb : ∀ c ∈ l, isBit c) {c : Nat} {s : Int} (hs : Sg c s) (b : Nat) (h : b ≤ l.length / 32) : d_Row_ahead [rowS l n0, .int (b : Int), .int s] = .ok (.int (((l.take (32 * b)).count c : Nat) : Int)) := by
  rw [d_Row_ahead, run_eq (by rfl)]; unfold b_Row_ahead
  show (seqS _ _ [.val (rowS l n0), .val (.int (b : Int)), .val (.int s)]).fin = _
  have um : mth "Row" "up_to" d_Row_up_to (vr 0) (consA (vr 1) nilA) [.val (rowS l n0), .val (.int (b : Int)), .val (.int s)] = .ok (.int (((l.take (32 * b)).count 49 : Nat) : Int)) := by
    rw [row_mth (l := l) (xs := [.int (b : Int)]) rfl rfl (by decide +kernel), up_to_is l n0 hl b h]
  rcases hs with ⟨rfl, rfl⟩ | ⟨rfl, rfl⟩
  · simp only [seqS_eq, ifS_eq, tst_eq, bin_eq, vr_eq, List.getElem?_cons_succ, List.getElem?_cons_zero, bind_ok, cst_eq, eqD_int, asB_bl, out_ok, decide_true, if_true, retS_eq, um, seq_rt, fin_rt]
  · have m : mulOk (b : Int) 32 = true := by unfold mulOk; simp
    have e := cnt_both (l.take (32 * b)) fun c hc => hb c (List.mem_of_mem_take hc)
    rw [List.length_take, Nat.min_eq_left (by omega)] at e
    rw [seq_to (δ' := [.val (rowS l n0), .val (.int (b : Int)), .val (.int 0)]) (by simp)]
    rw [retS_eq, bin_eq, um]
    simp only [bin_eq, vr_eq, List.getElem?_cons_succ, List.getElem?_cons_zero, bind_ok, cst_eq, mulD_int m, subD_int, out_ok, fin_rt]
    rw [show (b : Int) * 32 - (((l.take (32 * b)).count 49 : Nat) : Int) = (((l.take (32 * b)).count 48 : Nat) : Int) by omega]
def optD : Option Nat → D
  | some p => .int (p : Int)
  | none => .non
theorem pos_seg (l : List Nat) (c b k : Nat) (h1 : (l.take (32 * b)).count c ≤ k) (h2 : b = l.length / 32 ∨ k < (l.take (32 * (b + 1))).count c) (h3 : b ≤ l.length / 32) :
    (pos c l)[k]? = ((pos c ((l.drop (32 * b)).take (min l.length (32 * (b + 1)) - 32 * b)))[k - (l.take (32 * b)).count c]?).map (32 * b + ·) := by
  have hlen : (l.take (32 * b)).length = 32 * b := by rw [List.length_take]; omega
  have e1 : l = l.take (32 * b) ++ l.drop (32 * b) := (List.take_append_drop _ _).symm
  have e2 : pos c l = pos c (l.take (32 * b)) ++ (pos c (l.drop (32 * b))).map (· + 32 * b) := by
    conv => lhs; rw [e1, pos_app, hlen]
  rw [e2, List.getElem?_append_right (by rw [pos_len]; exact h1), pos_len, List.getElem?_map]
  generalize hk : k - (l.take (32 * b)).count c = j
  have fin : (pos c (l.drop (32 * b)))[j]? = (pos c ((l.drop (32 * b)).take (min l.length (32 * (b + 1)) - 32 * b)))[j]? := by
    generalize hn : min l.length (32 * (b + 1)) - 32 * b = n
    rcases h2 with h2 | h2
    · rw [List.take_of_length_le (by rw [List.length_drop]; omega)]
    · have hj : j < ((l.drop (32 * b)).take n).count c := by
        have tc := take_count l c (32 * b) n
        have : l.take (32 * b + n) = l.take (32 * (b + 1)) := by
          by_cases q : 32 * (b + 1) ≤ l.length
          · rw [show 32 * b + n = 32 * (b + 1) by omega]
          · rw [List.take_of_length_le (by omega), List.take_of_length_le (by omega)]
        rw [this] at tc
        omega
      conv => lhs; rw [← List.take_append_drop n (l.drop (32 * b)), pos_app]
      rw [List.getElem?_append_left (by rw [pos_len]; exact hj)]
  rw [fin]
  cases (pos c ((l.drop (32 * b)).take (min l.length (32 * (b + 1)) - 32 * b)))[j]? with
  | none => rfl
  | some p => show some (p + 32 * b) = some (32 * b + p); rw [Nat.add_comm]
end Lw


set_option Elab.async false
set_option linter.all false
set_option maxRecDepth 100000
set_option maxHeartbeats 4000000
namespace Lw
open PySem PySem.Spec PyProof.Rows L2 Dn
/-! ### what is looked at -/
theorem need_rd {l : List Nat} {n0 : Int} {fe : Sto → Res D} {a : Addr} {δ : Sto} {b : Bool} (h0 : δ[0]? = some (.val (rowS l n0))) (h : fe δ = .ok (.bl b)) : drpM 0 (rdE 0 (mth "Row" "need" d_Row_need (vr 0) (consA fe nilA))) a δ = if b then .nx δ else .rs "BadPlace" (rowS l n0) := by
  have e : mth "Row" "need" d_Row_need (vr 0) (consA fe nilA) δ = if b then .ok .non else .rs "BadPlace" := by
    rw [row_mth (n0 := n0) (xs := [.bl b]) (by rw [vr_eq, h0]) (by rw [consA_eq, h]; rfl) (by decide +kernel), need_is]
  cases b with
  | true =>
    rw [if_pos rfl] at e ⊢
    rw [drpM_ok (rdE_ok e rfl), set_cur h0]
  | false =>
    rw [if_neg Bool.false_ne_true] at e ⊢
    rw [drpM_rs (rdE_rs e), cur_is h0]
theorem fst_seen {l : List Nat} {n0 z : Int} {a : Addr} {r : Sto} {fe : Addr → Sto → RM D} (h : fe a (.val (rowS l n0) :: r) = .ok (.int z) (rowS l n0)) : fstM 0 "seen" fe a (.val (rowS l n0) :: r) = .nx (.val (rowS l z) :: r) := by
  unfold fstM
  rw [h, outM_ok]
  exact if_pos (show ("seen" : Str) ≠ ("parts" : Str) ∧ ("seen" : Str) ≠ ("#" : Str) ∧ sca (D.int z) = true ∧ (([("own", .str l), ("wide", .int ((nb l.length : Nat) : Int)), ("whole_blocks", .int ((l.length / 32 : Nat) : Int)), ("counts", .str (pk (nb l.length) (cts l (l.length / 32)))), ("seen", .int n0)] : List (Str × D)).lookup ("seen" : Str)).isSome = true from ⟨by decide +kernel, by decide +kernel, rfl, rfl⟩)
theorem look_m (l : List Nat) (hl : l.length ≤ 4096) (hb : ∀ c ∈ l, isBit c) (a : Addr) (n0 p : Int) (h0 : 0 ≤ p) (h1 : p < l.length) : m_Row_look a [rowS l n0, .int p] = .ok (.int (bt l p.toNat)) (rowS l (n0 + 1)) := by
  have hlt : p.toNat < l.length := by omega
  have hl' : l.length ≤ line := by simp only [line]; omega
  rw [m_Row_look, runM_eq (by rfl)]; unfold b_Row_look
  show (seqM _ _ a [.val (rowS l n0), .val (.int p)]).finM = _
  have ix : ixD (.str l) (.int p) = .ok (.str [l[p.toNat]]) := by
    show (if l.length ≤ line then (match atI l p with | some c => Res.ok (D.str [c]) | none => .stuck) else .stuck) = _
    rw [if_pos hl', at_nat h0 hlt]
  have hi : intD [.str [l[p.toNat]]] = .ok (.int (bt l p.toNat)) := by
    have : l.getD p.toNat 0 = l[p.toNat] := by simp [hlt]
    unfold bt
    rw [this]
    exact if_pos (by rcases hb _ (List.getElem_mem hlt) with e | e <;> rw [e] <;> decide)
  rw [seqM_to (fst_seen (rdE_ok (d := .int (n0 + 1)) (by simp only [bin_eq, un_eq, vr_eq, List.getElem?_cons_zero, bind_ok, f_seen, cst_eq, addD_int]) rfl))]
  have hr : rdE 0 (app intD (consA (bin ixD (un (fldD "Row" "own") (vr 0)) (vr 1)) (nilA))) a [.val (rowS l (n0 + 1)), .val (.int p)] = .ok (.int (bt l p.toNat)) (rowS l (n0 + 1)) := rdE_ok (by simp only [app_eq, consA_eq, nilA_eq, bin_eq, un_eq, vr_eq, List.getElem?_cons_succ, List.getElem?_cons_zero, bind_ok, f_own, ix, hi]) rfl
  rw [retM_ok hr (Nat.succ_pos _)]
  rfl
/-- a look at what stands in slot j -/
theorem look_at {l : List Nat} (hl : l.length ≤ 4096) (hb : ∀ c ∈ l, isBit c) {a : Addr} {δ : Sto} {j : Nat} {n0 p : Int} (hj : j ≠ 0) (h0 : δ[0]? = some (.val (rowS l n0))) (h : δ[j]? = some (.val (.int p))) (q0 : 0 ≤ p) (q1 : p < l.length) : mthM 0 "look" m_Row_look (consM 0 (opE 0 (vr j)) (nilM 0)) a δ = .ok (.int (bt l p.toNat)) (rowS l (n0 + 1)) := by
  have hi := (List.getElem?_eq_some_iff.mp h0).1
  have e : consM 0 (opE 0 (vr j)) (nilM 0) a δ = .ok [.int p] (rowS l n0) := consM_ok (o := rowS l n0) (by
    rw [opE_ok (d := .int p) (by rw [vr_eq, List.getElem?_set_ne (Ne.symm hj), h]), cur_is h0]) (by rw [nilM_ok, cur_set hi]) hi
  rw [row_mm h0 e (by decide +kernel), look_m l hl hb a n0 p q0 q1]
theorem lc_look (l : List Nat) (hl : l.length ≤ 4096) (hb : ∀ c ∈ l, isBit c) (a : Addr) (v1 v2 : Slot) : ∀ (n b : Nat) (n0 : Int) (s3 : Slot), b + n ≤ l.length →
    lcMS 0 3 (mthM 0 "look" m_Row_look (consM 0 (opE 0 (vr 3)) (nilM 0))) a ((List.range n).map fun (k : Nat) => D.int ((b : Int) + (k : Int))) [.val (rowS l n0), v1, v2, s3] = .ok (((List.range n).map fun k => bt l (b + k)).map D.int) (rowS l (n0 + n))
  | 0, b, n0, s3, _ => by
    show RM.ok [] (rowS l n0) = RM.ok [] (rowS l (n0 + ((0 : Nat) : Int)))
    rw [show n0 + ((0 : Nat) : Int) = n0 by omega]
  | n + 1, b, n0, s3, h => by
    have er : (List.range (n + 1)).map (fun (k : Nat) => D.int ((b : Int) + (k : Int))) = .int (b : Int) :: (List.range n).map fun (k : Nat) => D.int (((b + 1 : Nat) : Int) + (k : Int)) := by
      rw [List.range_succ_eq_map, List.map_cons, List.map_map]
      have h0 : D.int ((b : Int) + ((0 : Nat) : Int)) = .int (b : Int) := by simp
      rw [h0]
      refine congrArg _ (List.map_congr_left fun k _ => ?_)
      show D.int ((b : Int) + ((k + 1 : Nat) : Int)) = D.int (((b + 1 : Nat) : Int) + (k : Int))
      rw [show (b : Int) + ((k + 1 : Nat) : Int) = ((b + 1 : Nat) : Int) + (k : Int) by omega]
    have er2 : ((List.range (n + 1)).map fun k => bt l (b + k)).map D.int = .int (bt l b) :: ((List.range n).map fun k => bt l (b + 1 + k)).map D.int := by
      have e : (List.range (n + 1)).map (fun k => bt l (b + k)) = bt l b :: (List.range n).map fun k => bt l (b + 1 + k) := by
        rw [List.range_succ_eq_map, List.map_cons, List.map_map]
        refine congr (congrArg _ rfl) (List.map_congr_left fun k _ => ?_)
        show bt l (b + (k + 1)) = bt l (b + 1 + k)
        rw [show b + (k + 1) = b + 1 + k by omega]
      rw [e, List.map_cons]
    have lk := look_at hl hb (a := a) (δ := [.val (rowS l n0), v1, v2, .val (.int (b : Int))]) (j := 3) (n0 := n0) (p := (b : Int)) (by decide) rfl rfl (by omega) (by omega)
    rw [er, er2, lcMS]
    show (match mthM 0 "look" m_Row_look (consM 0 (opE 0 (vr 3)) (nilM 0)) a [.val (rowS l n0), v1, v2, .val (.int (b : Int))] with | .ok y o => _ | _ => _) = _
    rw [lk]
    show (match lcMS 0 3 _ a _ [.val (rowS l (n0 + 1)), v1, v2, s3] with | .ok ys o' => _ | _ => _) = _
    rw [lc_look l hl hb a v1 v2 n (b + 1) (n0 + 1) s3 (by omega), Int.toNat_natCast]
    show RM.ok _ (rowS l (n0 + 1 + n)) = RM.ok _ (rowS l (n0 + ((n + 1 : Nat) : Int)))
    rw [show n0 + 1 + (n : Int) = n0 + ((n + 1 : Nat) : Int) by omega]
theorem ones_m (l : List Nat) (hl : l.length ≤ 4096) (hb : ∀ c ∈ l, isBit c) (a : Addr) (n0 : Int) (p : Nat) (hp : p ≤ l.length) : m_Row_ones a [rowS l n0, .int (p : Int)] = .ok (.int (((l.take p).count 49 : Nat) : Int)) (rowS l (n0 + ((p - 32 * (p / 32) : Nat) : Int))) := by
  have hl' : l.length ≤ line := by simp only [line]; omega
  rw [m_Row_ones, runM_eq (by rfl)]; unfold b_Row_ones
  show (seqM _ _ a [.val (rowS l n0), .val (.int (p : Int)), .no, .no]).finM = _
  have hnd := need_rd (l := l) (n0 := n0) (a := a) (δ := [.val (rowS l n0), .val (.int (p : Int)), .no, .no]) (b := true) (fe := chn leD leD (cst (.int 0)) (vr 1) (app lenD (consA (un (fldD "Row" "own") (vr 0)) (nilA)))) rfl (by
    simp only [chn_eq, cst_eq, vr_eq, List.getElem?_cons_succ, List.getElem?_cons_zero, bind_ok, leD_int, lnk_bl, app_eq, consA_eq, nilA_eq, un_eq, f_own, lenD_str hl']
    simp [hp])
  rw [if_pos rfl] at hnd
  rw [seqM_to hnd]
  have hq : (p : Int) / 32 = ((p / 32 : Nat) : Int) := by omega
  rw [seqM_to (δ' := [.val (rowS l n0), .val (.int (p : Int)), .val (.int ((p / 32 : Nat) : Int)), .no]) (by
    rw [opS_nx (δ' := [.val (.opq a), .val (.int (p : Int)), .val (.int ((p / 32 : Nat) : Int)), .no]) (by
      simp only [asg_eq, bin_eq, vr_eq, List.set, List.getElem?_cons_succ, List.getElem?_cons_zero, bind_ok, cst_eq, fdivD_int (show (0 : Int) < 32 ∧ (32 : Int) < 2 ^ 200 by decide), hq, out_ok]) rfl]
    rfl)]
  have um : mth "Row" "up_to" d_Row_up_to (vr 0) (consA (vr 2) nilA) [.val (rowS l n0), .val (.int (p : Int)), .val (.int ((p / 32 : Nat) : Int)), .no] = .ok (.int (((l.take (32 * (p / 32))).count 49 : Nat) : Int)) := by
    rw [row_mth (l := l) (n0 := n0) (xs := [.int ((p / 32 : Nat) : Int)]) rfl rfl (by decide +kernel), up_to_is l n0 hl (p / 32) (by omega)]
  have m : mulOk ((p / 32 : Nat) : Int) 32 = true := by unfold mulOk; simp
  have ru : asRng2 [.int (((p / 32 : Nat) : Int) * 32), .int (p : Int)] = .ok ((List.range (p - 32 * (p / 32))).map fun (k : Nat) => .int (((32 * (p / 32) : Nat) : Int) + (k : Int))) := by
    rw [rng2 ⟨okI_of (by omega) (by omega), okI_of (by omega) (by omega)⟩]
    unfold Dn.upTo
    rw [show ((p : Int) - ((p / 32 : Nat) : Int) * 32).toNat = p - 32 * (p / 32) by omega, show ((p / 32 : Nat) : Int) * 32 = ((32 * (p / 32) : Nat) : Int) by omega]
  have lc := lc_look l hl hb a (.val (.int (p : Int))) (.val (.int ((p / 32 : Nat) : Int))) (p - 32 * (p / 32)) (32 * (p / 32)) n0 .no (by omega)
  have elc : lcM 0 3 (consM 0 (opE 0 (bin mulD (vr 2) (cst (.int (32))))) (consM 0 (opE 0 (vr 1)) (nilM 0))) (mthM 0 "look" m_Row_look (consM 0 (opE 0 (vr 3)) (nilM 0))) a [.val (rowS l n0), .val (.int (p : Int)), .val (.int ((p / 32 : Nat) : Int)), .no] = .ok (.lst (((List.range (p - 32 * (p / 32))).map fun k => bt l (32 * (p / 32) + k)).map D.int)) (rowS l (n0 + ((p - 32 * (p / 32) : Nat) : Int))) := by
    unfold lcM
    rw [if_pos (by decide), consM_ok (o := rowS l n0) (xs := [.int (p : Int)]) (o1 := rowS l n0) (opE_ok (d := .int (((p / 32 : Nat) : Int) * 32)) (by simp only [bin_eq, vr_eq, List.set, List.getElem?_cons_succ, List.getElem?_cons_zero, bind_ok, cst_eq, mulD_int m])) (consM_ok (o := rowS l n0) (opE_ok (d := .int (p : Int)) rfl) rfl (Nat.succ_pos _)) (Nat.succ_pos _), bindM_ok, ru]
    dsimp only
    rw [if_pos (by rw [List.length_map, List.length_range]; simp only [line]; omega)]
    show (match lcMS 0 3 _ a _ [.val (rowS l n0), .val (.int (p : Int)), .val (.int ((p / 32 : Nat) : Int)), .no] with | .ok ys o => _ | _ => _) = _
    rw [lc]
  have sm : sumD [.lst (((List.range (p - 32 * (p / 32))).map fun k => bt l (32 * (p / 32) + k)).map D.int)] = .ok (.int (((((l.drop (32 * (p / 32))).take (p - 32 * (p / 32))).count 49 : Nat)) : Int)) := by
    have e : sumD [.lst (((List.range (p - 32 * (p / 32))).map fun k => bt l (32 * (p / 32) + k)).map D.int)] = (match intsO (((List.range (p - 32 * (p / 32))).map fun k => bt l (32 * (p / 32) + k)).map D.int) with | some ns => .ok (.int ns.sum) | _ => .stuck) := rfl
    rw [e, Dn.ints_map]
    show Res.ok (D.int ((List.range (p - 32 * (p / 32))).map fun k => bt l (32 * (p / 32) + k)).sum) = _
    rw [bt_sum l hb (p - 32 * (p / 32)) (32 * (p / 32)) (by omega)]
  have tc := take_count l 49 (32 * (p / 32)) (p - 32 * (p / 32))
  rw [show 32 * (p / 32) + (p - 32 * (p / 32)) = p by omega] at tc
  generalize hN : rowS l (n0 + ((p - 32 * (p / 32) : Nat) : Int)) = oN at elc ⊢
  generalize hL : ((List.range (p - 32 * (p / 32))).map fun k => bt l (32 * (p / 32) + k)).map D.int = ls at elc sm
  have e1 : rdE 0 (mth "Row" "up_to" d_Row_up_to (vr 0) (consA (vr 2) nilA)) a [.val (rowS l n0), .val (.int (p : Int)), .val (.int ((p / 32 : Nat) : Int)), .no] = .ok (.int (((l.take (32 * (p / 32))).count 49 : Nat) : Int)) (rowS l n0) := rdE_ok um rfl
  have e2 := consM_ok (i := 0) (fr := nilM 0) elc (nilM_ok.trans (by rw [cur_set (Nat.succ_pos _)])) (Nat.succ_pos _)
  have e3 := appM_ok e2 sm (Nat.succ_pos _)
  have e4 := binM_ok (i := 0) (g := addD) (z := .int (((l.take p).count 49 : Nat) : Int)) e1 e3 (by rw [addD_int, tc]; rfl) (Nat.succ_pos _)
  rw [retM_ok e4 (Nat.succ_pos _)]
  rfl
theorem noughts_m (l : List Nat) (hl : l.length ≤ 4096) (hb : ∀ c ∈ l, isBit c) (a : Addr) (n0 : Int) (p : Nat) (hp : p ≤ l.length) : m_Row_noughts a [rowS l n0, .int (p : Int)] = .ok (.int (((l.take p).count 48 : Nat) : Int)) (rowS l (n0 + ((p - 32 * (p / 32) : Nat) : Int))) := by
  rw [m_Row_noughts, runM_eq (by rfl)]; unfold b_Row_noughts
  show (retM _ _ a [.val (rowS l n0), .val (.int (p : Int))]).finM = _
  have e := cnt_both (l.take p) fun c hc => hb c (List.mem_of_mem_take hc)
  rw [List.length_take, Nat.min_eq_left hp] at e
  have e1 : opE 0 (vr 1) a [.val (rowS l n0), .val (.int (p : Int))] = .ok (.int (p : Int)) (rowS l n0) := opE_ok rfl
  have e2 : consM 0 (opE 0 (vr 1)) (nilM 0) a [.val (rowS l n0), .val (.int (p : Int))] = .ok [.int (p : Int)] (rowS l n0) := consM_ok e1 rfl (Nat.succ_pos _)
  have e3 := (row_mm (m := "ones") (g := m_Row_ones) (l := l) (n0 := n0) (δ := [.val (rowS l n0), .val (.int (p : Int))]) rfl e2 (by decide +kernel)).trans (ones_m l hl hb a n0 p hp)
  have e4 := binM_ok (i := 0) (g := subD) (z := .int (((l.take p).count 48 : Nat) : Int)) e1 e3 (by rw [subD_int]; congr 2; omega) (Nat.succ_pos _)
  rw [retM_ok e4 (Nat.succ_pos _)]
  rfl
end Lw


set_option Elab.async false
set_option linter.all false
set_option maxRecDepth 100000
set_option maxHeartbeats 4000000
namespace Lw
open PySem PySem.Spec PyProof.Rows L2 Dn
/-! ### the place of a bit, with what is looked at -/
theorem wh_foundM (l : List Nat) (n0 : Int) (a : Addr) (hl : l.length ≤ 4096) (hb : ∀ c ∈ l, isBit c) {c : Nat} {s : Int} (hs : Sg c s) (k : Nat) (s6 s7 : Slot) : ∀ (n lo hi : Nat) (s5 : Slot), lo ≤ hi → hi ≤ l.length / 32 → (l.take (32 * lo)).count c ≤ k → (hi = l.length / 32 ∨ k < (l.take (32 * (hi + 1))).count c) → hi - lo < n →
    ∃ (b : Nat) (s5' : Slot), whM 0 (opT 0 (tst (bin ltD (vr 3) (vr 4)))) wm_Row_found_at_1 n a
      [.val (rowS l n0), .val (.int (k : Int)), .val (.int s), .val (.int (lo : Int)), .val (.int (hi : Int)), s5, s6, s7] = .nx [.val (rowS l n0), .val (.int (k : Int)), .val (.int s), .val (.int (b : Int)), .val (.int (b : Int)), s5', s6, s7]
      ∧ b ≤ l.length / 32 ∧ (l.take (32 * b)).count c ≤ k ∧ (b = l.length / 32 ∨ k < (l.take (32 * (b + 1))).count c)
  | 0, _, _, _, _, _, _, _, h => absurd h (Nat.not_lt_zero _)
  | n + 1, lo, hi, s5, h1, h2, h3, h4, h5 => by
    by_cases hlt : lo < hi
    · have hmid : ((lo : Int) + (hi : Int) + 1) / 2 = (((lo + hi + 1) / 2 : Nat) : Int) := by omega
      generalize hm : (lo + hi + 1) / 2 = mid at hmid
      have hm1 : lo + 1 ≤ mid ∧ mid ≤ hi := by omega
      have ht : opT 0 (tst (bin ltD (vr 3) (vr 4))) a [.val (rowS l n0), .val (.int (k : Int)), .val (.int s), .val (.int (lo : Int)), .val (.int (hi : Int)), s5, s6, s7] = .ok true (rowS l n0) := opT_ok (by
        simp only [tst_eq, bin_eq, vr_eq, List.set, List.getElem?_cons_succ, List.getElem?_cons_zero, bind_ok, ltD_int, asB_bl, decide_eq_true (show (lo : Int) < (hi : Int) by omega)])
      have am : mth "Row" "ahead" d_Row_ahead (vr 0) (consA (vr 5) (consA (vr 2) nilA)) [.val (rowS l n0), .val (.int (k : Int)), .val (.int s), .val (.int (lo : Int)), .val (.int (hi : Int)), .val (.int (mid : Int)), s6, s7] = .ok (.int (((l.take (32 * mid)).count c : Nat) : Int)) := by
        rw [row_mth (l := l) (n0 := n0) (xs := [.int (mid : Int), .int s]) rfl rfl (by decide +kernel), ahead_is l n0 hl hb hs mid (by omega)]
      have st : opS 0 (asg 5 (bin fdivD (bin addD (bin addD (vr 3) (vr 4)) (cst (.int 1))) (cst (.int 2)))) a [.val (rowS l n0), .val (.int (k : Int)), .val (.int s), .val (.int (lo : Int)), .val (.int (hi : Int)), s5, s6, s7] = .nx [.val (rowS l n0), .val (.int (k : Int)), .val (.int s), .val (.int (lo : Int)), .val (.int (hi : Int)), .val (.int (mid : Int)), s6, s7] :=
        opS_nx (δ' := [.val (.opq a), .val (.int (k : Int)), .val (.int s), .val (.int (lo : Int)), .val (.int (hi : Int)), .val (.int (mid : Int)), s6, s7]) (by
          simp only [asg_eq, bin_eq, vr_eq, List.set, List.getElem?_cons_succ, List.getElem?_cons_zero, bind_ok, cst_eq, addD_int, fdivD_int (show (0 : Int) < 2 ∧ (2 : Int) < 2 ^ 200 by decide), hmid, out_ok]) rfl
      have tt : rdT 0 (tst (bin leD (mth "Row" "ahead" d_Row_ahead (vr 0) (consA (vr 5) (consA (vr 2) (nilA)))) (vr 1))) a [.val (rowS l n0), .val (.int (k : Int)), .val (.int s), .val (.int (lo : Int)), .val (.int (hi : Int)), .val (.int (mid : Int)), s6, s7] = .ok (decide ((l.take (32 * mid)).count c ≤ k)) (rowS l n0) := rdT_ok (by
        rw [tst_eq, bin_eq, am]
        simp only [vr_eq, List.getElem?_cons_succ, List.getElem?_cons_zero, bind_ok, leD_int, asB_bl]
        congr 1
        exact decide_eq_decide.mpr (by omega))
      by_cases hc : (l.take (32 * mid)).count c ≤ k
      · obtain ⟨b, s5', e, r⟩ := wh_foundM l n0 a hl hb hs k s6 s7 n mid hi (.val (.int (mid : Int))) (by omega) h2 hc h4 (by omega)
        refine ⟨b, s5', ?_, r⟩
        rw [whM_step (δ' := [.val (rowS l n0), .val (.int (k : Int)), .val (.int s), .val (.int (mid : Int)), .val (.int (hi : Int)), .val (.int (mid : Int)), s6, s7]) ht (by
          unfold wm_Row_found_at_1
          show seqM _ _ a [.val (rowS l n0), .val (.int (k : Int)), .val (.int s), .val (.int (lo : Int)), .val (.int (hi : Int)), s5, s6, s7] = _
          rw [seqM_to st, ifM_ok tt, if_pos (decide_eq_true hc)]
          exact opS_nx (δ' := [.val (.opq a), .val (.int (k : Int)), .val (.int s), .val (.int (mid : Int)), .val (.int (hi : Int)), .val (.int (mid : Int)), s6, s7]) rfl rfl), e]
      · obtain ⟨b, s5', e, r⟩ := wh_foundM l n0 a hl hb hs k s6 s7 n lo (mid - 1) (.val (.int (mid : Int))) (by omega) (by omega) h3 (.inr (by rw [show mid - 1 + 1 = mid by omega]; omega)) (by omega)
        refine ⟨b, s5', ?_, r⟩
        rw [whM_step (δ' := [.val (rowS l n0), .val (.int (k : Int)), .val (.int s), .val (.int (lo : Int)), .val (.int ((mid - 1 : Nat) : Int)), .val (.int (mid : Int)), s6, s7]) ht (by
          unfold wm_Row_found_at_1
          show seqM _ _ a [.val (rowS l n0), .val (.int (k : Int)), .val (.int s), .val (.int (lo : Int)), .val (.int (hi : Int)), s5, s6, s7] = _
          rw [seqM_to st, ifM_ok tt, decide_eq_false hc, if_neg Bool.false_ne_true]
          exact opS_nx (δ' := [.val (.opq a), .val (.int (k : Int)), .val (.int s), .val (.int (lo : Int)), .val (.int ((mid - 1 : Nat) : Int)), .val (.int (mid : Int)), s6, s7]) (by
            simp only [asg_eq, bin_eq, vr_eq, List.set, List.getElem?_cons_succ, List.getElem?_cons_zero, bind_ok, cst_eq, subD_int, out_ok]
            rw [show (mid : Int) - 1 = ((mid - 1 : Nat) : Int) by omega]) rfl), e]
    · have : lo = hi := by omega
      subst this
      refine ⟨lo, s5, whM_end (o := rowS l n0) (opT_ok ?_), h2, h3, h4⟩
      simp only [tst_eq, bin_eq, vr_eq, List.set, List.getElem?_cons_succ, List.getElem?_cons_zero, bind_ok, ltD_int, asB_bl, decide_eq_false (show ¬ (lo : Int) < (lo : Int) by omega)]
def scB : Addr → Sto → OM := ifM 0 (tstM 0 (binM 0 eqD (mthM 0 "look" m_Row_look (consM 0 (opE 0 (vr 7)) (nilM 0))) (opE 0 (vr 2)))) (seqM (opS 0 (ifS (tst (bin eqD (vr 6) (cst (.int 0)))) (retS (vr 7)) (nopS)))
  (opS 0 (asg 6 (bin subD (vr 6) (cst (.int 1)))))) (nopM)
theorem scanM (l : List Nat) (a : Addr) (hl : l.length ≤ 4096) (hb : ∀ c ∈ l, isBit c) {c : Nat} {s : Int} (hs : Sg c s) (v1 v3 v4 v5 : Slot) : ∀ (n b k : Nat) (n0 : Int) (s7 : Slot), b + n ≤ l.length →
    ∃ (m : Nat) (k' s7' : Slot), m ≤ n ∧ forMS 7 scB a ((List.range n).map fun (i : Nat) => .int ((b : Int) + (i : Int))) [.val (rowS l n0), v1, .val (.int s), v3, v4, v5, .val (.int (k : Int)), s7] =
      match (pos c ((l.drop b).take n))[k]? with
      | some j => .rt (.int ((b + j : Nat) : Int)) (rowS l (n0 + m))
      | none => .nx [.val (rowS l (n0 + m)), v1, .val (.int s), v3, v4, v5, k', s7']
  | 0, b, k, n0, s7, _ => ⟨0, _, _, Nat.le_refl _, by
    rw [List.take_zero]
    show OM.nx [.val (rowS l n0), _, _, _, _, _, _, _] = OM.nx [.val (rowS l (n0 + ((0 : Nat) : Int))), _, _, _, _, _, _, _]
    rw [show n0 + ((0 : Nat) : Int) = n0 by omega]⟩
  | n + 1, b, k, n0, s7, h => by
    have ha : b < l.length := by omega
    have er : (List.range (n + 1)).map (fun (i : Nat) => D.int ((b : Int) + (i : Int))) = .int (b : Int) :: (List.range n).map fun (i : Nat) => D.int (((b + 1 : Nat) : Int) + (i : Int)) := by
      rw [List.range_succ_eq_map, List.map_cons, List.map_map]
      have h0 : D.int ((b : Int) + ((0 : Nat) : Int)) = .int (b : Int) := by simp
      rw [h0]
      refine congrArg _ (List.map_congr_left fun i _ => ?_)
      show D.int ((b : Int) + ((i + 1 : Nat) : Int)) = D.int (((b + 1 : Nat) : Int) + (i : Int))
      rw [show (b : Int) + ((i + 1 : Nat) : Int) = ((b + 1 : Nat) : Int) + (i : Int) by omega]
    have hg : bt l b = ((l[b] - 48 : Nat) : Int) := by
      unfold bt
      simp [ha]
    have hiff : bt l b = s ↔ l[b] = c := by
      rw [hg]
      rcases hb _ (List.getElem_mem ha) with q | q <;> rw [q] <;> rcases hs with ⟨rfl, rfl⟩ | ⟨rfl, rfl⟩ <;> decide
    have lk := look_at hl hb (a := a) (δ := [.val (rowS l n0), v1, .val (.int s), v3, v4, v5, .val (.int (k : Int)), .val (.int (b : Int))]) (j := 7) (n0 := n0) (p := (b : Int)) (by decide) rfl rfl (by omega) (by omega)
    rw [Int.toNat_natCast] at lk
    have et : tstM 0 (binM 0 eqD (mthM 0 "look" m_Row_look (consM 0 (opE 0 (vr 7)) (nilM 0))) (opE 0 (vr 2))) a [.val (rowS l n0), v1, .val (.int s), v3, v4, v5, .val (.int (k : Int)), .val (.int (b : Int))] = .ok (decide (l[b] = c)) (rowS l (n0 + 1)) :=
      tstM_ok (binM_ok (i := 0) (g := eqD) lk (y := .int s) (o2 := rowS l (n0 + 1)) (opE_ok rfl) (by rw [eqD_int]; congr 2; exact decide_eq_decide.mpr hiff) (Nat.succ_pos _)) (Nat.succ_pos _)
    have n1 : ∀ m : Nat, n0 + 1 + (m : Int) = n0 + ((m + 1 : Nat) : Int) := fun m => by omega
    rw [er, seg_cons l b n ha, pos]
    by_cases hc : l[b] = c
    · rw [if_pos hc]
      rw [decide_eq_true hc] at et
      cases k with
      | zero =>
        refine ⟨1, .no, .no, by omega, ?_⟩
        rw [forMS_rt (d := .int (b : Int)) (o := rowS l (n0 + 1)) (by
          show scB a [.val (rowS l n0), v1, .val (.int s), v3, v4, v5, .val (.int ((0 : Nat) : Int)), .val (.int (b : Int))] = _
          unfold scB
          rw [ifM_ok et, if_pos rfl]
          exact seqM_rt rfl)]
        rfl
      | succ k =>
        obtain ⟨m, k', s7', hm, e⟩ := scanM l a hl hb hs v1 v3 v4 v5 n (b + 1) k (n0 + 1) (.val (.int (b : Int))) (by omega)
        refine ⟨m + 1, k', s7', by omega, ?_⟩
        rw [forMS_step (δ' := [.val (rowS l (n0 + 1)), v1, .val (.int s), v3, v4, v5, .val (.int (k : Int)), .val (.int (b : Int))]) (by
          show scB a [.val (rowS l n0), v1, .val (.int s), v3, v4, v5, .val (.int ((k + 1 : Nat) : Int)), .val (.int (b : Int))] = _
          unfold scB
          rw [ifM_ok et, if_pos rfl]
          show seqM _ _ a [.val (rowS l (n0 + 1)), v1, .val (.int s), v3, v4, v5, .val (.int ((k + 1 : Nat) : Int)), .val (.int (b : Int))] = _
          rw [seqM_to (δ' := [.val (rowS l (n0 + 1)), v1, .val (.int s), v3, v4, v5, .val (.int ((k + 1 : Nat) : Int)), .val (.int (b : Int))]) (opS_nx (δ' := [.val (.opq a), v1, .val (.int s), v3, v4, v5, .val (.int ((k + 1 : Nat) : Int)), .val (.int (b : Int))]) (by
            simp only [ifS_eq, tst_eq, bin_eq, vr_eq, List.set, List.getElem?_cons_succ, List.getElem?_cons_zero, bind_ok, cst_eq, eqD_int, asB_bl, out_ok, decide_eq_false (show ¬ ((k + 1 : Nat) : Int) = 0 by omega), Bool.false_eq_true, if_false, nopS_eq]) rfl)]
          exact opS_nx (δ' := [.val (.opq a), v1, .val (.int s), v3, v4, v5, .val (.int (k : Int)), .val (.int (b : Int))]) (by
            simp only [asg_eq, bin_eq, vr_eq, List.set, List.getElem?_cons_succ, List.getElem?_cons_zero, bind_ok, cst_eq, subD_int, out_ok]
            rw [show ((k + 1 : Nat) : Int) - 1 = (k : Int) by omega]) rfl), e]
        rw [List.getElem?_cons_succ, List.getElem?_map, n1 m]
        cases (pos c ((l.drop (b + 1)).take n))[k]? with
        | none => rfl
        | some j =>
          show OM.rt (.int ((b + 1 + j : Nat) : Int)) _ = .rt (.int ((b + (j + 1) : Nat) : Int)) _
          rw [show b + 1 + j = b + (j + 1) by omega]
    · rw [if_neg hc]
      rw [decide_eq_false hc] at et
      obtain ⟨m, k', s7', hm, e⟩ := scanM l a hl hb hs v1 v3 v4 v5 n (b + 1) k (n0 + 1) (.val (.int (b : Int))) (by omega)
      refine ⟨m + 1, k', s7', by omega, ?_⟩
      rw [forMS_step (δ' := [.val (rowS l (n0 + 1)), v1, .val (.int s), v3, v4, v5, .val (.int (k : Int)), .val (.int (b : Int))]) (by
        show scB a [.val (rowS l n0), v1, .val (.int s), v3, v4, v5, .val (.int (k : Int)), .val (.int (b : Int))] = _
        unfold scB
        rw [ifM_ok et, if_neg Bool.false_ne_true]
        rfl), e]
      rw [List.getElem?_map, n1 m]
      cases (pos c ((l.drop (b + 1)).take n))[k]? with
      | none => rfl
      | some j =>
        show OM.rt (.int ((b + 1 + j : Nat) : Int)) _ = .rt (.int ((b + (j + 1) : Nat) : Int)) _
        rw [show b + 1 + j = b + (j + 1) by omega]
theorem found_m (l : List Nat) (hl : l.length ≤ 4096) (hb : ∀ c ∈ l, isBit c) {c : Nat} {s : Int} (hs : Sg c s) (a : Addr) (n0 : Int) (k : Nat) : ∃ m : Nat, m ≤ 32 ∧ m_Row_found_at a [rowS l n0, .int (k : Int), .int s] = .ok (optD (pos c l)[k]?) (rowS l (n0 + m)) := by
  have hl' : l.length ≤ line := by simp only [line]; omega
  rw [m_Row_found_at, runM_eq (by rfl)]; unfold b_Row_found_at
  show ∃ m : Nat, m ≤ 32 ∧ (seqM _ _ a [.val (rowS l n0), .val (.int (k : Int)), .val (.int s), .no, .no, .no, .no, .no]).finM = _
  have hnd := need_rd (l := l) (n0 := n0) (a := a) (δ := [.val (rowS l n0), .val (.int (k : Int)), .val (.int s), .no, .no, .no, .no, .no]) (b := true) (fe := bin geD (vr 1) (cst (.int 0))) rfl (by
    simp only [bin_eq, vr_eq, List.getElem?_cons_succ, List.getElem?_cons_zero, bind_ok, cst_eq, geD_int, decide_eq_true (show (0 : Int) ≤ (k : Int) by omega)])
  rw [if_pos rfl] at hnd
  rw [seqM_to hnd]
  rw [seqM_to (δ' := [.val (rowS l n0), .val (.int (k : Int)), .val (.int s), .val (.int ((0 : Nat) : Int)), .no, .no, .no, .no]) (opS_nx (δ' := [.val (.opq a), .val (.int (k : Int)), .val (.int s), .val (.int ((0 : Nat) : Int)), .no, .no, .no, .no]) rfl rfl)]
  have ew : rdE 0 (un (fldD "Row" "whole_blocks") (vr 0)) a [.val (rowS l n0), .val (.int (k : Int)), .val (.int s), .val (.int ((0 : Nat) : Int)), .no, .no, .no, .no] = .ok (.int ((l.length / 32 : Nat) : Int)) (rowS l n0) := rdE_ok (by simp only [un_eq, vr_eq, List.getElem?_cons_zero, bind_ok, f_wb]) rfl
  rw [seqM_to (δ' := [.val (rowS l n0), .val (.int (k : Int)), .val (.int s), .val (.int ((0 : Nat) : Int)), .val (.int ((l.length / 32 : Nat) : Int)), .no, .no, .no]) (asgM_ok ew (by decide))]
  obtain ⟨b, s5, ewh, b1, b2, b3⟩ := wh_foundM l n0 a hl hb hs k .no .no 2000000 0 (l.length / 32) .no (Nat.zero_le _) (Nat.le_refl _) (by simp) (.inl rfl) (by omega)
  rw [seqM_to ewh]
  have am : mth "Row" "ahead" d_Row_ahead (vr 0) (consA (vr 3) (consA (vr 2) nilA)) [.val (rowS l n0), .val (.int (k : Int)), .val (.int s), .val (.int (b : Int)), .val (.int (b : Int)), s5, .no, .no] = .ok (.int (((l.take (32 * b)).count c : Nat) : Int)) := by
    rw [row_mth (l := l) (n0 := n0) (xs := [.int (b : Int), .int s]) rfl rfl (by decide +kernel), ahead_is l n0 hl hb hs b b1]
  have e6 : rdE 0 (bin subD (vr 1) (mth "Row" "ahead" d_Row_ahead (vr 0) (consA (vr 3) (consA (vr 2) (nilA))))) a [.val (rowS l n0), .val (.int (k : Int)), .val (.int s), .val (.int (b : Int)), .val (.int (b : Int)), s5, .no, .no] = .ok (.int ((k - (l.take (32 * b)).count c : Nat) : Int)) (rowS l n0) := rdE_ok (by
    rw [bin_eq, am]
    simp only [vr_eq, List.getElem?_cons_succ, List.getElem?_cons_zero, bind_ok, subD_int]
    rw [show (k : Int) - (((l.take (32 * b)).count c : Nat) : Int) = ((k - (l.take (32 * b)).count c : Nat) : Int) by omega]) rfl
  rw [seqM_to (δ' := [.val (rowS l n0), .val (.int (k : Int)), .val (.int s), .val (.int (b : Int)), .val (.int (b : Int)), s5, .val (.int ((k - (l.take (32 * b)).count c : Nat) : Int)), .no]) (asgM_ok e6 (by decide))]
  obtain ⟨m, k', s7', hm, es⟩ := scanM l a hl hb hs (.val (.int (k : Int))) (.val (.int (b : Int))) (.val (.int (b : Int))) s5 (min l.length (32 * (b + 1)) - 32 * b) (32 * b) (k - (l.take (32 * b)).count c) n0 .no (by omega)
  refine ⟨m, by omega, ?_⟩
  have m1 : mulOk (b : Int) 32 = true := by unfold mulOk; simp
  have m2 : mulOk ((b : Int) + 1) 32 = true := by unfold mulOk; simp
  have ru : asRng2 [.int ((b : Int) * 32), .int (min (l.length : Int) (((b : Int) + 1) * 32))] = .ok ((List.range (min l.length (32 * (b + 1)) - 32 * b)).map fun (i : Nat) => .int (((32 * b : Nat) : Int) + (i : Int))) := by
    rw [rng2 ⟨okI_of (by omega) (by omega), okI_of (by omega) (by omega)⟩]
    unfold Dn.upTo
    rw [show (min (l.length : Int) (((b : Int) + 1) * 32) - (b : Int) * 32).toNat = min l.length (32 * (b + 1)) - 32 * b by omega, show (b : Int) * 32 = ((32 * b : Nat) : Int) by omega]
  rw [pos_seg l c b k b2 b3 b1]
  generalize hδ : ([.val (rowS l n0), .val (.int (k : Int)), .val (.int s), .val (.int (b : Int)), .val (.int (b : Int)), s5, .val (.int ((k - (l.take (32 * b)).count c : Nat) : Int)), .no] : Sto) = δ at es ⊢
  have h0 : δ[0]? = some (.val (rowS l n0)) := by rw [← hδ]; rfl
  have hlen : 0 < δ.length := by rw [← hδ]; exact Nat.succ_pos _
  have a1 : opE 0 (bin mulD (vr 3) (cst (.int (32)))) a δ = .ok (.int ((b : Int) * 32)) (rowS l n0) := by
    rw [opE_ok (d := .int ((b : Int) * 32)) (by rw [← hδ]; simp only [bin_eq, vr_eq, List.set, List.getElem?_cons_succ, List.getElem?_cons_zero, bind_ok, cst_eq, mulD_int m1]), cur_is h0]
  have es0 : δ.set 0 (.val (rowS l n0)) = δ := by rw [← hδ]; rfl
  have a2 : rdE 0 (app min2D (consA (app lenD (consA (un (fldD "Row" "own") (vr 0)) (nilA))) (consA (bin mulD (bin addD (vr 3) (cst (.int 1))) (cst (.int (32)))) (nilA)))) a δ = .ok (.int (min (l.length : Int) (((b : Int) + 1) * 32))) (rowS l n0) := by
    rw [rdE_ok (d := .int (min (l.length : Int) (((b : Int) + 1) * 32))) (by
      rw [← hδ]
      simp only [consA_eq, nilA_eq, bin_eq, app_eq, un_eq, vr_eq, List.getElem?_cons_succ, List.getElem?_cons_zero, bind_ok, cst_eq, addD_int, mulD_int m2, f_own, lenD_str hl', min2D_int]) rfl, cur_is h0]
  have a3 := consM_ok (i := 0) (fr := nilM 0) a2 (nilM_ok.trans (by rw [cur_set hlen])) hlen
  have a4 := consM_ok (i := 0) a1 (by rw [es0]; exact a3) hlen
  have ef : forR 0 7 (consM 0 (opE 0 (bin mulD (vr 3) (cst (.int (32))))) (consM 0 (rdE 0 (app min2D (consA (app lenD (consA (un (fldD "Row" "own") (vr 0)) (nilA))) (consA (bin mulD (bin addD (vr 3) (cst (.int 1))) (cst (.int (32)))) (nilA))))) (nilM 0))) scB a δ = forMS 7 scB a ((List.range (min l.length (32 * (b + 1)) - 32 * b)).map fun (i : Nat) => .int (((32 * b : Nat) : Int) + (i : Int))) δ := by
    unfold forR
    rw [if_pos (by decide), a4, outM_ok, ru, es0]
  change (seqM (forR 0 7 _ scB) _ a δ).finM = _
  cases hp : (pos c ((l.drop (32 * b)).take (min l.length (32 * (b + 1)) - 32 * b)))[k - (l.take (32 * b)).count c]? with
  | none =>
    rw [hp] at es
    rw [seqM_to (ef.trans es)]
    rfl
  | some j =>
    rw [hp] at es
    rw [seqM_rt (ef.trans es)]
    rfl
theorem one_at_m (l : List Nat) (hl : l.length ≤ 4096) (hb : ∀ c ∈ l, isBit c) (a : Addr) (n0 : Int) (k : Nat) : ∃ m : Nat, m ≤ 32 ∧ m_Row_one_at a [rowS l n0, .int (k : Int)] = .ok (optD (pos 49 l)[k]?) (rowS l (n0 + m)) := by
  obtain ⟨m, hm, e⟩ := found_m l hl hb (c := 49) (s := 1) (.inl ⟨rfl, rfl⟩) a n0 k
  refine ⟨m, hm, ?_⟩
  rw [m_Row_one_at, runM_eq (by rfl)]; unfold b_Row_one_at
  show (retM _ _ a [.val (rowS l n0), .val (.int (k : Int))]).finM = _
  have e1 : opE 0 (vr 1) a [.val (rowS l n0), .val (.int (k : Int))] = .ok (.int (k : Int)) (rowS l n0) := opE_ok rfl
  have e2 : consM 0 (opE 0 (vr 1)) (consM 0 (opE 0 (cst (.int 1))) (nilM 0)) a [.val (rowS l n0), .val (.int (k : Int))] = .ok [.int (k : Int), .int 1] (rowS l n0) := consM_ok e1 (consM_ok (o := rowS l n0) (opE_ok rfl) rfl (Nat.succ_pos _)) (Nat.succ_pos _)
  rw [retM_ok ((row_mm (m := "found_at") (g := m_Row_found_at) (l := l) (n0 := n0) (δ := [.val (rowS l n0), .val (.int (k : Int))]) rfl e2 (by decide +kernel)).trans e) (Nat.succ_pos _)]
  rfl
theorem nought_at_m (l : List Nat) (hl : l.length ≤ 4096) (hb : ∀ c ∈ l, isBit c) (a : Addr) (n0 : Int) (k : Nat) : ∃ m : Nat, m ≤ 32 ∧ m_Row_nought_at a [rowS l n0, .int (k : Int)] = .ok (optD (pos 48 l)[k]?) (rowS l (n0 + m)) := by
  obtain ⟨m, hm, e⟩ := found_m l hl hb (c := 48) (s := 0) (.inr ⟨rfl, rfl⟩) a n0 k
  refine ⟨m, hm, ?_⟩
  rw [m_Row_nought_at, runM_eq (by rfl)]; unfold b_Row_nought_at
  show (retM _ _ a [.val (rowS l n0), .val (.int (k : Int))]).finM = _
  have e1 : opE 0 (vr 1) a [.val (rowS l n0), .val (.int (k : Int))] = .ok (.int (k : Int)) (rowS l n0) := opE_ok rfl
  have e2 : consM 0 (opE 0 (vr 1)) (consM 0 (opE 0 (cst (.int 0))) (nilM 0)) a [.val (rowS l n0), .val (.int (k : Int))] = .ok [.int (k : Int), .int 0] (rowS l n0) := consM_ok e1 (consM_ok (o := rowS l n0) (opE_ok rfl) rfl (Nat.succ_pos _)) (Nat.succ_pos _)
  rw [retM_ok ((row_mm (m := "found_at") (g := m_Row_found_at) (l := l) (n0 := n0) (δ := [.val (rowS l n0), .val (.int (k : Int))]) rfl e2 (by decide +kernel)).trans e) (Nat.succ_pos _)]
  rfl
end Lw


set_option Elab.async false
set_option linter.all false
set_option maxRecDepth 100000
set_option maxHeartbeats 4000000
namespace Lw
open PySem PySem.Spec PyProof.Rows L2 Dn
theorem cut_from {α : Type} (l : List α) (k : Nat) : cutL l (some (k : Int)) none = l.drop k := by
  unfold cutL
  rw [sIx_nat]
  show (l.drop (min k l.length)).take (l.length - min k l.length) = _
  by_cases h : k ≤ l.length
  · rw [Nat.min_eq_left h, List.take_of_length_le (by rw [List.length_drop]; exact Nat.le_refl _)]
  · rw [Nat.min_eq_right (by omega), List.drop_of_length_le (Nat.le_refl _), List.drop_of_length_le (by omega), List.take_nil]
theorem cut_to {α : Type} (l : List α) (k : Nat) : cutL l none (some (k : Int)) = l.take k := by
  unfold cutL
  rw [sIx_nat]
  show (l.drop 0).take (min k l.length - 0) = _
  rw [List.drop_zero, Nat.sub_zero, List.take_eq_take_iff]
  omega
theorem lcS_filter {δ : Sto} {gt : D → Sto → Option Sto} {vs : List Nat} {ft : Sto → Res Bool} {fe : Sto → Res D} {p : D → Bool} : ∀ {xs : List D}, (∀ x ∈ xs, ∃ δ', gt x (wipeS δ vs) = some δ' ∧ ft δ' = .ok (p x) ∧ fe δ' = .ok x) → lcS gt vs ft fe xs δ = .ok (xs.filter p)
  | [], _ => rfl
  | x :: xs, h => by
    obtain ⟨δ', e1, e2, e3⟩ := h x List.mem_cons_self
    have ih := lcS_filter (xs := xs) fun y hy => h y (List.mem_cons_of_mem _ hy)
    rw [lcS, e1]
    dsimp only
    rw [e2]
    cases hp : p x with
    | true => simp [e3, ih, hp]
    | false => simp [ih, hp]
theorem lcN_filter {δ : Sto} {j : Nat} {ft : Sto → Res Bool} {p : D → Bool} {fi : Sto → Res (List D)} {xs : List D} (hi : fi δ = .ok xs) (hl : xs.length ≤ line) (hj : j < δ.length) (h : ∀ x ∈ xs, ft ((wipeS δ [j]).set j (.val x)) = .ok (p x)) : lcF fi (tgN j) [j] ft (vr j) δ = .ok (xs.filter p) := by
  unfold lcF
  rw [hi, bind_ok, if_pos hl]
  refine lcS_filter fun x hx => ⟨_, rfl, h x hx, ?_⟩
  rw [vr_eq, List.getElem?_set_self (by simp [wipeS, hj])]
theorem pos_filter (c : Nat) : ∀ l : List Nat, pos c l = (List.range l.length).filter fun i => decide (l[i]? = some c)
  | [] => rfl
  | x :: r => by
    rw [pos, pos_filter c r, List.length_cons, List.range_succ_eq_map]
    have e : ((List.range r.length).map Nat.succ).filter (fun i => decide ((x :: r)[i]? = some c)) = ((List.range r.length).filter fun i => decide (r[i]? = some c)).map (· + 1) := by
      rw [List.filter_map]
      rfl
    by_cases h : x = c
    · rw [if_pos h, List.filter_cons_of_pos (by simp [h]), e]
    · rw [if_neg h, List.filter_cons_of_neg (by simp [h]), e]
theorem pos_lt (c : Nat) (l : List Nat) : ∀ p ∈ pos c l, p < l.length := fun p hp => by
  rw [pos_filter] at hp
  exact List.mem_range.mp (List.mem_filter.mp hp).1
theorem pos_at (c : Nat) (l : List Nat) : ∀ p ∈ pos c l, l.getD p 0 = c := fun p hp => by
  rw [pos_filter] at hp
  have := of_decide_eq_true (List.mem_filter.mp hp).2
  rw [List.getD_eq_getElem?_getD, this]; rfl
/-- [at for at in range(len(x)) if x[at] == c] -/
theorem lc_pos (l : List Nat) (hl : l.length ≤ 4096) (c : Nat) {δ : Sto} {i j : Nat} (hi : δ[i]? = some (.val (.str l))) (hj : j < δ.length) (hij : i ≠ j) :
    lcF (rngA asRng1 (consA (app lenD (consA (vr i) (nilA))) (nilA))) (tgN j) [j] (tst (bin eqD (bin ixD (vr i) (vr j)) (cst (.str [c])))) (vr j) δ = .ok ((pos c l).map fun (p : Nat) => D.int (p : Int)) := by
  have hl' : l.length ≤ line := by simp only [line]; omega
  have lc := lcN_filter (δ := δ) (j := j) (ft := tst (bin eqD (bin ixD (vr i) (vr j)) (cst (.str [c])))) (fi := rngA asRng1 (consA (app lenD (consA (vr i) nilA)) nilA)) (xs := Dn.upTo 0 l.length)
    (p := fun d => match d with | .int i => decide (l[i.toNat]? = some c) | _ => false) (by
      simp only [rngA_eq, consA_eq, nilA_eq, app_eq, vr_eq, hi, bind_ok, lenD_str hl']
      rw [rng1 (okI_of (by omega) (by omega)), Int.toNat_natCast]) (by unfold Dn.upTo; rw [List.length_map, List.length_range]; exact hl') hj fun x hx => by
    unfold Dn.upTo at hx
    obtain ⟨k, hk, rfl⟩ := List.mem_map.mp hx
    have hk := List.mem_range.mp hk
    have ix : ixD (.str l) (.int (0 + (k : Int))) = .ok (.str [l[k]]) := by
      show (if l.length ≤ line then (match atI l (0 + (k : Int)) with | some c => Res.ok (D.str [c]) | none => .stuck) else .stuck) = _
      rw [if_pos hl', Int.zero_add, atI_nn (by omega) (by omega), Int.toNat_natCast, List.getElem?_eq_getElem hk]
    have g1 : ((wipeS δ [j]).set j (.val (.int (0 + (k : Int)))))[i]? = some (.val (.str l)) := by
      rw [List.getElem?_set_ne (Ne.symm hij)]
      simp only [wipeS]
      rw [List.getElem?_set_ne (Ne.symm hij)]
      exact hi
    have g2 : ((wipeS δ [j]).set j (.val (.int (0 + (k : Int)))))[j]? = some (.val (.int (0 + (k : Int)))) := List.getElem?_set_self (by simp [wipeS, hj])
    rw [tst_eq, bin_eq, bin_eq, vr_eq, vr_eq, g1, g2]
    simp only [bind_ok, ix, cst_eq, eqD_str, asB_bl]
    have : l[(0 + (k : Int)).toNat]? = some l[k] := by rw [show (0 + (k : Int)).toNat = k by omega]; exact List.getElem?_eq_getElem hk
    rw [this]
    congr 1
    rw [decide_eq_decide]
    simp
  rw [lc]
  congr 1
  unfold Dn.upTo
  rw [List.filter_map, pos_filter]
  have : ((List.range l.length).filter ((fun d => match d with | D.int i => decide (l[i.toNat]? = some c) | _ => false) ∘ fun (k : Nat) => D.int (0 + (k : Int)))) = (List.range l.length).filter fun i => decide (l[i]? = some c) := by
    refine List.filter_congr fun k _ => ?_
    show decide (l[(0 + (k : Int)).toNat]? = some c) = decide (l[k]? = some c)
    rw [show (0 + (k : Int)).toNat = k by omega]
  rw [this]
  refine List.map_congr_left fun k _ => ?_
  rw [Int.zero_add]
noncomputable def dz (c k : Int) : Int := (drawn_is c k).choose
theorem dz_is (c k : Int) : d__law_drawn [.int c, .int k] = .ok (.int (dz c k)) := (drawn_is c k).choose_spec.1
theorem dz_0 (c k : Int) : 0 ≤ dz c k := (drawn_is c k).choose_spec.2.1
theorem fd_is (a c : Int) (h : 0 < c ∧ c < 2 ^ 200) : fdivD (.int a) (.int c) = .ok (.int (a / c)) := fdivD_int h
theorem md_is (a c : Int) (h : 0 < c ∧ c < 2 ^ 200) : modD (.int a) (.int c) = .ok (.int (a % c)) := modD_int h.1
theorem law_bits_is (n w : Int) (h0 : 0 ≤ w) (h : w ≤ 100000) : d__law_bits [.int n, .int w] = .ok (.str (tb w.toNat n)) := by
  rw [d__law_bits, run_eq (by rfl)]; unfold b__law_bits
  obtain ⟨s', e⟩ := for_bits (Dn.upTo 0 w.toNat) n (.val (.int w)) [] .no (by rw [upTo_len]; simp only [List.length_nil, line]; omega)
  rw [upTo_len] at e
  simp [rng1 (okI_of h0 (by omega)), e]
theorem law_needs_is (z : Int) (h0 : 0 ≤ z) (h : nb z.toNat < 2000000) : d__law_needs [.int z] = .ok (.int (nb z.toNat)) := by
  rw [d__law_needs, run_eq (by rfl)]; unfold b__law_needs
  show (seqS _ _ [.val (.int z), .no]).fin = _
  rw [seq_to (δ' := [.val (.int z), .val (.int 0)]) (by simp only [seqS_eq, seq_nx, seq_rt, seq_rs, asg_eq, asgN_eq, drp_eq, retS_eq, retN_eq, rais_eq, ifS_eq, forF_eq, itS_eq, rngA_eq, vr_eq, cst_eq, bin_eq, un_eq, consA_eq, nilA_eq, app_eq, tst_eq, asB_bl, andT_eq, orT_eq, notT_eq, notD_bl, ifE_eq, newA_eq, lstE_eq, noP_eq, part_eq, asP_int, slc_eq, binS_eq, yes_eq, List.getElem?_cons_succ, List.getElem?_cons_zero, List.set, bind_ok, bind_rs, out_ok, out_rs, fin_rt, fin_rs, fin_nx, if_true, Bool.false_eq_true, if_false, Bool.not_true, Bool.not_false, decide_true, decide_false, nopS_eq, addD_int, subD_int, negD_int, ltD_int, leD_int, gtD_int, geD_int, eqD_int, neD_int, eqD_str, neD_str, lenD_lst, lenD_tup, lenD_scr, max2D_int, min2D_int, asSeq_lst, asSeq_tup, asSeq_str, binN_eq, frzS_eq, appS_eq, ixO_eq, stoS_eq, lenO_eq, asgU_eq, tgU_tup, tgU_lst, tgP_tup, asg2_eq, chn_eq, lnk_bl, isID_int, isID_bl, isID_non, isBD_int, isBD_bl, isBD_non, isPD_tup, isLD_lst, isLD_str, enumD_lst, zipD_lst, List.map_cons, List.map_nil, List.replicate_succ, List.replicate_zero, List.cons_append, List.nil_append])]
  rw [seq_to (wh_needs 2000000 z 0 h0 h)]
  simp only [seqS_eq, seq_nx, seq_rt, seq_rs, asg_eq, asgN_eq, drp_eq, retS_eq, retN_eq, rais_eq, ifS_eq, forF_eq, itS_eq, rngA_eq, vr_eq, cst_eq, bin_eq, un_eq, consA_eq, nilA_eq, app_eq, tst_eq, asB_bl, andT_eq, orT_eq, notT_eq, notD_bl, ifE_eq, newA_eq, lstE_eq, noP_eq, part_eq, asP_int, slc_eq, binS_eq, yes_eq, List.getElem?_cons_succ, List.getElem?_cons_zero, List.set, bind_ok, bind_rs, out_ok, out_rs, fin_rt, fin_rs, fin_nx, if_true, Bool.false_eq_true, if_false, Bool.not_true, Bool.not_false, decide_true, decide_false, nopS_eq, addD_int, subD_int, negD_int, ltD_int, leD_int, gtD_int, geD_int, eqD_int, neD_int, eqD_str, neD_str, lenD_lst, lenD_tup, lenD_scr, max2D_int, min2D_int, asSeq_lst, asSeq_tup, asSeq_str, binN_eq, frzS_eq, appS_eq, ixO_eq, stoS_eq, lenO_eq, asgU_eq, tgU_tup, tgU_lst, tgP_tup, asg2_eq, chn_eq, lnk_bl, isID_int, isID_bl, isID_non, isBD_int, isBD_bl, isBD_non, isPD_tup, isLD_lst, isLD_str, enumD_lst, zipD_lst, List.map_cons, List.map_nil, List.replicate_succ, List.replicate_zero, List.cons_append, List.nil_append, Int.zero_add]
/-! ### the answers by the plain text -/
def due (l : List Nat) (way at' : Nat) : D := match way with
  | 0 => .int (((l.take at').count 49 : Nat) : Int)
  | 1 => .int (((l.take at').count 48 : Nat) : Int)
  | 2 => optD (pos 49 l)[at']?
  | _ => optD (pos 48 l)[at']?
theorem lc_posG (l : List Nat) (hl : l.length ≤ 4096) (c : Nat) {δ : Sto} {i j : Nat} {fs : Sto → Res D} (hi : δ[i]? = some (.val (.str l))) (hj : j < δ.length) (hij : i ≠ j) (hs : ∀ x, fs ((wipeS δ [j]).set j (.val x)) = .ok (.str [c])) :
    lcF (rngA asRng1 (consA (app lenD (consA (vr i) (nilA))) (nilA))) (tgN j) [j] (tst (bin eqD (bin ixD (vr i) (vr j)) fs)) (vr j) δ = .ok ((pos c l).map fun (p : Nat) => D.int (p : Int)) := by
  have hl' : l.length ≤ line := by simp only [line]; omega
  have lc := lcN_filter (δ := δ) (j := j) (ft := tst (bin eqD (bin ixD (vr i) (vr j)) fs)) (fi := rngA asRng1 (consA (app lenD (consA (vr i) nilA)) nilA)) (xs := Dn.upTo 0 l.length)
    (p := fun d => match d with | .int i => decide (l[i.toNat]? = some c) | _ => false) (by
      simp only [rngA_eq, consA_eq, nilA_eq, app_eq, vr_eq, hi, bind_ok, lenD_str hl']
      rw [rng1 (okI_of (by omega) (by omega)), Int.toNat_natCast]) (by unfold Dn.upTo; rw [List.length_map, List.length_range]; exact hl') hj fun x hx => by
    unfold Dn.upTo at hx
    obtain ⟨k, hk, rfl⟩ := List.mem_map.mp hx
    have hk := List.mem_range.mp hk
    have ix : ixD (.str l) (.int (0 + (k : Int))) = .ok (.str [l[k]]) := by
      show (if l.length ≤ line then (match atI l (0 + (k : Int)) with | some c => Res.ok (D.str [c]) | none => .stuck) else .stuck) = _
      rw [if_pos hl', Int.zero_add, atI_nn (by omega) (by omega), Int.toNat_natCast, List.getElem?_eq_getElem hk]
    have g1 : ((wipeS δ [j]).set j (.val (.int (0 + (k : Int)))))[i]? = some (.val (.str l)) := by
      rw [List.getElem?_set_ne (Ne.symm hij)]
      simp only [wipeS]
      rw [List.getElem?_set_ne (Ne.symm hij)]
      exact hi
    have g2 : ((wipeS δ [j]).set j (.val (.int (0 + (k : Int)))))[j]? = some (.val (.int (0 + (k : Int)))) := List.getElem?_set_self (by simp [wipeS, hj])
    rw [tst_eq, bin_eq, bin_eq, vr_eq, vr_eq, g1, g2, hs]
    simp only [bind_ok, ix, eqD_str, asB_bl]
    have : l[(0 + (k : Int)).toNat]? = some l[k] := by rw [show (0 + (k : Int)).toNat = k by omega]; exact List.getElem?_eq_getElem hk
    rw [this]
    congr 1
    rw [decide_eq_decide]
    simp
  rw [lc]
  congr 1
  unfold Dn.upTo
  rw [List.filter_map, pos_filter]
  have : ((List.range l.length).filter ((fun d => match d with | D.int i => decide (l[i.toNat]? = some c) | _ => false) ∘ fun (k : Nat) => D.int (0 + (k : Int)))) = (List.range l.length).filter fun i => decide (l[i]? = some c) := by
    refine List.filter_congr fun k _ => ?_
    show decide (l[(0 + (k : Int)).toNat]? = some c) = decide (l[k]? = some c)
    rw [show (0 + (k : Int)).toNat = k by omega]
  rw [this]
  refine List.map_congr_left fun k _ => ?_
  rw [Int.zero_add]
theorem first_or (ps : List Nat) (n : Nat) (h : ps.length ≤ 4096) : (slD (.lst (ps.map fun (p : Nat) => D.int (p : Int))) (some (n : Int)) none).bind (fun x => (addD x (.lst [.non])).bind fun y => ixD y (.int 0)) = .ok (optD ps[n]?) := by
  show (addD (.lst (cutL (ps.map fun (p : Nat) => D.int (p : Int)) (some (n : Int)) none)) (.lst [.non])).bind _ = _
  rw [cut_from, addD_lst (by rw [List.length_drop, List.length_map]; show ps.length - n + 1 ≤ line; simp only [line]; omega), bind_ok, ← List.map_drop]
  have hd : ps[n]? = (ps.drop n)[0]? := by rw [List.getElem?_drop, Nat.add_zero]
  rw [hd]
  cases ps.drop n with
  | nil => exact ixD_at rfl
  | cons x r => exact ixD_at (by
      rw [atI_nn (by omega) (by rw [List.length_append, List.length_map, List.length_cons]; omega)]
      rfl)
theorem due_is (l : List Nat) (hl : l.length ≤ 4096) (way at' : Nat) (hw : way < 4) : d__law_due [.str l, .int (way : Int), .int (at' : Int)] = .ok (due l way at') := by
  have hl' : l.length ≤ line := by simp only [line]; omega
  rw [d__law_due, run_eq (by rfl)]; unfold b__law_due
  show (seqS _ _ [.val (.str l), .val (.int (way : Int)), .val (.int (at' : Int)), .no, .no]).fin = _
  have i0 : ixD (.str [49, 48]) (.int 0) = .ok (.str [49]) := rfl
  have i1 : ixD (.str [49, 48]) (.int 1) = .ok (.str [48]) := rfl
  have cnt : ∀ c : Nat, (slc (vr 0) noP (part (vr 2)) [.val (.str l), .val (.int (way : Int)), .val (.int (at' : Int)), .no, .no]).bind (fun x => match x with | .str s => countD s (.str [c]) | _ => .stuck) = .ok (.int (((l.take at').count c : Nat) : Int)) := fun c => by
    simp only [slc_eq, part_eq, noP_eq, vr_eq, List.getElem?_cons_succ, List.getElem?_cons_zero, bind_ok, asP_int, slD, if_pos hl', cut_to, countD]
  match way, hw with
  | 0, _ =>
    rw [seqS_eq]
    simp only [ifS_eq, tst_eq, bin_eq, vr_eq, List.getElem?_cons_succ, List.getElem?_cons_zero, bind_ok, cst_eq, ltD_int, asB_bl, decide_eq_true (show ((0 : Nat) : Int) < 2 by decide), out_ok, if_true, retS_eq, binS_eq, slc_eq, part_eq, noP_eq, asP_int, slD, if_pos hl', cut_to, show ixD (.str [49, 48]) (.int ((0 : Nat) : Int)) = .ok (.str [49]) from rfl, countD, seq_rt, fin_rt]
    rfl
  | 1, _ =>
    rw [seqS_eq]
    simp only [ifS_eq, tst_eq, bin_eq, vr_eq, List.getElem?_cons_succ, List.getElem?_cons_zero, bind_ok, cst_eq, ltD_int, asB_bl, decide_eq_true (show ((1 : Nat) : Int) < 2 by decide), out_ok, if_true, retS_eq, binS_eq, slc_eq, part_eq, noP_eq, asP_int, slD, if_pos hl', cut_to, show ixD (.str [49, 48]) (.int ((1 : Nat) : Int)) = .ok (.str [48]) from rfl, countD, seq_rt, fin_rt]
    rfl
  | 2, _ =>
    rw [seq_to (δ' := [.val (.str l), .val (.int ((2 : Nat) : Int)), .val (.int (at' : Int)), .no, .no]) (by simp only [seqS_eq, seq_nx, seq_rt, seq_rs, asg_eq, asgN_eq, drp_eq, retS_eq, retN_eq, rais_eq, ifS_eq, forF_eq, itS_eq, rngA_eq, vr_eq, cst_eq, bin_eq, un_eq, consA_eq, nilA_eq, app_eq, tst_eq, asB_bl, andT_eq, orT_eq, notT_eq, notD_bl, ifE_eq, newA_eq, lstE_eq, noP_eq, part_eq, asP_int, slc_eq, binS_eq, yes_eq, List.getElem?_cons_succ, List.getElem?_cons_zero, List.set, bind_ok, bind_rs, out_ok, out_rs, fin_rt, fin_rs, fin_nx, if_true, Bool.false_eq_true, if_false, Bool.not_true, Bool.not_false, decide_true, decide_false, nopS_eq, addD_int, subD_int, negD_int, ltD_int, leD_int, gtD_int, geD_int, eqD_int, neD_int, eqD_str, neD_str, lenD_lst, lenD_tup, lenD_scr, max2D_int, min2D_int, asSeq_lst, asSeq_tup, asSeq_str, binN_eq, frzS_eq, appS_eq, ixO_eq, stoS_eq, lenO_eq, asgU_eq, tgU_tup, tgU_lst, tgP_tup, asg2_eq, chn_eq, lnk_bl, isID_int, isID_bl, isID_non, isBD_int, isBD_bl, isBD_non, isPD_tup, isLD_lst, isLD_str, enumD_lst, zipD_lst, List.map_cons, List.map_nil, List.replicate_succ, List.replicate_zero, List.cons_append, List.nil_append, decide_eq_false (show ¬ ((2 : Nat) : Int) < 2 by decide)])]
    have lc := lc_posG l hl 49 (δ := [.val (.str l), .val (.int ((2 : Nat) : Int)), .val (.int (at' : Int)), .no, .no]) (i := 0) (j := 4) (fs := bin ixD (cst (.str [49, 48])) (bin subD (vr 1) (cst (.int 2)))) rfl (by show 4 < 5; decide) (by decide) (fun x => rfl)
    rw [seq_to (δ' := [.val (.str l), .val (.int ((2 : Nat) : Int)), .val (.int (at' : Int)), .val (.lst ((pos 49 l).map fun (p : Nat) => D.int (p : Int))), .no]) (by
      rw [asg_eq, lstE_eq, lc]; rfl)]
    have fo := first_or (pos 49 l) at' (by rw [pos_len]; have : l.count 49 ≤ l.length := List.count_le_length; omega)
    have mk1 : mkL [.non] = .ok (.lst [.non]) := mkL_ok (by show 1 ≤ line; decide)
    rw [retS_eq, bin_eq, bin_eq, slc_eq]
    simp only [vr_eq, List.getElem?_cons_succ, List.getElem?_cons_zero, bind_ok, part_eq, noP_eq, asP_int, app_eq, consA_eq, cst_eq, nilA_eq, mk1]
    rw [show (slD (.lst ((pos 49 l).map fun (p : Nat) => D.int (p : Int))) (some (at' : Int)) none).bind (fun x => addD x (.lst [.non])) = (slD (.lst ((pos 49 l).map fun (p : Nat) => D.int (p : Int))) (some (at' : Int)) none).bind (fun x => addD x (.lst [.non])) from rfl]
    have fo' : ((slD (.lst ((pos 49 l).map fun (p : Nat) => D.int (p : Int))) (some (at' : Int)) none).bind (fun x => addD x (.lst [.non]))).bind (fun y => ixD y (.int 0)) = .ok (optD (pos 49 l)[at']?) := fo
    rw [fo']
    rfl
  | 3, _ =>
    rw [seq_to (δ' := [.val (.str l), .val (.int ((3 : Nat) : Int)), .val (.int (at' : Int)), .no, .no]) (by simp only [seqS_eq, seq_nx, seq_rt, seq_rs, asg_eq, asgN_eq, drp_eq, retS_eq, retN_eq, rais_eq, ifS_eq, forF_eq, itS_eq, rngA_eq, vr_eq, cst_eq, bin_eq, un_eq, consA_eq, nilA_eq, app_eq, tst_eq, asB_bl, andT_eq, orT_eq, notT_eq, notD_bl, ifE_eq, newA_eq, lstE_eq, noP_eq, part_eq, asP_int, slc_eq, binS_eq, yes_eq, List.getElem?_cons_succ, List.getElem?_cons_zero, List.set, bind_ok, bind_rs, out_ok, out_rs, fin_rt, fin_rs, fin_nx, if_true, Bool.false_eq_true, if_false, Bool.not_true, Bool.not_false, decide_true, decide_false, nopS_eq, addD_int, subD_int, negD_int, ltD_int, leD_int, gtD_int, geD_int, eqD_int, neD_int, eqD_str, neD_str, lenD_lst, lenD_tup, lenD_scr, max2D_int, min2D_int, asSeq_lst, asSeq_tup, asSeq_str, binN_eq, frzS_eq, appS_eq, ixO_eq, stoS_eq, lenO_eq, asgU_eq, tgU_tup, tgU_lst, tgP_tup, asg2_eq, chn_eq, lnk_bl, isID_int, isID_bl, isID_non, isBD_int, isBD_bl, isBD_non, isPD_tup, isLD_lst, isLD_str, enumD_lst, zipD_lst, List.map_cons, List.map_nil, List.replicate_succ, List.replicate_zero, List.cons_append, List.nil_append, decide_eq_false (show ¬ ((3 : Nat) : Int) < 2 by decide)])]
    have lc := lc_posG l hl 48 (δ := [.val (.str l), .val (.int ((3 : Nat) : Int)), .val (.int (at' : Int)), .no, .no]) (i := 0) (j := 4) (fs := bin ixD (cst (.str [49, 48])) (bin subD (vr 1) (cst (.int 2)))) rfl (by show 4 < 5; decide) (by decide) (fun x => rfl)
    rw [seq_to (δ' := [.val (.str l), .val (.int ((3 : Nat) : Int)), .val (.int (at' : Int)), .val (.lst ((pos 48 l).map fun (p : Nat) => D.int (p : Int))), .no]) (by
      rw [asg_eq, lstE_eq, lc]; rfl)]
    have fo := first_or (pos 48 l) at' (by rw [pos_len]; have : l.count 48 ≤ l.length := List.count_le_length; omega)
    have mk1 : mkL [.non] = .ok (.lst [.non]) := mkL_ok (by show 1 ≤ line; decide)
    rw [retS_eq, bin_eq, bin_eq, slc_eq]
    simp only [vr_eq, List.getElem?_cons_succ, List.getElem?_cons_zero, bind_ok, part_eq, noP_eq, asP_int, app_eq, consA_eq, cst_eq, nilA_eq, mk1]
    have fo' : ((slD (.lst ((pos 48 l).map fun (p : Nat) => D.int (p : Int))) (some (at' : Int)) none).bind (fun x => addD x (.lst [.non]))).bind (fun y => ixD y (.int 0)) = .ok (optD (pos 48 l)[at']?) := fo
    rw [fo']
    rfl
/-! ### one question -/
def most (way : Nat) : Nat := if way < 2 then 31 else 32
theorem asked_m (l : List Nat) (hl : l.length ≤ 4096) (hb : ∀ c ∈ l, isBit c) (a : Addr) (n0 : Int) (way at' : Nat) (hw : way < 4) (ha : at' ≤ l.length) : ∃ m : Nat, m ≤ most way ∧ m__law_asked a [rowS l n0, .int (way : Int), .int (at' : Int)] = .ok (due l way at') (rowS l (n0 + m)) := by
  rw [m__law_asked, runM_eq (by rfl)]; unfold b__law_asked
  show ∃ m : Nat, m ≤ most way ∧ (seqM _ _ a [.val (rowS l n0), .val (.int (way : Int)), .val (.int (at' : Int))]).finM = _
  have tt : ∀ z : Int, opT 0 (tst (bin eqD (vr 1) (cst (.int z)))) a [.val (rowS l n0), .val (.int (way : Int)), .val (.int (at' : Int))] = .ok (decide ((way : Int) = z)) (rowS l n0) := fun z => opT_ok (by
    simp only [tst_eq, bin_eq, vr_eq, List.set, List.getElem?_cons_succ, List.getElem?_cons_zero, bind_ok, cst_eq, eqD_int, asB_bl])
  have e1 : opE 0 (vr 2) a [.val (rowS l n0), .val (.int (way : Int)), .val (.int (at' : Int))] = .ok (.int (at' : Int)) (rowS l n0) := opE_ok rfl
  have e2 : consM 0 (opE 0 (vr 2)) (nilM 0) a [.val (rowS l n0), .val (.int (way : Int)), .val (.int (at' : Int))] = .ok [.int (at' : Int)] (rowS l n0) := consM_ok e1 rfl (Nat.succ_pos _)
  have call : ∀ {m : Str} {g : Addr → List D → RM D} {d : D} {k : Nat}, (m ≠ "own" ∧ m ≠ "wide" ∧ m ≠ "whole_blocks" ∧ m ≠ "counts" ∧ m ≠ "seen" ∧ m ≠ "#") → g a [rowS l n0, .int (at' : Int)] = .ok d (rowS l (n0 + k)) → retM 0 (mthM 0 m g (consM 0 (opE 0 (vr 2)) (nilM 0))) a [.val (rowS l n0), .val (.int (way : Int)), .val (.int (at' : Int))] = .rt d (rowS l (n0 + k)) := fun hm hg =>
    retM_ok ((row_mm (l := l) (n0 := n0) (δ := [.val (rowS l n0), .val (.int (way : Int)), .val (.int (at' : Int))]) rfl e2 hm).trans hg) (Nat.succ_pos _)
  have skip : ∀ {z : Int} {f g : Addr → Sto → OM}, ¬ (way : Int) = z → seqM (ifM 0 (opT 0 (tst (bin eqD (vr 1) (cst (.int z))))) f nopM) g a [.val (rowS l n0), .val (.int (way : Int)), .val (.int (at' : Int))] = g a [.val (rowS l n0), .val (.int (way : Int)), .val (.int (at' : Int))] := fun {z f g} h => seqM_to (by
    rw [ifM_ok (tt z), decide_eq_false h, if_neg Bool.false_ne_true]; rfl)
  have hit : ∀ {z : Int} {f g : Addr → Sto → OM} {d o : D}, (way : Int) = z → f a [.val (rowS l n0), .val (.int (way : Int)), .val (.int (at' : Int))] = .rt d o → seqM (ifM 0 (opT 0 (tst (bin eqD (vr 1) (cst (.int z))))) f nopM) g a [.val (rowS l n0), .val (.int (way : Int)), .val (.int (at' : Int))] = .rt d o := fun {z f g d o} h hf => seqM_rt (by
    rw [ifM_ok (tt z), decide_eq_true h, if_pos rfl]; exact hf)
  match way, hw with
  | 0, _ =>
    refine ⟨at' - 32 * (at' / 32), by unfold most; rw [if_pos (by decide)]; omega, ?_⟩
    rw [hit (z := 0) rfl (call (m := "ones") (by decide +kernel) (ones_m l hl hb a n0 at' ha))]
    rfl
  | 1, _ =>
    refine ⟨at' - 32 * (at' / 32), by unfold most; rw [if_pos (by decide)]; omega, ?_⟩
    rw [skip (z := 0) (by decide), hit (z := 1) rfl (call (m := "noughts") (by decide +kernel) (noughts_m l hl hb a n0 at' ha))]
    rfl
  | 2, _ =>
    obtain ⟨m, hm, e⟩ := one_at_m l hl hb a n0 at'
    refine ⟨m, by unfold most; rw [if_neg (by decide)]; exact hm, ?_⟩
    rw [skip (z := 0) (by decide), skip (z := 1) (by decide), hit (z := 2) rfl (call (m := "one_at") (by decide +kernel) e)]
    rfl
  | 3, _ =>
    obtain ⟨m, hm, e⟩ := nought_at_m l hl hb a n0 at'
    refine ⟨m, by unfold most; rw [if_neg (by decide)]; exact hm, ?_⟩
    rw [skip (z := 0) (by decide), skip (z := 1) (by decide), skip (z := 2) (by decide), call (m := "nought_at") (by decide +kernel) e]
    rfl
theorem due_self (l : List Nat) (way at' : Nat) (hw : way < 4) : neD (due l way at') (due l way at') = .ok (.bl false) := by
  have ho : ∀ o : Option Nat, neD (optD o) (optD o) = .ok (.bl false) := fun o => by
    cases o with
    | none => rfl
    | some p => show neD (.int _) (.int _) = _; rw [neD_int, decide_eq_true rfl]; rfl
  match way, hw with
  | 0, _ => show neD (.int _) (.int _) = _; rw [neD_int, decide_eq_true rfl]; rfl
  | 1, _ => show neD (.int _) (.int _) = _; rw [neD_int, decide_eq_true rfl]; rfl
  | 2, _ => exact ho _
  | 3, _ => exact ho _
theorem looks_is (l : List Nat) (n0 : Int) : d_Row_looks [rowS l n0] = .ok (.int n0) := by
  rw [d_Row_looks, run_eq (by rfl)]; unfold b_Row_looks
  simp only [seqS_eq, seq_nx, seq_rt, seq_rs, asg_eq, asgN_eq, drp_eq, retS_eq, retN_eq, rais_eq, ifS_eq, forF_eq, itS_eq, rngA_eq, vr_eq, cst_eq, bin_eq, un_eq, consA_eq, nilA_eq, app_eq, tst_eq, asB_bl, andT_eq, orT_eq, notT_eq, notD_bl, ifE_eq, newA_eq, lstE_eq, noP_eq, part_eq, asP_int, slc_eq, binS_eq, yes_eq, List.getElem?_cons_succ, List.getElem?_cons_zero, List.set, bind_ok, bind_rs, out_ok, out_rs, fin_rt, fin_rs, fin_nx, if_true, Bool.false_eq_true, if_false, Bool.not_true, Bool.not_false, decide_true, decide_false, nopS_eq, addD_int, subD_int, negD_int, ltD_int, leD_int, gtD_int, geD_int, eqD_int, neD_int, eqD_str, neD_str, lenD_lst, lenD_tup, lenD_scr, max2D_int, min2D_int, asSeq_lst, asSeq_tup, asSeq_str, binN_eq, frzS_eq, appS_eq, ixO_eq, stoS_eq, lenO_eq, asgU_eq, tgU_tup, tgU_lst, tgP_tup, asg2_eq, chn_eq, lnk_bl, isID_int, isID_bl, isID_non, isBD_int, isBD_bl, isBD_non, isPD_tup, isLD_lst, isLD_str, enumD_lst, zipD_lst, List.map_cons, List.map_nil, List.replicate_succ, List.replicate_zero, List.cons_append, List.nil_append, f_seen]
theorem room_is (l : List Nat) (n0 : Int) (hl : l.length ≤ 4096) : d_Row_room [rowS l n0] = .ok (.int ((l.length + l.length / 32 * nb l.length : Nat) : Int)) := by
  have hnb : nb l.length ≤ 13 := (nb_le 13 l.length).mpr (by omega)
  have hle : l.length / 32 * nb l.length ≤ 128 * 13 := Nat.mul_le_mul (by omega) hnb
  have l1 : (pk (nb l.length) (cts l (l.length / 32))).length = l.length / 32 * nb l.length := by rw [pk_len]; unfold cts; rw [List.length_map, List.length_range]
  have d0 : lenD [.str l] = .ok (.int (l.length : Nat)) := lenD_str (by simp only [line]; omega)
  have d1 : lenD [.str (pk (nb l.length) (cts l (l.length / 32)))] = .ok (.int ((l.length / 32 * nb l.length : Nat) : Int)) := by rw [lenD_str (by rw [l1]; simp only [line]; omega), l1]
  rw [d_Row_room, run_eq (by rfl)]; unfold b_Row_room
  simp only [seqS_eq, seq_nx, seq_rt, seq_rs, asg_eq, asgN_eq, drp_eq, retS_eq, retN_eq, rais_eq, ifS_eq, forF_eq, itS_eq, rngA_eq, vr_eq, cst_eq, bin_eq, un_eq, consA_eq, nilA_eq, app_eq, tst_eq, asB_bl, andT_eq, orT_eq, notT_eq, notD_bl, ifE_eq, newA_eq, lstE_eq, noP_eq, part_eq, asP_int, slc_eq, binS_eq, yes_eq, List.getElem?_cons_succ, List.getElem?_cons_zero, List.set, bind_ok, bind_rs, out_ok, out_rs, fin_rt, fin_rs, fin_nx, if_true, Bool.false_eq_true, if_false, Bool.not_true, Bool.not_false, decide_true, decide_false, nopS_eq, addD_int, subD_int, negD_int, ltD_int, leD_int, gtD_int, geD_int, eqD_int, neD_int, eqD_str, neD_str, lenD_lst, lenD_tup, lenD_scr, max2D_int, min2D_int, asSeq_lst, asSeq_tup, asSeq_str, binN_eq, frzS_eq, appS_eq, ixO_eq, stoS_eq, lenO_eq, asgU_eq, tgU_tup, tgU_lst, tgP_tup, asg2_eq, chn_eq, lnk_bl, isID_int, isID_bl, isID_non, isBD_int, isBD_bl, isBD_non, isPD_tup, isLD_lst, isLD_str, enumD_lst, zipD_lst, List.map_cons, List.map_nil, List.replicate_succ, List.replicate_zero, List.cons_append, List.nil_append, f_own, f_counts, d0, d1]
  rw [← Int.natCast_add]
section
variable (ns : List Int) (l : List Nat) (a : Addr) (more : Int)
/-- the store in the inner loop -/
def stL (n0 : Int) (s1 s6 s7 s8 s9 s10 : Slot) : Sto := [.val (.scr ns), s1, .val (.int more), .val (.int (l.length : Int)), .val (.str l), .val (rowS l n0), s6, s7, s8, s9, s10]
theorem one_ok (hl : l.length ≤ 300) (hb : ∀ c ∈ l, isBit c) (n0 : Int) (j : Int) (s1 s7 s8 s9 s10 : Slot) : ∃ (m : Nat) (t7 t8 t9 t10 : Slot), lm_law_1 a (stL ns l more n0 s1 (.val (.int j)) s7 s8 s9 s10) = .nx (stL ns l more (n0 + m) s1 (.val (.int j)) t7 t8 t9 t10) := by
  have hl4 : l.length ≤ 4096 := by omega
  have ed := dz_is more (40 + j)
  have hz0 := dz_0 more (40 + j)
  generalize dz more (40 + j) = here at ed hz0
  obtain ⟨way, hway⟩ : ∃ way : Nat, here % 4 = (way : Int) := ⟨(here % 4).toNat, by omega⟩
  have hw4 : way < 4 := by omega
  obtain ⟨at', hat⟩ : ∃ at' : Nat, here / 8 % ((l.length : Int) + 1) = (at' : Int) := ⟨(here / 8 % ((l.length : Int) + 1)).toNat, by have := Int.emod_nonneg (here / 8) (show (l.length : Int) + 1 ≠ 0 by omega); omega⟩
  have hat2 : at' ≤ l.length := by have := Int.emod_lt_of_pos (here / 8) (show 0 < (l.length : Int) + 1 by omega); omega
  obtain ⟨m, hm, ea⟩ := asked_m l hl4 hb a n0 way at' hw4 hat2
  refine ⟨m, .val (.int here), .val (.int (way : Int)), .val (.int (at' : Int)), .val (.int n0), ?_⟩
  unfold lm_law_1 stL
  rw [seqM_to (δ' := stL ns l more n0 s1 (.val (.int j)) (.val (.int here)) s8 s9 s10) (opS_nx (δ' := [.val (.scr ns), s1, .val (.int more), .val (.int (l.length : Int)), .val (.str l), .val (.opq a), .val (.int j), .val (.int here), s8, s9, s10]) (by
    simp only [asg_eq, app_eq, consA_eq, nilA_eq, bin_eq, vr_eq, List.set, List.getElem?_cons_succ, List.getElem?_cons_zero, bind_ok, cst_eq, addD_int, ed, out_ok]) rfl)]
  unfold stL
  rw [seqM_to (δ' := stL ns l more n0 s1 (.val (.int j)) (.val (.int here)) (.val (.int (way : Int))) s9 s10) (opS_nx (δ' := [.val (.scr ns), s1, .val (.int more), .val (.int (l.length : Int)), .val (.str l), .val (.opq a), .val (.int j), .val (.int here), .val (.int (way : Int)), s9, s10]) (by
    simp only [asg_eq, bin_eq, vr_eq, List.set, List.getElem?_cons_succ, List.getElem?_cons_zero, bind_ok, cst_eq, md_is here 4 (by decide), hway, out_ok]) rfl)]
  unfold stL
  rw [seqM_to (δ' := stL ns l more n0 s1 (.val (.int j)) (.val (.int here)) (.val (.int (way : Int))) (.val (.int (at' : Int))) s10) (opS_nx (δ' := [.val (.scr ns), s1, .val (.int more), .val (.int (l.length : Int)), .val (.str l), .val (.opq a), .val (.int j), .val (.int here), .val (.int (way : Int)), .val (.int (at' : Int)), s10]) (by
    simp only [asg_eq, bin_eq, vr_eq, List.set, List.getElem?_cons_succ, List.getElem?_cons_zero, bind_ok, cst_eq, fd_is here 8 (by decide), addD_int, md_is (here / 8) ((l.length : Int) + 1) ⟨by omega, by omega⟩, hat, out_ok]) rfl)]
  have lk : ∀ (n1 : Int) (s6 s7 s8 s9 s10 : Slot), mth "Row" "looks" d_Row_looks (vr 5) nilA (stL ns l more n1 s1 s6 s7 s8 s9 s10) = .ok (.int n1) := fun n1 s6 s7 s8 s9 s10 => by
    rw [row_mth (l := l) (n0 := n1) (xs := []) rfl rfl (by decide +kernel), looks_is]
  have e10 : rdE 5 (mth "Row" "looks" d_Row_looks (vr 5) nilA) a (stL ns l more n0 s1 (.val (.int j)) (.val (.int here)) (.val (.int (way : Int))) (.val (.int (at' : Int))) s10) = .ok (.int n0) (rowS l n0) := rdE_ok (lk n0 _ _ _ _ _) rfl
  rw [seqM_to (δ' := stL ns l more n0 s1 (.val (.int j)) (.val (.int here)) (.val (.int (way : Int))) (.val (.int (at' : Int))) (.val (.int n0))) (asgM_ok e10 (by decide))]
  generalize hδ : stL ns l more n0 s1 (.val (.int j)) (.val (.int here)) (.val (.int (way : Int))) (.val (.int (at' : Int))) (.val (.int n0)) = δ
  have hlen : 5 < δ.length := by rw [← hδ]; show 5 < 11; decide
  have h5 : δ[5]? = some (.val (rowS l n0)) := by rw [← hδ]; rfl
  have es0 : δ.set 5 (.val (rowS l n0)) = δ := by rw [← hδ]; rfl
  have a1 : opE 5 (vr 8) a δ = .ok (.int (way : Int)) (rowS l n0) := by rw [opE_ok (d := .int (way : Int)) (by rw [← hδ]; rfl), cur_is h5]
  have a2 : opE 5 (vr 9) a δ = .ok (.int (at' : Int)) (rowS l n0) := by rw [opE_ok (d := .int (at' : Int)) (by rw [← hδ]; rfl), cur_is h5]
  have a3 := consM_ok (i := 5) (fr := nilM 5) a2 (nilM_ok.trans (by rw [cur_set hlen])) hlen
  have a4 := consM_ok (i := 5) a1 (by rw [es0]; exact a3) hlen
  have a5 : fncM 5 m__law_asked (consM 5 (opE 5 (vr 8)) (consM 5 (opE 5 (vr 9)) (nilM 5))) a δ = .ok (due l way at') (rowS l (n0 + m)) := (fncM_ok a4 hlen).trans ea
  have a6 : opE 5 (app d__law_due (consA (vr 4) (consA (vr 8) (consA (vr 9) (nilA))))) a (δ.set 5 (.val (rowS l (n0 + m)))) = .ok (due l way at') (rowS l (n0 + m)) := by
    rw [opE_ok (d := due l way at') (by
      rw [← hδ]
      unfold stL
      simp only [app_eq, consA_eq, nilA_eq, vr_eq, List.set, List.getElem?_cons_succ, List.getElem?_cons_zero, bind_ok, due_is l hl4 way at' hw4]), cur_set hlen]
  have a7 := tstM_ok (binM_ok (i := 5) (g := neD) a5 a6 (due_self l way at' hw4) hlen) hlen
  rw [seqM_to (δ' := δ.set 5 (.val (rowS l (n0 + m)))) (by rw [ifM_ok a7, if_neg Bool.false_ne_true]; rfl)]
  have em : δ.set 5 (.val (rowS l (n0 + m))) = stL ns l more (n0 + m) s1 (.val (.int j)) (.val (.int here)) (.val (.int (way : Int))) (.val (.int (at' : Int))) (.val (.int n0)) := by rw [← hδ]; rfl
  rw [em]
  have ix4 : ixD (.lst [.int 31, .int 31, .int 32, .int 32]) (.int (way : Int)) = .ok (.int ((most way : Nat) : Int)) := by
    match way, hw4 with
    | 0, _ => rfl
    | 1, _ => rfl
    | 2, _ => rfl
    | 3, _ => rfl
  have mk4 : mkL [.int 31, .int 31, .int 32, .int 32] = .ok (.lst [.int 31, .int 31, .int 32, .int 32]) := mkL_ok (by show 4 ≤ line; decide)
  have a8 : rdT 5 (orT (tst (bin gtD (bin subD (mth "Row" "looks" d_Row_looks (vr 5) nilA) (vr 10)) (bin ixD (app mkL (consA (cst (.int 31)) (consA (cst (.int 31)) (consA (cst (.int 32)) (consA (cst (.int 32)) (nilA)))))) (vr 8)))) (tst (bin ltD (mth "Row" "looks" d_Row_looks (vr 5) nilA) (vr 10)))) a (stL ns l more (n0 + m) s1 (.val (.int j)) (.val (.int here)) (.val (.int (way : Int))) (.val (.int (at' : Int))) (.val (.int n0))) = .ok false (rowS l (n0 + m)) := rdT_ok (by
    have v10 : vr 10 (stL ns l more (n0 + m) s1 (.val (.int j)) (.val (.int here)) (.val (.int (way : Int))) (.val (.int (at' : Int))) (.val (.int n0))) = .ok (.int n0) := rfl
    have v8 : vr 8 (stL ns l more (n0 + m) s1 (.val (.int j)) (.val (.int here)) (.val (.int (way : Int))) (.val (.int (at' : Int))) (.val (.int n0))) = .ok (.int (way : Int)) := rfl
    simp only [orT_eq, tst_eq, bin_eq, lk, v10, v8, bind_ok, subD_int, app_eq, consA_eq, cst_eq, nilA_eq, mk4, ix4, gtD_int, asB_bl, decide_eq_false (show ¬ (((most way : Nat) : Int) < n0 + (m : Int) - n0) by omega), Bool.false_eq_true, if_false, ltD_int, decide_eq_false (show ¬ (n0 + (m : Int) < n0) by omega)])
  rw [ifM_ok a8, if_neg Bool.false_ne_true]
  rfl
end
theorem body_ok (ns : List Int) (hns : ns.length ≤ 63) (k : Int) (h0 : 0 ≤ k) (h1 : k ≤ 1000) (t2 t3 t4 t5 t6 t7 t8 t9 t10 : Slot) :
    ∃ u2 u3 u4 u5 u6 u7 u8 u9 u10, lp_law_1 [.val (.scr ns), .val (.int k), t2, t3, t4, t5, t6, t7, t8, t9, t10] = .nx [.val (.scr ns), .val (.int k), u2, u3, u4, u5, u6, u7, u8, u9, u10] := by
  obtain ⟨c, ec⟩ := cell_is ns hns k h0 h1
  unfold lp_law_1
  have ed := dz_is c k
  have hm0 := dz_0 c k
  generalize dz c k = more at ed hm0
  rw [seq_to (δ' := [.val (.scr ns), .val (.int k), .val (.int more), t3, t4, t5, t6, t7, t8, t9, t10]) (by simp only [seqS_eq, seq_nx, seq_rt, seq_rs, asg_eq, asgN_eq, drp_eq, retS_eq, retN_eq, rais_eq, ifS_eq, forF_eq, itS_eq, rngA_eq, vr_eq, cst_eq, bin_eq, un_eq, consA_eq, nilA_eq, app_eq, tst_eq, asB_bl, andT_eq, orT_eq, notT_eq, notD_bl, ifE_eq, newA_eq, lstE_eq, noP_eq, part_eq, asP_int, slc_eq, binS_eq, yes_eq, List.getElem?_cons_succ, List.getElem?_cons_zero, List.set, bind_ok, bind_rs, out_ok, out_rs, fin_rt, fin_rs, fin_nx, if_true, Bool.false_eq_true, if_false, Bool.not_true, Bool.not_false, decide_true, decide_false, nopS_eq, addD_int, subD_int, negD_int, ltD_int, leD_int, gtD_int, geD_int, eqD_int, neD_int, eqD_str, neD_str, lenD_lst, lenD_tup, lenD_scr, max2D_int, min2D_int, asSeq_lst, asSeq_tup, asSeq_str, binN_eq, frzS_eq, appS_eq, ixO_eq, stoS_eq, lenO_eq, asgU_eq, tgU_tup, tgU_lst, tgP_tup, asg2_eq, chn_eq, lnk_bl, isID_int, isID_bl, isID_non, isBD_int, isBD_bl, isBD_non, isPD_tup, isLD_lst, isLD_str, enumD_lst, zipD_lst, List.map_cons, List.map_nil, List.replicate_succ, List.replicate_zero, List.cons_append, List.nil_append, ec, ed])]
  obtain ⟨size, hsz⟩ : ∃ size : Nat, more % 301 = (size : Int) := ⟨(more % 301).toNat, by omega⟩
  have hs300 : size ≤ 300 := by omega
  rw [seq_to (δ' := [.val (.scr ns), .val (.int k), .val (.int more), .val (.int (size : Int)), t4, t5, t6, t7, t8, t9, t10]) (by simp only [seqS_eq, seq_nx, seq_rt, seq_rs, asg_eq, asgN_eq, drp_eq, retS_eq, retN_eq, rais_eq, ifS_eq, forF_eq, itS_eq, rngA_eq, vr_eq, cst_eq, bin_eq, un_eq, consA_eq, nilA_eq, app_eq, tst_eq, asB_bl, andT_eq, orT_eq, notT_eq, notD_bl, ifE_eq, newA_eq, lstE_eq, noP_eq, part_eq, asP_int, slc_eq, binS_eq, yes_eq, List.getElem?_cons_succ, List.getElem?_cons_zero, List.set, bind_ok, bind_rs, out_ok, out_rs, fin_rt, fin_rs, fin_nx, if_true, Bool.false_eq_true, if_false, Bool.not_true, Bool.not_false, decide_true, decide_false, nopS_eq, addD_int, subD_int, negD_int, ltD_int, leD_int, gtD_int, geD_int, eqD_int, neD_int, eqD_str, neD_str, lenD_lst, lenD_tup, lenD_scr, max2D_int, min2D_int, asSeq_lst, asSeq_tup, asSeq_str, binN_eq, frzS_eq, appS_eq, ixO_eq, stoS_eq, lenO_eq, asgU_eq, tgU_tup, tgU_lst, tgP_tup, asg2_eq, chn_eq, lnk_bl, isID_int, isID_bl, isID_non, isBD_int, isBD_bl, isBD_non, isPD_tup, isLD_lst, isLD_str, enumD_lst, zipD_lst, List.map_cons, List.map_nil, List.replicate_succ, List.replicate_zero, List.cons_append, List.nil_append, md_is more 301 (by decide), hsz])]
  have lc := lcN_map (δ := [.val (.scr ns), .val (.int k), .val (.int more), .val (.int (size : Int)), t4, t5, t6, t7, t8, t9, t10]) (vs := [6]) (j := 6) (fe := app d__law_bits (consA (bin modD (app d__law_drawn (consA (vr 2) (consA (vr 6) (nilA)))) (cst (.int 1024))) (consA (cst (.int 10)) (nilA)))) (fi := rngA asRng1 (consA (cst (.int 31)) (nilA))) (xs := Dn.upTo 0 31)
    (f := fun d => match d with | .int i => .str (tb 10 (dz more i % 1024)) | _ => .non) (by
      simp only [rngA_eq, consA_eq, cst_eq, nilA_eq, bind_ok]
      exact rng1 (okI_of (by decide) (by decide))) (by rw [upTo_len]; decide) (fun x hx => by
      unfold Dn.upTo at hx
      obtain ⟨q, hq, rfl⟩ := List.mem_map.mp hx
      simp only [wipeS, List.set, app_eq, consA_eq, nilA_eq, bin_eq, vr_eq, List.getElem?_cons_succ, List.getElem?_cons_zero, bind_ok, cst_eq, dz_is, md_is _ 1024 (show (0 : Int) < 1024 ∧ (1024 : Int) < 2 ^ 200 by decide), law_bits_is _ 10 (by decide) (by decide)]
      rfl)
  have em : (Dn.upTo 0 31).map (fun d => match d with | .int i => D.str (tb 10 (dz more i % 1024)) | _ => .non) = ((List.range 31).map fun (q : Nat) => tb 10 (dz more (0 + (q : Int)) % 1024)).map D.str := by
    unfold Dn.upTo
    rw [List.map_map, List.map_map]
    rfl
  rw [em] at lc
  generalize hls : (List.range 31).map (fun (q : Nat) => tb 10 (dz more (0 + (q : Int)) % 1024)) = ls at lc
  have hall : ∀ x ∈ ls, x.length = 10 ∧ ∀ c ∈ x, isBit c := fun x hx => by
    rw [← hls] at hx
    obtain ⟨q, _, rfl⟩ := List.mem_map.mp hx
    exact ⟨tb_len _ _, tb_bit _ _⟩
  have hll : ls.length = 31 := by rw [← hls, List.length_map, List.length_range]
  have hfl : ls.flatten.length = 310 := by
    rw [List.length_flatten]
    have : ls.map List.length = List.replicate 31 10 := List.eq_replicate_iff.mpr ⟨by rw [List.length_map, hll], fun b hb => by
      obtain ⟨x, hx, rfl⟩ := List.mem_map.mp hb
      exact (hall x hx).1⟩
    rw [this]
    decide
  have hbf : ∀ c ∈ ls.flatten, isBit c := fun c hc => by
    obtain ⟨x, hx, hcx⟩ := List.mem_flatten.mp hc
    exact (hall x hx).2 c hcx
  generalize hl : ls.flatten.take size = l
  have hlen : l.length = size := by rw [← hl, List.length_take, hfl]; omega
  have hb : ∀ c ∈ l, isBit c := fun c hc => hbf c (by rw [← hl] at hc; exact List.mem_of_mem_take hc)
  rw [seq_to (δ' := [.val (.scr ns), .val (.int k), .val (.int more), .val (.int (size : Int)), .val (.str l), t5, t6, t7, t8, t9, t10]) (by
    rw [asg_eq, slc_eq, binS_eq, lstE_eq, lc]
    simp only [cst_eq, bind_ok, join_is (show ls.flatten.length ≤ line by rw [hfl]; decide), noP_eq, part_eq, vr_eq, List.getElem?_cons_succ, List.getElem?_cons_zero, asP_int, slD_str (show ls.flatten.length ≤ line by rw [hfl]; decide), cut_to, hl, out_ok, List.set])]
  subst hlen
  have hl4 : l.length ≤ 4096 := by omega
  have enb := law_needs_is (l.length : Nat) (by omega) (by
    rw [Int.toNat_natCast]
    have : nb l.length ≤ 13 := (nb_le 13 l.length).mpr (by omega)
    omega)
  rw [Int.toNat_natCast] at enb
  have hnb : nb l.length ≤ 13 := (nb_le 13 l.length).mpr (by omega)
  have m1 : mulD (.int ((l.length / 32 : Nat) : Int)) (.int (nb l.length : Nat)) = .ok (.int ((l.length / 32 * nb l.length : Nat) : Int)) := by
    rw [mulD_int (mul_small (by omega) (by omega) (by omega) (by omega)), ← Int.natCast_mul]
  have hq : (l.length : Int) / 32 = ((l.length / 32 : Nat) : Int) := by omega
  refine ⟨.val (.int more), .val (.int (l.length : Int)), .val (.str l), .no, .no, .no, .no, .no, .no, ?_⟩
  unfold newM
  rw [consA_eq, vr_eq]
  simp only [List.getElem?_cons_succ, List.getElem?_cons_zero, bind_ok, nilA_eq, out_ok, row_init l hl4 hb]
  refine (if_pos (show 5 < 11 by decide)).trans ?_
  refine agree_is fun a => ?_
  have rm : mth "Row" "room" d_Row_room (vr 5) nilA (stL ns l more 0 (.val (.int k)) t6 t7 t8 t9 t10) = .ok (.int ((l.length + l.length / 32 * nb l.length : Nat) : Int)) := by
    rw [row_mth (l := l) (n0 := 0) (xs := []) rfl rfl (by decide +kernel), room_is l 0 hl4]
  have e1 : rdT 5 (tst (bin neD (mth "Row" "room" d_Row_room (vr 5) nilA) (bin addD (vr 3) (bin mulD (bin fdivD (vr 3) (cst (.int 32))) (app d__law_needs (consA (vr 3) (nilA))))))) a (stL ns l more 0 (.val (.int k)) t6 t7 t8 t9 t10) = .ok false (rowS l 0) := rdT_ok (by
    have v3 : vr 3 (stL ns l more 0 (.val (.int k)) t6 t7 t8 t9 t10) = .ok (.int (l.length : Int)) := rfl
    simp only [tst_eq, bin_eq, rm, v3, bind_ok, cst_eq, fd_is _ 32 (show (0 : Int) < 32 ∧ (32 : Int) < 2 ^ 200 by decide), hq, app_eq, consA_eq, nilA_eq, enb, m1, addD_int, neD_int]
    rw [← Int.natCast_add, decide_eq_true rfl]
    rfl)
  show forget _ (seqM _ _ a (stL ns l more 0 (.val (.int k)) t6 t7 t8 t9 t10)) = _
  rw [seqM_to (δ' := stL ns l more 0 (.val (.int k)) t6 t7 t8 t9 t10) (by rw [ifM_ok e1, if_neg Bool.false_ne_true]; rfl)]
  obtain ⟨δ', ef, n1, s6, s7, s8, s9, s10, rfl⟩ := forMS_inv (f := lm_law_1) (a := a) (j := 6) (I := fun _ δ => ∃ n1 s6 s7 s8 s9 s10, δ = stL ns l more n1 (.val (.int k)) s6 s7 s8 s9 s10) (Dn.upTo 0 60) 0 (stL ns l more 0 (.val (.int k)) t6 t7 t8 t9 t10) ⟨_, _, _, _, _, _, rfl⟩ (fun n x δ hx hI => by
    obtain ⟨n1, s6, s7, s8, s9, s10, rfl⟩ := hI
    obtain ⟨rfl, hi⟩ := upTo_get hx
    obtain ⟨m, t7, t8, t9, t10, e⟩ := one_ok ns l a more (by omega) hb n1 (0 + (n : Int)) (.val (.int k)) s7 s8 s9 s10
    exact ⟨_, e, _, _, _, _, _, _, rfl⟩)
  have efm : Dn.forM 5 6 (rngA asRng1 (consA (cst (.int 60)) (nilA))) lm_law_1 a (stL ns l more 0 (.val (.int k)) t6 t7 t8 t9 t10) = .nx (stL ns l more n1 (.val (.int k)) s6 s7 s8 s9 s10) := by
    unfold Dn.forM
    rw [if_pos (by decide), rngA_eq, consA_eq, nilA_eq, cst_eq]
    simp only [bind_ok]
    rw [rng1 (okI_of (by decide) (by decide))]
    exact ef
  rw [efm]
  rfl
theorem law_true (ns : List Int) (hns : ns.length ≤ 63) (hb : ∀ z ∈ ns, Builtin.Int.intBits z ≤ 1048576) : d_law [.scr ns] = .ok (.bl true) := by
  rw [d_law, run_eq (by rfl)]; unfold b_law
  obtain ⟨δ', ef, t1, t2, t3, t4, t5, t6, t7, t8, t9, t10, rfl⟩ := for_inv (g := tgN 1) (b := lp_law_1) (xs := Dn.upTo 0 (max (1 : Int) (min 3 (ns.length : Int))).toNat)
    (I := fun _ δ => ∃ t1 t2 t3 t4 t5 t6 t7 t8 t9 t10, δ = [.val (.scr ns), t1, t2, t3, t4, t5, t6, t7, t8, t9, t10]) (δ := [.val (.scr ns), .no, .no, .no, .no, .no, .no, .no, .no, .no, .no]) 0 ⟨_, _, _, _, _, _, _, _, _, _, rfl⟩ (fun i x δ hx hI => by
      obtain ⟨t1, t2, t3, t4, t5, t6, t7, t8, t9, t10, rfl⟩ := hI
      obtain ⟨rfl, hi⟩ := upTo_get hx
      obtain ⟨u2, u3, u4, u5, u6, u7, u8, u9, u10, e⟩ := body_ok ns hns (0 + (i : Int)) (by omega) (by omega) t2 t3 t4 t5 t6 t7 t8 t9 t10
      exact ⟨_, _, rfl, e, _, _, _, _, _, _, _, _, _, _, rfl⟩)
  rw [seq_to (δ' := [.val (.scr ns), t1, t2, t3, t4, t5, t6, t7, t8, t9, t10]) (by
    rw [← ef]
    simp only [seqS_eq, seq_nx, seq_rt, seq_rs, asg_eq, asgN_eq, drp_eq, retS_eq, retN_eq, rais_eq, ifS_eq, forF_eq, itS_eq, rngA_eq, vr_eq, cst_eq, bin_eq, un_eq, consA_eq, nilA_eq, app_eq, tst_eq, asB_bl, andT_eq, orT_eq, notT_eq, notD_bl, ifE_eq, newA_eq, lstE_eq, noP_eq, part_eq, asP_int, slc_eq, binS_eq, yes_eq, List.getElem?_cons_succ, List.getElem?_cons_zero, List.set, bind_ok, bind_rs, out_ok, out_rs, fin_rt, fin_rs, fin_nx, if_true, Bool.false_eq_true, if_false, Bool.not_true, Bool.not_false, decide_true, decide_false, nopS_eq, addD_int, subD_int, negD_int, ltD_int, leD_int, gtD_int, geD_int, eqD_int, neD_int, eqD_str, neD_str, lenD_lst, lenD_tup, lenD_scr, max2D_int, min2D_int, asSeq_lst, asSeq_tup, asSeq_str, binN_eq, frzS_eq, appS_eq, ixO_eq, stoS_eq, lenO_eq, asgU_eq, tgU_tup, tgU_lst, tgP_tup, asg2_eq, chn_eq, lnk_bl, isID_int, isID_bl, isID_non, isBD_int, isBD_bl, isBD_non, isPD_tup, isLD_lst, isLD_str, enumD_lst, zipD_lst, List.map_cons, List.map_nil, List.replicate_succ, List.replicate_zero, List.cons_append, List.nil_append, rng1 (okI_of (show (0 : Int) ≤ max (1 : Int) (min 3 (ns.length : Int)) by omega) (by omega))])]
  rfl
end Lw


set_option Elab.async false
set_option linter.all false
set_option maxRecDepth 100000
set_option maxHeartbeats 4000000
namespace Lw
open PySem PySem.Spec PyProof.Rows L2 Dn
theorem all_mk {l : PySem.W.OpenLaw} {w : World} {K : PySem.W.Frag} {h : Heap} {mg : Str → Option Value} {fa : Addr} {CT c0 c1 c2 c6 : Addr} {C_Row : Addr}
    {f0 : Addr} {oc0 : Value} {od0 an0 : Option Addr} {sl0 : Array (Option Value)} {kV0 dc0 pm0 cd0 ct0 : Value}
    {f1 : Addr} {oc1 : Value} {od1 an1 : Option Addr} {sl1 : Array (Option Value)} {kV1 dc1 pm1 cd1 ct1 : Value}
    {f2 : Addr} {oc2 : Value} {od2 an2 : Option Addr} {sl2 : Array (Option Value)} {kV2 dc2 pm2 cd2 ct2 : Value}
    {f3 : Addr} {oc3 : Value} {od3 an3 : Option Addr} {sl3 : Array (Option Value)} {kV3 dc3 pm3 cd3 ct3 : Value}
    {f4 : Addr} {oc4 : Value} {od4 an4 : Option Addr} {sl4 : Array (Option Value)} {kV4 dc4 pm4 cd4 ct4 : Value}
    {f5 : Addr} {oc5 : Value} {od5 an5 : Option Addr} {sl5 : Array (Option Value)} {kV5 dc5 pm5 cd5 ct5 : Value}
    {f6 : Addr} {oc6 : Value} {od6 an6 : Option Addr} {sl6 : Array (Option Value)} {kV6 dc6 pm6 cd6 ct6 : Value}
    {f7 : Addr} {oc7 : Value} {od7 an7 : Option Addr} {sl7 : Array (Option Value)} {kV7 dc7 pm7 cd7 ct7 : Value}
    {f8 : Addr} {oc8 : Value} {od8 an8 : Option Addr} {sl8 : Array (Option Value)} {kV8 dc8 pm8 cd8 ct8 : Value}
    {f9 : Addr} {oc9 : Value} {od9 an9 : Option Addr} {sl9 : Array (Option Value)} {kV9 dc9 pm9 cd9 ct9 : Value}
    {f10 : Addr} {oc10 : Value} {od10 an10 : Option Addr} {sl10 : Array (Option Value)} {kV10 dc10 pm10 cd10 ct10 : Value}
    {f11 : Addr} {oc11 : Value} {od11 an11 : Option Addr} {sl11 : Array (Option Value)} {kV11 dc11 pm11 cd11 ct11 : Value}
    {f12 : Addr} {oc12 : Value} {od12 an12 : Option Addr} {sl12 : Array (Option Value)} {kV12 dc12 pm12 cd12 ct12 : Value}
    {f13 : Addr} {oc13 : Value} {od13 an13 : Option Addr} {sl13 : Array (Option Value)} {kV13 dc13 pm13 cd13 ct13 : Value}
    {f14 : Addr} {oc14 : Value} {od14 an14 : Option Addr} {sl14 : Array (Option Value)} {kV14 dc14 pm14 cd14 ct14 : Value}
    {f15 : Addr} {oc15 : Value} {od15 an15 : Option Addr} {sl15 : Array (Option Value)} {kV15 dc15 pm15 cd15 ct15 : Value}
    {f16 : Addr} {oc16 : Value} {od16 an16 : Option Addr} {sl16 : Array (Option Value)} {kV16 dc16 pm16 cd16 ct16 : Value}
    {f17 : Addr} {oc17 : Value} {od17 an17 : Option Addr} {sl17 : Array (Option Value)} {kV17 dc17 pm17 cd17 ct17 : Value}
    {f18 : Addr} {oc18 : Value} {od18 an18 : Option Addr} {sl18 : Array (Option Value)} {kV18 dc18 pm18 cd18 ct18 : Value}
    {f19 : Addr} {oc19 : Value} {od19 an19 : Option Addr} {sl19 : Array (Option Value)} {kV19 dc19 pm19 cd19 ct19 : Value}
    {f20 : Addr} {oc20 : Value} {od20 an20 : Option Addr} {sl20 : Array (Option Value)} {kV20 dc20 pm20 cd20 ct20 : Value}
    {f21 : Addr} {oc21 : Value} {od21 an21 : Option Addr} {sl21 : Array (Option Value)} {kV21 dc21 pm21 cd21 ct21 : Value}
    {f22 : Addr} {oc22 : Value} {od22 an22 : Option Addr} {sl22 : Array (Option Value)} {kV22 dc22 pm22 cd22 ct22 : Value}
    {f23 : Addr} {oc23 : Value} {od23 an23 : Option Addr} {sl23 : Array (Option Value)} {kV23 dc23 pm23 cd23 ct23 : Value}
    {f24 : Addr} {oc24 : Value} {od24 an24 : Option Addr} {sl24 : Array (Option Value)} {kV24 dc24 pm24 cd24 ct24 : Value}
    {f25 : Addr} {oc25 : Value} {od25 an25 : Option Addr} {sl25 : Array (Option Value)} {kV25 dc25 pm25 cd25 ct25 : Value}
    {t_MOST : Tok}
    {t_BLOCK : Tok} (X : K.In h) (G : h.Ns mainGlobals mg) (hfa : mg "law" = some (.ref fa)) (own : ∀ y ∈ ([] : List Str), ∀ fa', mg y = some (.ref fa') → LamX.OwnTab K fa' h)
    (y_Row : PySem.W.nsIn K mainGlobals "Row" = some (some (.ref C_Row))) (w_Row : clsB K C_Row fs_Row = true)
    (a0 : PySem.W.nsIn K mainGlobals "needs" = some (some (.ref f0))) (l0 : K.lookup f0 = some ⟨oc0, od0, .func (PySem.W.fnOf "needs" "needs" (defArgs s_needs) (defBody s_needs) (defScope s_needs) .none kV0 dc0 pm0 an0 cd0 ct0), sl0⟩) (c0' : PySem.W.codeIn K cd0 "needs" = true) (k0 : PySem.W.keepIn K (.ref f0) = true)
    (a1 : PySem.W.nsIn K mainGlobals "need_bits" = some (some (.ref f1))) (l1 : K.lookup f1 = some ⟨oc1, od1, .func (PySem.W.fnOf "need_bits" "need_bits" (defArgs s_need_bits) (defBody s_need_bits) (defScope s_need_bits) .none kV1 dc1 pm1 an1 cd1 ct1), sl1⟩) (c1' : PySem.W.codeIn K cd1 "need_bits" = true) (k1 : PySem.W.keepIn K (.ref f1) = true)
    (a2 : PySem.W.nsIn K mainGlobals "in_bits" = some (some (.ref f2))) (l2 : K.lookup f2 = some ⟨oc2, od2, .func (PySem.W.fnOf "in_bits" "in_bits" (defArgs s_in_bits) (defBody s_in_bits) (defScope s_in_bits) .none kV2 dc2 pm2 an2 cd2 ct2), sl2⟩) (c2' : PySem.W.codeIn K cd2 "in_bits" = true) (k2 : PySem.W.keepIn K (.ref f2) = true)
    (a3 : PySem.W.nsIn K mainGlobals "pack" = some (some (.ref f3))) (l3 : K.lookup f3 = some ⟨oc3, od3, .func (PySem.W.fnOf "pack" "pack" (defArgs s_pack) (defBody s_pack) (defScope s_pack) .none kV3 dc3 pm3 an3 cd3 ct3), sl3⟩) (c3' : PySem.W.codeIn K cd3 "pack" = true) (k3 : PySem.W.keepIn K (.ref f3) = true)
    (a4 : PySem.W.findIn K (.ref C_Row) "__init__" = some (some (.ref f4))) (n4 : PySem.W.isFn K (.ref f4) = true) (l4 : K.lookup f4 = some ⟨oc4, od4, .func (PySem.W.fnOf "__init__" "Row.__init__" (defArgs s_Row___init__) (defBody s_Row___init__) (defScope s_Row___init__) .none kV4 dc4 pm4 an4 cd4 ct4), sl4⟩) (c4' : PySem.W.codeIn K cd4 "Row.__init__" = true) (k4 : PySem.W.keepIn K (.ref f4) = true)
    (a5 : PySem.W.findIn K (.ref C_Row) "room" = some (some (.ref f5))) (n5 : PySem.W.isFn K (.ref f5) = true) (l5 : K.lookup f5 = some ⟨oc5, od5, .func (PySem.W.fnOf "room" "Row.room" (defArgs s_Row_room) (defBody s_Row_room) (defScope s_Row_room) .none kV5 dc5 pm5 an5 cd5 ct5), sl5⟩) (c5' : PySem.W.codeIn K cd5 "Row.room" = true) (k5 : PySem.W.keepIn K (.ref f5) = true)
    (a6 : PySem.W.findIn K (.ref C_Row) "looks" = some (some (.ref f6))) (n6 : PySem.W.isFn K (.ref f6) = true) (l6 : K.lookup f6 = some ⟨oc6, od6, .func (PySem.W.fnOf "looks" "Row.looks" (defArgs s_Row_looks) (defBody s_Row_looks) (defScope s_Row_looks) .none kV6 dc6 pm6 an6 cd6 ct6), sl6⟩) (c6' : PySem.W.codeIn K cd6 "Row.looks" = true) (k6 : PySem.W.keepIn K (.ref f6) = true)
    (a7 : PySem.W.nsIn K mainGlobals "_law_cell" = some (some (.ref f7))) (l7 : K.lookup f7 = some ⟨oc7, od7, .func (PySem.W.fnOf "_law_cell" "_law_cell" (defArgs s__law_cell) (defBody s__law_cell) (defScope s__law_cell) .none kV7 dc7 pm7 an7 cd7 ct7), sl7⟩) (c7' : PySem.W.codeIn K cd7 "_law_cell" = true) (k7 : PySem.W.keepIn K (.ref f7) = true)
    (a8 : PySem.W.nsIn K mainGlobals "_law_drawn" = some (some (.ref f8))) (l8 : K.lookup f8 = some ⟨oc8, od8, .func (PySem.W.fnOf "_law_drawn" "_law_drawn" (defArgs s__law_drawn) (defBody s__law_drawn) (defScope s__law_drawn) .none kV8 dc8 pm8 an8 cd8 ct8), sl8⟩) (c8' : PySem.W.codeIn K cd8 "_law_drawn" = true) (k8 : PySem.W.keepIn K (.ref f8) = true)
    (a9 : PySem.W.nsIn K mainGlobals "_law_needs" = some (some (.ref f9))) (l9 : K.lookup f9 = some ⟨oc9, od9, .func (PySem.W.fnOf "_law_needs" "_law_needs" (defArgs s__law_needs) (defBody s__law_needs) (defScope s__law_needs) .none kV9 dc9 pm9 an9 cd9 ct9), sl9⟩) (c9' : PySem.W.codeIn K cd9 "_law_needs" = true) (k9 : PySem.W.keepIn K (.ref f9) = true)
    (a10 : PySem.W.nsIn K mainGlobals "_law_bits" = some (some (.ref f10))) (l10 : K.lookup f10 = some ⟨oc10, od10, .func (PySem.W.fnOf "_law_bits" "_law_bits" (defArgs s__law_bits) (defBody s__law_bits) (defScope s__law_bits) .none kV10 dc10 pm10 an10 cd10 ct10), sl10⟩) (c10' : PySem.W.codeIn K cd10 "_law_bits" = true) (k10 : PySem.W.keepIn K (.ref f10) = true)
    (a11 : PySem.W.findIn K (.ref C_Row) "need" = some (some (.ref f11))) (n11 : PySem.W.isFn K (.ref f11) = true) (l11 : K.lookup f11 = some ⟨oc11, od11, .func (PySem.W.fnOf "need" "Row.need" (defArgs s_Row_need) (defBody s_Row_need) (defScope s_Row_need) .none kV11 dc11 pm11 an11 cd11 ct11), sl11⟩) (c11' : PySem.W.codeIn K cd11 "Row.need" = true) (k11 : PySem.W.keepIn K (.ref f11) = true)
    (a12 : PySem.W.findIn K (.ref C_Row) "look" = some (some (.ref f12))) (n12 : PySem.W.isFn K (.ref f12) = true) (l12 : K.lookup f12 = some ⟨oc12, od12, .func (PySem.W.fnOf "look" "Row.look" (defArgs s_Row_look) (defBody s_Row_look) (defScope s_Row_look) .none kV12 dc12 pm12 an12 cd12 ct12), sl12⟩) (c12' : PySem.W.codeIn K cd12 "Row.look" = true) (k12 : PySem.W.keepIn K (.ref f12) = true)
    (a13 : PySem.W.nsIn K mainGlobals "out_of" = some (some (.ref f13))) (l13 : K.lookup f13 = some ⟨oc13, od13, .func (PySem.W.fnOf "out_of" "out_of" (defArgs s_out_of) (defBody s_out_of) (defScope s_out_of) .none kV13 dc13 pm13 an13 cd13 ct13), sl13⟩) (c13' : PySem.W.codeIn K cd13 "out_of" = true) (k13 : PySem.W.keepIn K (.ref f13) = true)
    (a14 : PySem.W.nsIn K mainGlobals "need_packed" = some (some (.ref f14))) (l14 : K.lookup f14 = some ⟨oc14, od14, .func (PySem.W.fnOf "need_packed" "need_packed" (defArgs s_need_packed) (defBody s_need_packed) (defScope s_need_packed) .none kV14 dc14 pm14 an14 cd14 ct14), sl14⟩) (c14' : PySem.W.codeIn K cd14 "need_packed" = true) (k14 : PySem.W.keepIn K (.ref f14) = true)
    (a15 : PySem.W.nsIn K mainGlobals "number_at" = some (some (.ref f15))) (l15 : K.lookup f15 = some ⟨oc15, od15, .func (PySem.W.fnOf "number_at" "number_at" (defArgs s_number_at) (defBody s_number_at) (defScope s_number_at) .none kV15 dc15 pm15 an15 cd15 ct15), sl15⟩) (c15' : PySem.W.codeIn K cd15 "number_at" = true) (k15 : PySem.W.keepIn K (.ref f15) = true)
    (a16 : PySem.W.findIn K (.ref C_Row) "up_to" = some (some (.ref f16))) (n16 : PySem.W.isFn K (.ref f16) = true) (l16 : K.lookup f16 = some ⟨oc16, od16, .func (PySem.W.fnOf "up_to" "Row.up_to" (defArgs s_Row_up_to) (defBody s_Row_up_to) (defScope s_Row_up_to) .none kV16 dc16 pm16 an16 cd16 ct16), sl16⟩) (c16' : PySem.W.codeIn K cd16 "Row.up_to" = true) (k16 : PySem.W.keepIn K (.ref f16) = true)
    (a17 : PySem.W.findIn K (.ref C_Row) "ones" = some (some (.ref f17))) (n17 : PySem.W.isFn K (.ref f17) = true) (l17 : K.lookup f17 = some ⟨oc17, od17, .func (PySem.W.fnOf "ones" "Row.ones" (defArgs s_Row_ones) (defBody s_Row_ones) (defScope s_Row_ones) .none kV17 dc17 pm17 an17 cd17 ct17), sl17⟩) (c17' : PySem.W.codeIn K cd17 "Row.ones" = true) (k17 : PySem.W.keepIn K (.ref f17) = true)
    (a18 : PySem.W.findIn K (.ref C_Row) "noughts" = some (some (.ref f18))) (n18 : PySem.W.isFn K (.ref f18) = true) (l18 : K.lookup f18 = some ⟨oc18, od18, .func (PySem.W.fnOf "noughts" "Row.noughts" (defArgs s_Row_noughts) (defBody s_Row_noughts) (defScope s_Row_noughts) .none kV18 dc18 pm18 an18 cd18 ct18), sl18⟩) (c18' : PySem.W.codeIn K cd18 "Row.noughts" = true) (k18 : PySem.W.keepIn K (.ref f18) = true)
    (a19 : PySem.W.findIn K (.ref C_Row) "ahead" = some (some (.ref f19))) (n19 : PySem.W.isFn K (.ref f19) = true) (l19 : K.lookup f19 = some ⟨oc19, od19, .func (PySem.W.fnOf "ahead" "Row.ahead" (defArgs s_Row_ahead) (defBody s_Row_ahead) (defScope s_Row_ahead) .none kV19 dc19 pm19 an19 cd19 ct19), sl19⟩) (c19' : PySem.W.codeIn K cd19 "Row.ahead" = true) (k19 : PySem.W.keepIn K (.ref f19) = true)
    (a20 : PySem.W.findIn K (.ref C_Row) "found_at" = some (some (.ref f20))) (n20 : PySem.W.isFn K (.ref f20) = true) (l20 : K.lookup f20 = some ⟨oc20, od20, .func (PySem.W.fnOf "found_at" "Row.found_at" (defArgs s_Row_found_at) (defBody s_Row_found_at) (defScope s_Row_found_at) .none kV20 dc20 pm20 an20 cd20 ct20), sl20⟩) (c20' : PySem.W.codeIn K cd20 "Row.found_at" = true) (k20 : PySem.W.keepIn K (.ref f20) = true)
    (a21 : PySem.W.findIn K (.ref C_Row) "one_at" = some (some (.ref f21))) (n21 : PySem.W.isFn K (.ref f21) = true) (l21 : K.lookup f21 = some ⟨oc21, od21, .func (PySem.W.fnOf "one_at" "Row.one_at" (defArgs s_Row_one_at) (defBody s_Row_one_at) (defScope s_Row_one_at) .none kV21 dc21 pm21 an21 cd21 ct21), sl21⟩) (c21' : PySem.W.codeIn K cd21 "Row.one_at" = true) (k21 : PySem.W.keepIn K (.ref f21) = true)
    (a22 : PySem.W.findIn K (.ref C_Row) "nought_at" = some (some (.ref f22))) (n22 : PySem.W.isFn K (.ref f22) = true) (l22 : K.lookup f22 = some ⟨oc22, od22, .func (PySem.W.fnOf "nought_at" "Row.nought_at" (defArgs s_Row_nought_at) (defBody s_Row_nought_at) (defScope s_Row_nought_at) .none kV22 dc22 pm22 an22 cd22 ct22), sl22⟩) (c22' : PySem.W.codeIn K cd22 "Row.nought_at" = true) (k22 : PySem.W.keepIn K (.ref f22) = true)
    (a23 : PySem.W.nsIn K mainGlobals "_law_asked" = some (some (.ref f23))) (l23 : K.lookup f23 = some ⟨oc23, od23, .func (PySem.W.fnOf "_law_asked" "_law_asked" (defArgs s__law_asked) (defBody s__law_asked) (defScope s__law_asked) .none kV23 dc23 pm23 an23 cd23 ct23), sl23⟩) (c23' : PySem.W.codeIn K cd23 "_law_asked" = true) (k23 : PySem.W.keepIn K (.ref f23) = true)
    (a24 : PySem.W.nsIn K mainGlobals "_law_due" = some (some (.ref f24))) (l24 : K.lookup f24 = some ⟨oc24, od24, .func (PySem.W.fnOf "_law_due" "_law_due" (defArgs s__law_due) (defBody s__law_due) (defScope s__law_due) .none kV24 dc24 pm24 an24 cd24 ct24), sl24⟩) (c24' : PySem.W.codeIn K cd24 "_law_due" = true) (k24 : PySem.W.keepIn K (.ref f24) = true)
    (a25 : PySem.W.nsIn K mainGlobals "law" = some (some (.ref f25))) (l25 : K.lookup f25 = some ⟨oc25, od25, .func (PySem.W.fnOf "law" "law" (defArgs s_law) (defBody s_law) (defScope s_law) .none kV25 dc25 pm25 an25 cd25 ct25), sl25⟩) (c25' : PySem.W.codeIn K cd25 "law" = true) (k25 : PySem.W.keepIn K (.ref f25) = true)
    (nd : decide (([] : List Addr).Nodup) = true)
    (z_all : PySem.W.nsIn K mainGlobals "all" = some none)
    (z_range : PySem.W.nsIn K mainGlobals "range" = some none)
    (z_str : PySem.W.nsIn K mainGlobals "str" = some none)
    (z_len : PySem.W.nsIn K mainGlobals "len" = some none)
    (z_int : PySem.W.nsIn K mainGlobals "int" = some none)
    (z_sum : PySem.W.nsIn K mainGlobals "sum" = some none)
    (z_min : PySem.W.nsIn K mainGlobals "min" = some none)
    (z_max : PySem.W.nsIn K mainGlobals "max" = some none)
    (g_MOST : PySem.W.nsIn K mainGlobals "MOST" = some (some (.int 4096 t_MOST)))
    (g_BLOCK : PySem.W.nsIn K mainGlobals "BLOCK" = some (some (.int 32 t_BLOCK)))
    (xT : PySem.W.nsIn K mainGlobals "TerseError" = some (some (.ref CT)))
    (x0 : PySem.W.nsIn K mainGlobals "BadNumber" = some (some (.ref c0)))
    (x1 : PySem.W.nsIn K mainGlobals "BadBits" = some (some (.ref c1)))
    (x2 : PySem.W.nsIn K mainGlobals "BadPlace" = some (some (.ref c2)))
    (x6 : PySem.W.nsIn K mainGlobals "TooMany" = some (some (.ref c6)))
    (e0 : excB K CT c0 = true)
    (e1 : excB K CT c1 = true)
    (e2 : excB K CT c2 = true)
    (e6 : excB K CT c6 = true) : LamX.LawAtS l w K (L2N.CX l.prog w) 9 63 "script" mg fa h := by
  have tx : Txt K mg CT c0 c1 c2 CT CT CT c6 := ⟨PySem.W.mg_none_of X G z_all,
    PySem.W.mg_none_of X G z_range,
    PySem.W.mg_none_of X G z_str,
    PySem.W.mg_none_of X G z_len,
    PySem.W.mg_none_of X G z_int,
    PySem.W.mg_none_of X G z_sum,
    PySem.W.mg_none_of X G z_min,
    PySem.W.mg_none_of X G z_max,
    ⟨_, PySem.W.mg_of X G g_MOST⟩,
    ⟨_, PySem.W.mg_of X G g_BLOCK⟩,
    part_cons X G x0 e0 (part_cons X G x1 e1 (part_cons X G x2 e2 (part_cons X G x6 e6 (part_nil)))),
    ⟨_, cls_mk X G y_Row w_Row⟩,
    fnT_mk X G a0 l0 c0' k0 (fun fd F => F.binds (ps := ["number"]) fun _ _ _ _ _ _ us hl => match us, hl with | [_], _ => rfl),
    fnT_mk X G a1 l1 c1' k1 (fun fd F => F.binds (ps := ["bits"]) fun _ _ _ _ _ _ us hl => match us, hl with | [_], _ => rfl),
    fnT_mk X G a2 l2 c2' k2 (fun fd F => F.binds (ps := ["number", "wide"]) fun _ _ _ _ _ _ us hl => match us, hl with | [_, _], _ => rfl),
    fnT_mk X G a3 l3 c3' k3 (fun fd F => F.binds (ps := ["numbers", "wide"]) fun _ _ _ _ _ _ us hl => match us, hl with | [_, _], _ => rfl),
    mkT_mk (cls_mk X G y_Row w_Row) a4 n4 l4 c4' k4 (fun fd F => F.binds (ps := ["self", "bits"]) fun _ _ _ _ _ _ us hl => match us, hl with | [_, _], _ => rfl),
    mtT_mk (cls_mk X G y_Row w_Row) a5 n5 l5 c5' k5 (fun fd F => F.binds (ps := ["self"]) fun _ _ _ _ _ _ us hl => match us, hl with | [_], _ => rfl),
    mtT_mk (cls_mk X G y_Row w_Row) a6 n6 l6 c6' k6 (fun fd F => F.binds (ps := ["self"]) fun _ _ _ _ _ _ us hl => match us, hl with | [_], _ => rfl),
    fnT_mk X G a7 l7 c7' k7 (fun fd F => F.binds (ps := ["script", "k"]) fun _ _ _ _ _ _ us hl => match us, hl with | [_, _], _ => rfl),
    fnT_mk X G a8 l8 c8' k8 (fun fd F => F.binds (ps := ["cell", "k"]) fun _ _ _ _ _ _ us hl => match us, hl with | [_, _], _ => rfl),
    fnT_mk X G a9 l9 c9' k9 (fun fd F => F.binds (ps := ["number"]) fun _ _ _ _ _ _ us hl => match us, hl with | [_], _ => rfl),
    fnT_mk X G a10 l10 c10' k10 (fun fd F => F.binds (ps := ["number", "wide"]) fun _ _ _ _ _ _ us hl => match us, hl with | [_, _], _ => rfl),
    mtT_mk (cls_mk X G y_Row w_Row) a11 n11 l11 c11' k11 (fun fd F => F.binds (ps := ["self", "good"]) fun _ _ _ _ _ _ us hl => match us, hl with | [_, _], _ => rfl),
    mtT_mk (cls_mk X G y_Row w_Row) a12 n12 l12 c12' k12 (fun fd F => F.binds (ps := ["self", "place"]) fun _ _ _ _ _ _ us hl => match us, hl with | [_, _], _ => rfl),
    fnT_mk X G a13 l13 c13' k13 (fun fd F => F.binds (ps := ["bits"]) fun _ _ _ _ _ _ us hl => match us, hl with | [_], _ => rfl),
    fnT_mk X G a14 l14 c14' k14 (fun fd F => F.binds (ps := ["bits", "wide"]) fun _ _ _ _ _ _ us hl => match us, hl with | [_, _], _ => rfl),
    fnT_mk X G a15 l15 c15' k15 (fun fd F => F.binds (ps := ["bits", "wide", "place"]) fun _ _ _ _ _ _ us hl => match us, hl with | [_, _, _], _ => rfl),
    mtT_mk (cls_mk X G y_Row w_Row) a16 n16 l16 c16' k16 (fun fd F => F.binds (ps := ["self", "block"]) fun _ _ _ _ _ _ us hl => match us, hl with | [_, _], _ => rfl),
    mtT_mk (cls_mk X G y_Row w_Row) a17 n17 l17 c17' k17 (fun fd F => F.binds (ps := ["self", "place"]) fun _ _ _ _ _ _ us hl => match us, hl with | [_, _], _ => rfl),
    mtT_mk (cls_mk X G y_Row w_Row) a18 n18 l18 c18' k18 (fun fd F => F.binds (ps := ["self", "place"]) fun _ _ _ _ _ _ us hl => match us, hl with | [_, _], _ => rfl),
    mtT_mk (cls_mk X G y_Row w_Row) a19 n19 l19 c19' k19 (fun fd F => F.binds (ps := ["self", "block", "sign"]) fun _ _ _ _ _ _ us hl => match us, hl with | [_, _, _], _ => rfl),
    mtT_mk (cls_mk X G y_Row w_Row) a20 n20 l20 c20' k20 (fun fd F => F.binds (ps := ["self", "number", "sign"]) fun _ _ _ _ _ _ us hl => match us, hl with | [_, _, _], _ => rfl),
    mtT_mk (cls_mk X G y_Row w_Row) a21 n21 l21 c21' k21 (fun fd F => F.binds (ps := ["self", "number"]) fun _ _ _ _ _ _ us hl => match us, hl with | [_, _], _ => rfl),
    mtT_mk (cls_mk X G y_Row w_Row) a22 n22 l22 c22' k22 (fun fd F => F.binds (ps := ["self", "number"]) fun _ _ _ _ _ _ us hl => match us, hl with | [_, _], _ => rfl),
    fnT_mk X G a23 l23 c23' k23 (fun fd F => F.binds (ps := ["row", "way", "at"]) fun _ _ _ _ _ _ us hl => match us, hl with | [_, _, _], _ => rfl),
    fnT_mk X G a24 l24 c24' k24 (fun fd F => F.binds (ps := ["bits", "way", "at"]) fun _ _ _ _ _ _ us hl => match us, hl with | [_, _, _], _ => rfl)⟩
  have nd' : (([] : List (Addr × Str)).map (·.1)).Nodup := of_decide_eq_true nd

  refine law_atN (st := s_law) (cdv := cd25) (an := an25) (kV := kV25) (doc := dc25) (pm := pm25) (ct := ct25) [] [] ?_ X G hfa a25 ?_ (fun s v => .of_eq rfl) law_true fun base KX G' TB => ok_law tx ⟨⟩ l25 c25'
  · exact fun p hp =>  by cases hp
  · exact fun p hp =>  by cases hp
end Lw
open PySem PySem.W PyProof.Rows
set_option maxHeartbeats 0 in
theorem PySem.Challenge.cw_tersewood_k21_room_and_looks_holds : PySem.Challenge.rw_tersewood_k21_room_and_looks.Holds := by
  w_on; o_law; k_head; (case hw => w_witness2)
  k_fill
  refine Dn.walk_ofOwns [] (l := PySem.Challenge.rw_tersewood_k21_room_and_looks) (n := 63) (k := 9) (x := "script") (CX := fun w => L2N.CX (PySem.Challenge.rw_tersewood_k21_room_and_looks).prog w) rfl (by decide) rfl ⟨rfl, by decide, by decide⟩ (by kernel_rfl) (fun w h Y => PySem.W.kIn_of Y) ?F (fun w H s e s' hh => by
    obtain ⟨_, _, _, _, _, _, _, _, _, _, _, _, z⟩ := hh
    exact z.elim)
  case F =>
    intro w mg fa h Y KX G hmg own
    refine' Lw.all_mk KX G hmg own ?y_Row ?w_Row ?a0 ?l0 ?c0' ?k0 ?a1 ?l1 ?c1' ?k1 ?a2 ?l2 ?c2' ?k2 ?a3 ?l3 ?c3' ?k3 ?a4 ?n4 ?l4 ?c4' ?k4 ?a5 ?n5 ?l5 ?c5' ?k5 ?a6 ?n6 ?l6 ?c6' ?k6 ?a7 ?l7 ?c7' ?k7 ?a8 ?l8 ?c8' ?k8 ?a9 ?l9 ?c9' ?k9 ?a10 ?l10 ?c10' ?k10 ?a11 ?n11 ?l11 ?c11' ?k11 ?a12 ?n12 ?l12 ?c12' ?k12 ?a13 ?l13 ?c13' ?k13 ?a14 ?l14 ?c14' ?k14 ?a15 ?l15 ?c15' ?k15 ?a16 ?n16 ?l16 ?c16' ?k16 ?a17 ?n17 ?l17 ?c17' ?k17 ?a18 ?n18 ?l18 ?c18' ?k18 ?a19 ?n19 ?l19 ?c19' ?k19 ?a20 ?n20 ?l20 ?c20' ?k20 ?a21 ?n21 ?l21 ?c21' ?k21 ?a22 ?n22 ?l22 ?c22' ?k22 ?a23 ?l23 ?c23' ?k23 ?a24 ?l24 ?c24' ?k24 ?a25 ?l25 ?c25' ?k25 ?nd ?z_all ?z_range ?z_str ?z_len ?z_int ?z_sum ?z_min ?z_max ?g_MOST ?g_BLOCK ?xT ?x0 ?x1 ?x2 ?x6 ?e0 ?e1 ?e2 ?e6
    (case y_Row => k_is)
    (case w_Row => kernel_rfl)
    (case a0 => k_is)
    (case l0 => k_is)
    (case c0' => k_is)
    (case k0 => k_is)
    (case a1 => k_is)
    (case l1 => k_is)
    (case c1' => k_is)
    (case k1 => k_is)
    (case a2 => k_is)
    (case l2 => k_is)
    (case c2' => k_is)
    (case k2 => k_is)
    (case a3 => k_is)
    (case l3 => k_is)
    (case c3' => k_is)
    (case k3 => k_is)
    (case a4 => k_is)
    (case n4 => k_is)
    (case l4 => k_is)
    (case c4' => k_is)
    (case k4 => k_is)
    (case a5 => k_is)
    (case n5 => k_is)
    (case l5 => k_is)
    (case c5' => k_is)
    (case k5 => k_is)
    (case a6 => k_is)
    (case n6 => k_is)
    (case l6 => k_is)
    (case c6' => k_is)
    (case k6 => k_is)
    (case a7 => k_is)
    (case l7 => k_is)
    (case c7' => k_is)
    (case k7 => k_is)
    (case a8 => k_is)
    (case l8 => k_is)
    (case c8' => k_is)
    (case k8 => k_is)
    (case a9 => k_is)
    (case l9 => k_is)
    (case c9' => k_is)
    (case k9 => k_is)
    (case a10 => k_is)
    (case l10 => k_is)
    (case c10' => k_is)
    (case k10 => k_is)
    (case a11 => k_is)
    (case n11 => k_is)
    (case l11 => k_is)
    (case c11' => k_is)
    (case k11 => k_is)
    (case a12 => k_is)
    (case n12 => k_is)
    (case l12 => k_is)
    (case c12' => k_is)
    (case k12 => k_is)
    (case a13 => k_is)
    (case l13 => k_is)
    (case c13' => k_is)
    (case k13 => k_is)
    (case a14 => k_is)
    (case l14 => k_is)
    (case c14' => k_is)
    (case k14 => k_is)
    (case a15 => k_is)
    (case l15 => k_is)
    (case c15' => k_is)
    (case k15 => k_is)
    (case a16 => k_is)
    (case n16 => k_is)
    (case l16 => k_is)
    (case c16' => k_is)
    (case k16 => k_is)
    (case a17 => k_is)
    (case n17 => k_is)
    (case l17 => k_is)
    (case c17' => k_is)
    (case k17 => k_is)
    (case a18 => k_is)
    (case n18 => k_is)
    (case l18 => k_is)
    (case c18' => k_is)
    (case k18 => k_is)
    (case a19 => k_is)
    (case n19 => k_is)
    (case l19 => k_is)
    (case c19' => k_is)
    (case k19 => k_is)
    (case a20 => k_is)
    (case n20 => k_is)
    (case l20 => k_is)
    (case c20' => k_is)
    (case k20 => k_is)
    (case a21 => k_is)
    (case n21 => k_is)
    (case l21 => k_is)
    (case c21' => k_is)
    (case k21 => k_is)
    (case a22 => k_is)
    (case n22 => k_is)
    (case l22 => k_is)
    (case c22' => k_is)
    (case k22 => k_is)
    (case a23 => k_is)
    (case l23 => k_is)
    (case c23' => k_is)
    (case k23 => k_is)
    (case a24 => k_is)
    (case l24 => k_is)
    (case c24' => k_is)
    (case k24 => k_is)
    (case a25 => k_is)
    (case l25 => k_is)
    (case c25' => k_is)
    (case k25 => k_is)
    (case nd => kernel_rfl)
    (case z_all => k_is)
    (case z_range => k_is)
    (case z_str => k_is)
    (case z_len => k_is)
    (case z_int => k_is)
    (case z_sum => k_is)
    (case z_min => k_is)
    (case z_max => k_is)
    (case g_MOST => k_is)
    (case g_BLOCK => k_is)
    (case xT => k_is)
    (case x0 => k_is)
    (case x1 => k_is)
    (case x2 => k_is)
    (case x6 => k_is)
    (case e0 => kernel_rfl)
    (case e1 => kernel_rfl)
    (case e2 => kernel_rfl)
    (case e6 => kernel_rfl)
