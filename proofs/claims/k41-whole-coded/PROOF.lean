import PyProof.Rows.All
import Wide.All
import OpenK.AllK
import Wide.FinOn
import HandS.ForMost
import HandS.ForExc
import HandS.Walk
import HandS.Wide
import HandS.Lambda
import HandS.EndTab
import HandS.HotCalls
import HandS.ExcIs
import HandS.IsInst
import HandS.StrMore
import HandS.Replace
import PyProof.StrBlock2
import HandS.EndOwn
import KE.KNestM
import PyProof.StrLawsFrom
import HandS.SortRule
import HandS.SortInts
import PyProof.Rows.SortShellAny
import HandS.WideBits
import HandS.TryOnly
import HandS.SetTxt0
import HandS.Set
import HandS.SetFor
import KE.GoesZip
import PyProof.ListStr
import PyProof.StrLawsFirst
import KE.KRevSl
import HandS.Style
import KE.SortKeyHeap
import KE.SortData
import KE.KSortKey
import PySem.Challenge.RW_tersewood_k41_whole_coded
set_option Elab.async false
set_option linter.all false
set_option maxRecDepth 100000
set_option maxHeartbeats 4000000
namespace Dn
open PySem PySem.Spec PyProof.Rows L2
/-! ### deep data, outcomes -/
inductive D where
  | non | bl (b : Bool) | int (i : Int) | str (l : List Nat)
  | lst (xs : List D) | tup (xs : List D) | scr (ns : List Int)
  | obj (c : Str) (fs : List (Str × D)) | opq (a : Addr)
inductive Res (α : Type) where
  | ok (a : α) | rs (c : Str) | stuck
def Res.bind {α β : Type} : Res α → (α → Res β) → Res β
  | .ok a, f => f a
  | .rs c, _ => .rs c
  | .stuck, _ => .stuck
/-- kept from being worked out by the kernel alone -/
theorem nrfl {α : Sort _} {a b : α} (h : a = b) : a = b := h
@[simp] theorem bind_ok {α β : Type} (a : α) (f : α → Res β) : (Res.ok a).bind f = f a := nrfl rfl
@[simp] theorem bind_rs {α β : Type} (c : Str) (f : α → Res β) : (Res.rs c : Res α).bind f = .rs c := nrfl rfl
@[simp] theorem bind_stuck {α β : Type} (f : α → Res β) : (Res.stuck : Res α).bind f = .stuck := nrfl rfl
/-! ### the deep data of a value over a frozen heap -/
section
variable (K : PySem.W.Frag) (mg : Str → Option Value)
inductive Rp (F : Hp) : V → D → Prop where
  | non : Rp F .non .non
  | bl (b : Bool) : Rp F (.bl b) (.bl b)
  | int (i : Int) : Rp F (.int i) (.int i)
  | str {x : Str} {l : List Nat} (h : TL.tl x = l) : Rp F (.str x) (.str l)
  | lst {a : Addr} {vs : List V} {ds : List D} (h : F a = some (.lst vs)) (hl : vs.length = ds.length) (he : ∀ (i : Nat) v d, vs[i]? = some v → ds[i]? = some d → Rp F v d) : Rp F (.ref a) (.lst ds)
  | tup {a : Addr} {vs : List V} {ds : List D} (h : F a = some (.tup vs)) (hl : vs.length = ds.length) (he : ∀ (i : Nat) v d, vs[i]? = some v → ds[i]? = some d → Rp F v d) : Rp F (.ref a) (.tup ds)
  | opq (a : Addr) : Rp F (.ref a) (.opq a)
  | scr {a : Addr} {ns : List Int} (h : SqL K F a (ns.map V.int)) : Rp F (.ref a) (.scr ns)
  | obj {a C dx : Addr} {gs : List (Str × V)} {c : Str} {fs : List (Str × D)} (vf : Str → V) (hm : mg c = some (.ref C)) (h : F a = some (.ins C dx gs)) (h0 : fs.lookup ("seen" : Str) = none)
      (h1 : ∀ n d, fs.lookup n = some d → gs.lookup n = some (vf n)) (h2 : ∀ n d, fs.lookup n = some d → Rp F (vf n) d) (h3 : ∀ n v, gs.lookup n = some v → (fs.lookup n).isSome = true ∨ n = ("seen" : Str))
      (h4 : c = ("Row" : Str) → ∃ i : Int, gs.lookup ("seen" : Str) = some (.int i)) (h5 : gs.length < 200) : Rp F (.ref a) (.obj c fs)
end
/-- what an object may become: a counter «seen» may turn -/
def Chg (o o' : HO) : Prop := o' = o ∨ ∃ (C dx : Addr) (gs gs' : List (Str × V)), o = .ins C dx gs ∧ o' = .ins C dx gs' ∧ (∀ n : Str, n ≠ "seen" → gs'.lookup n = gs.lookup n) ∧ (∀ i : Int, gs.lookup ("seen" : Str) = some (.int i) → ∃ j : Int, gs'.lookup ("seen" : Str) = some (.int j)) ∧ gs'.length = gs.length
theorem Chg.refl (o : HO) : Chg o o := .inl rfl
theorem Chg.trans {a b c : HO} (h : Chg a b) (g : Chg b c) : Chg a c := by
  rcases h with rfl | ⟨C, dx, gs, gs', rfl, rfl, e, s, l⟩
  · exact g
  · rcases g with rfl | ⟨C2, dx2, gs2, gs3, e1, rfl, e2, s2, l2⟩
    · exact .inr ⟨C, dx, gs, gs', rfl, rfl, e, s, l⟩
    · cases e1
      exact .inr ⟨C, dx, gs, gs3, rfl, rfl, fun n hn => (e2 n hn).trans (e n hn), fun i hi => by
        obtain ⟨j, hj⟩ := s i hi
        exact s2 j hj, l2.trans l⟩
def Rel (F F' : Hp) : Prop := ∀ a o, F a = some o → ∃ o', F' a = some o' ∧ Chg o o'
theorem Rel.refl (F : Hp) : Rel F F := fun _ o h => ⟨o, h, .refl o⟩
theorem Rel.trans {F F1 F2 : Hp} (h : Rel F F1) (g : Rel F1 F2) : Rel F F2 := fun a o e => by
  obtain ⟨o1, e1, c1⟩ := h a o e
  obtain ⟨o2, e2, c2⟩ := g a o1 e1
  exact ⟨o2, e2, c1.trans c2⟩
theorem Rel.lst {F F' : Hp} (h : Rel F F') {a : Addr} {xs : List V} (e : F a = some (.lst xs)) : F' a = some (.lst xs) := by
  obtain ⟨o, e1, c⟩ := h a _ e
  rcases c with rfl | ⟨_, _, _, _, z, _⟩
  · exact e1
  · cases z
theorem Rel.tup {F F' : Hp} (h : Rel F F') {a : Addr} {xs : List V} (e : F a = some (.tup xs)) : F' a = some (.tup xs) := by
  obtain ⟨o, e1, c⟩ := h a _ e
  rcases c with rfl | ⟨_, _, _, _, z, _⟩
  · exact e1
  · cases z
theorem Rel.frz {F F' : Hp} (h : Rel F F') {a : Addr} {ob : Obj} {u : HO} (e : F a = some (.frz ob u)) : F' a = some (.frz ob u) := by
  obtain ⟨o, e1, c⟩ := h a _ e
  rcases c with rfl | ⟨_, _, _, _, z, _⟩
  · exact e1
  · cases z
theorem Rel.seq {K : PySem.W.Frag} {F F' : Hp} (h : Rel F F') {a : Addr} {xs : List V} (e : SqL K F a xs) : SqL K F' a xs := by
  rcases e with (e | ⟨o, e⟩) | e
  · exact .inl (.inl (h.lst e))
  · exact .inl (.inr ⟨o, h.frz e⟩)
  · exact .inr e
theorem Rel.ins {F F' : Hp} (h : Rel F F') {a C dx : Addr} {gs : List (Str × V)} (e : F a = some (.ins C dx gs)) : ∃ gs', F' a = some (.ins C dx gs') ∧ (∀ n : Str, n ≠ "seen" → gs'.lookup n = gs.lookup n) ∧ (∀ i : Int, gs.lookup ("seen" : Str) = some (.int i) → ∃ j : Int, gs'.lookup ("seen" : Str) = some (.int j)) ∧ gs'.length = gs.length := by
  obtain ⟨o, e1, c⟩ := h a _ e
  rcases c with rfl | ⟨C2, dx2, gs2, gs3, e2, rfl, e3, s3, l3⟩
  · exact ⟨gs, e1, fun _ _ => rfl, fun i hi => ⟨i, hi⟩, rfl⟩
  · cases e2
    exact ⟨gs3, e1, e3, s3, l3⟩
theorem Rel.other {F F' : Hp} (h : Rel F F') {a : Addr} {o : HO} (e : F a = some o) (n : ∀ C dx gs, o ≠ .ins C dx gs) : F' a = some o := by
  obtain ⟨o1, e1, c⟩ := h a _ e
  rcases c with rfl | ⟨C, dx, gs, _, z, _⟩
  · exact e1
  · exact (n C dx gs z).elim
theorem Rp.mono {K : PySem.W.Frag} {mg : Str → Option Value} {F F' : Hp} (h : Rel F F') {v : V} {d : D} (r : Rp K mg F v d) : Rp K mg F' v d := by
  induction r with
  | non => exact .non
  | bl b => exact .bl b
  | int i => exact .int i
  | str e => exact .str e
  | lst e hl he ih => exact .lst (h.lst e) hl ih
  | tup e hl he ih => exact .tup (h.tup e) hl ih
  | opq a => exact .opq a
  | scr e => exact .scr (h.seq e)
  | obj vf hm e h0 h1 h2 h3 h4 h5 ih =>
    obtain ⟨gs', e', hg, hs, hlen⟩ := h.ins e
    refine .obj vf hm e' h0 (fun n d q => ?_) ih (fun n v q => ?_) (fun hc => by
      obtain ⟨i, hi⟩ := h4 hc
      exact hs i hi) (by rw [hlen]; exact h5)
    · rw [hg n (fun z => by rw [z, h0] at q; cases q)]
      exact h1 n d q
    · by_cases hn : n = "seen"
      · exact .inr hn
      · rw [hg n hn] at q
        exact h3 n v q
/-- lists of values -/
abbrev RpL (K : PySem.W.Frag) (mg : Str → Option Value) (F : Hp) (vs : List V) (ds : List D) : Prop := Paired (Rp K mg F) vs ds
section
variable {K : PySem.W.Frag} {mg : Str → Option Value} {F F' H H' : Hp}
theorem RpL.mono {vs : List V} {ds : List D} (h : Rel F F') (r : RpL K mg F vs ds) : RpL K mg F' vs ds := Paired.mono (fun _ _ x => x.mono h) r
theorem RpL.get : ∀ {vs : List V} {ds : List D} {i : Nat} {v : V} {d : D}, RpL K mg F vs ds → vs[i]? = some v → ds[i]? = some d → Rp K mg F v d
  | _, _, _, _, _, .nil, e, _ => by simp at e
  | _, _, 0, _, _, .cons r _, e, e' => by simp at e e'; subst e e'; exact r
  | _, _, i + 1, v, d, .cons _ t, e, e' => RpL.get (i := i) t (by simpa using e) (by simpa using e')
theorem RpL.of : ∀ {vs : List V} {ds : List D}, vs.length = ds.length → (∀ (i : Nat) v d, vs[i]? = some v → ds[i]? = some d → Rp K mg F v d) → RpL K mg F vs ds
  | [], [], _, _ => .nil
  | [], _ :: _, e, _ => by simp at e
  | _ :: _, [], e, _ => by simp at e
  | v :: vs, d :: ds, e, h => .cons (h 0 v d rfl rfl) (RpL.of (by simpa using e) fun i v d e1 e2 => h (i + 1) v d (by simpa using e1) (by simpa using e2))
theorem RpL.lst {a : Addr} {vs : List V} {ds : List D} (h : F a = some (.lst vs)) (r : RpL K mg F vs ds) : Rp K mg F (.ref a) (.lst ds) := .lst h r.length fun _ _ _ e e' => r.get e e'
theorem RpL.tup {a : Addr} {vs : List V} {ds : List D} (h : F a = some (.tup vs)) (r : RpL K mg F vs ds) : Rp K mg F (.ref a) (.tup ds) := .tup h r.length fun _ _ _ e e' => r.get e e'
theorem RpL.append : ∀ {vs us : List V} {ds es : List D}, RpL K mg F vs ds → RpL K mg F us es → RpL K mg F (vs ++ us) (ds ++ es)
  | _, _, _, _, .nil, s => s
  | _, _, _, _, .cons r t, s => .cons r (RpL.append t s)
theorem RpL.take : ∀ {vs : List V} {ds : List D} (n : Nat), RpL K mg F vs ds → RpL K mg F (vs.take n) (ds.take n)
  | _, _, 0, _ => .nil
  | _, _, _ + 1, .nil => .nil
  | _, _, n + 1, .cons r t => .cons r (RpL.take n t)
theorem RpL.drop : ∀ {vs : List V} {ds : List D} (n : Nat), RpL K mg F vs ds → RpL K mg F (vs.drop n) (ds.drop n)
  | _, _, 0, r => r
  | _, _, _ + 1, .nil => .nil
  | _, _, n + 1, .cons _ t => RpL.drop n t
theorem RpL.set : ∀ {vs : List V} {ds : List D} {v : V} {d : D} (i : Nat), RpL K mg F vs ds → Rp K mg F v d → RpL K mg F (vs.set i v) (ds.set i d)
  | _, _, _, _, _, .nil, _ => .nil
  | _, _, _, _, 0, .cons _ t, r => .cons r t
  | _, _, _, _, i + 1, .cons q t, r => .cons q (RpL.set i t r)
theorem RpL.dropLast : ∀ {vs : List V} {ds : List D}, RpL K mg F vs ds → RpL K mg F vs.dropLast ds.dropLast
  | _, _, .nil => .nil
  | _, _, .cons _ .nil => .nil
  | _, _, .cons r (.cons q t) => .cons r (RpL.dropLast (.cons q t))
theorem RpL.get1 {vs : List V} {ds : List D} {i : Nat} {d : D} (r : RpL K mg F vs ds) (e : ds[i]? = some d) : ∃ v, vs[i]? = some v ∧ Rp K mg F v d := by
  have hl := r.length
  have hi : i < vs.length := by rw [hl]; exact (List.getElem?_eq_some_iff.mp e).1
  exact ⟨vs[i], List.getElem?_eq_getElem hi, r.get (List.getElem?_eq_getElem hi) e⟩
theorem RpL.ints : ∀ {vs : List V} {ns : List Int}, RpL K mg F vs (ns.map D.int) → vs = ns.map V.int
  | _, [], r => by cases r; rfl
  | _, n :: ns, r => by
    cases r with
    | cons r t => cases r; rw [RpL.ints t]; rfl
theorem RpL.strs : ∀ {vs : List V} {ls : List (List Nat)}, RpL K mg F vs (ls.map D.str) → ∃ ys : List Str, vs = ys.map V.str ∧ ys.map TL.tl = ls
  | _, [], r => by cases r; exact ⟨[], rfl, rfl⟩
  | _, l :: ls, r => by
    cases r with
    | cons r t =>
      cases r with
      | str h =>
        obtain ⟨ys, e1, e2⟩ := RpL.strs t
        exact ⟨_ :: ys, by rw [e1]; rfl, by rw [List.map_cons, h, e2]⟩
theorem RpL.bls : ∀ {vs : List V} {ns : List Bool}, RpL K mg F vs (ns.map D.bl) → vs = ns.map V.bl
  | _, [], r => by cases r; rfl
  | _, n :: ns, r => by
    cases r with
    | cons r t => cases r; rw [RpL.bls t]; rfl
theorem Rp.lst_inv {v : V} {ds : List D} (r : Rp K mg F v (.lst ds)) : ∃ a vs, v = .ref a ∧ F a = some (.lst vs) ∧ RpL K mg F vs ds := by
  cases r with
  | lst h hl he => exact ⟨_, _, rfl, h, .of hl he⟩
theorem Rp.tup_inv {v : V} {ds : List D} (r : Rp K mg F v (.tup ds)) : ∃ a vs, v = .ref a ∧ F a = some (.tup vs) ∧ RpL K mg F vs ds := by
  cases r with
  | tup h hl he => exact ⟨_, _, rfl, h, .of hl he⟩
end
/-! ### the steps of the heap -/
def Sub (F H : Hp) : Prop := ∀ a o, F a = some o → H a = some o
theorem Sub.rel {F H : Hp} (h : Sub F H) : Rel F H := fun a o e => ⟨o, h a o e, .refl o⟩
/-- what is held of the heap: all but unknown tables of code objects -/
def vis (T : List (Addr × Str)) (a : Addr) (o : HO) : Prop := T = [] ∨ (∀ ps, o ≠ .tbl ps) ∨ ∃ q, (a, q) ∈ T
/-- a place at which nothing is held -/
def Fr0 (T : List (Addr × Str)) (H : Hp) (p : Addr) : Prop := ∀ o, H p = some o → ¬ vis T p o
structure Gd (T : List (Addr × Str)) (F H : Hp) : Prop where
  sub : Sub F H
  tabs : LamX.Tabs T H
  ntb : ∀ a ps, F a ≠ some (.tbl ps)
structure Step (T : List (Addr × Str)) (F H F' H' : Hp) : Prop where
  r : Rel F F'
  gd : Gd T F' H'
  fr : ∀ a o, F a = none → H a = some o → (T = [] ∨ ∀ ps, o ≠ .tbl ps) → H' a = some o
  off : ∀ a o, F a = none → H a = some o → vis T a o → F' a = none ∧ ∃ o', H' a = some o' ∧ vis T a o'
section
variable {T : List (Addr × Str)} {F H F1 H1 F2 H2 : Hp} {p : Addr} {o : HO}
theorem Fr0.of (h : H p = none) : Fr0 T H p := fun o e => by rw [h] at e; cases e
theorem Fr0.ne (h : Fr0 T H p) {a : Addr} {o : HO} (e : H a = some o) (v : vis T a o) : a ≠ p := fun z => by subst z; exact h o e v
theorem vis_of {a : Addr} {o : HO} (h : T = [] ∨ ∀ ps, o ≠ .tbl ps) : vis T a o := h.elim .inl fun z => .inr (.inl z)
theorem Step.sub (s : Step T F H F1 H1) : Sub F1 H1 := s.gd.sub
theorem Step.tabs (s : Step T F H F1 H1) : LamX.Tabs T H1 := s.gd.tabs
theorem Step.refl (g : Gd T F H) : Step T F H F H := ⟨.refl F, g, fun _ _ _ e _ => e, fun _ o n e v => ⟨n, o, e, v⟩⟩
theorem Step.trans (a : Step T F H F1 H1) (b : Step T F1 H1 F2 H2) : Step T F H F2 H2 :=
  ⟨a.r.trans b.r, b.gd, fun x o n e c => b.fr x o (a.off x o n e (vis_of c)).1 (a.fr x o n e c) c, fun x o n e v => by
    obtain ⟨n1, o1, e1, v1⟩ := a.off x o n e v
    exact b.off x o1 n1 e1 v1⟩
theorem tabs_new (t : LamX.Tabs T H) (hp : H p = none) : LamX.Tabs T (upd H p o) := t.ext fun b u e => by
  rw [upd_ne (ne_of_none e hp)]
  exact e
theorem Sub.none (h : Sub F H) (hp : H p = none) : F p = none := by
  cases q : F p with
  | none => rfl
  | some u => rw [h p u q] at hp; cases hp
theorem Step.new (g : Gd T F H) (hp : H p = none) (ho : ∀ ps, o ≠ .tbl ps := by intro _ z; cases z) : Step T F H (upd F p o) (upd H p o) := by
  have nF := g.sub.none hp
  refine ⟨fun a u e => ⟨u, by rw [upd_ne (ne_of_none e nF)]; exact e, .refl u⟩, ⟨fun a u e => ?_, tabs_new g.tabs hp, fun a ps e => ?_⟩, fun a u n e _ => by rw [upd_ne (ne_of_none e hp)]; exact e, fun a u n e v => ⟨?_, u, by rw [upd_ne (ne_of_none e hp)]; exact e, v⟩⟩
  · by_cases z : a = p
    · subst z; rw [upd_same] at e ⊢; exact e
    · rw [upd_ne z] at e ⊢; exact g.sub a u e
  · by_cases z : a = p
    · subst z; rw [upd_same] at e; exact ho ps (Option.some.inj e)
    · rw [upd_ne z] at e; exact g.ntb a ps e
  · rw [upd_ne (ne_of_none e hp)]; exact n
/-- a new object that is not (yet) frozen -/
theorem Step.junk (g : Gd T F H) (hp : H p = none) : Step T F H F (upd H p o) :=
  ⟨.refl F, ⟨fun a u e => by rw [upd_ne (ne_of_none (g.sub a u e) hp)]; exact g.sub a u e, tabs_new g.tabs hp, g.ntb⟩, fun a u n e _ => by rw [upd_ne (ne_of_none e hp)]; exact e, fun a u n e v => ⟨n, u, by rw [upd_ne (ne_of_none e hp)]; exact e, v⟩⟩
/-- an object that was not there at the start is frozen -/
theorem Step.freeze (s : Step T F H F1 H1) (n0 : Fr0 T H p) (hF : F1 p = none) (e : H1 p = some o) (ho : ∀ ps, o ≠ .tbl ps := by intro _ z; cases z) : Step T F H (upd F1 p o) H1 := by
  refine ⟨fun a u q => ?_, ⟨fun a u q => ?_, s.tabs, fun a ps q => ?_⟩, s.fr, fun a u n q v => ?_⟩
  · obtain ⟨u', q', c⟩ := s.r a u q
    exact ⟨u', by rw [upd_ne (ne_of_none q' hF)]; exact q', c⟩
  · by_cases z : a = p
    · subst z; rw [upd_same] at q; cases q; exact e
    · rw [upd_ne z] at q; exact s.sub a u q
  · by_cases z : a = p
    · subst z; rw [upd_same] at q; exact ho ps (Option.some.inj q)
    · rw [upd_ne z] at q; exact s.gd.ntb a ps q
  · obtain ⟨n1, o1, e1, v1⟩ := s.off a u n q v
    exact ⟨by rw [upd_ne (n0.ne q v)]; exact n1, o1, e1, v1⟩
/-- an object that was not there at the start, and is not frozen, changes -/
theorem Step.turn (s : Step T F H F1 H1) (n0 : Fr0 T H p) (hF : F1 p = none) (ht : ∀ ps, H1 p ≠ some (.tbl ps)) (hx : ∀ φ, H1 p ≠ some (.ext φ)) : Step T F H F1 (upd H1 p o) := by
  refine ⟨s.r, ⟨fun a u q => ?_, fun x hx' => ?_, s.gd.ntb⟩, fun a u n q c => ?_, fun a u n q v => ?_⟩
  · rw [upd_ne (ne_of_none q hF)]; exact s.sub a u q
  · obtain ⟨ps, e1, e2, e3⟩ := s.tabs x hx'
    refine ⟨ps, ?_, e2, fun pos cv hc => ?_⟩
    · rw [upd_ne (fun z => ht ps (by rw [← z]; exact e1))]; exact e1
    · obtain ⟨c, h1, h2⟩ := e3 pos cv hc
      refine ⟨c, h1, ?_⟩
      rw [upd_ne (fun z => hx _ (by rw [← z]; exact h2))]; exact h2
  · rw [upd_ne (n0.ne q (vis_of c))]; exact s.fr a u n q c
  · obtain ⟨n1, o1, e1, v1⟩ := s.off a u n q v
    exact ⟨n1, o1, by rw [upd_ne (n0.ne q v)]; exact e1, v1⟩
/-- from a callee (all is kept) to any air -/
theorem Step.lift (g : Gd T F H) (s : Step [] F H F1 H1) : Step T F H F1 H1 := by
  have same : ∀ a o, H a = some o → (∀ C dx gs, o ≠ .ins C dx gs) → H1 a = some o := fun a o e n => by
    cases q : F a with
    | none => exact s.fr a o q e (.inl rfl)
    | some u =>
      have e' := g.sub a u q
      rw [e] at e'; cases e'
      exact s.sub a o (s.r.other q n)
  refine ⟨s.r, ⟨s.sub, fun x hx => ?_, s.gd.ntb⟩, fun a o n e _ => s.fr a o n e (.inl rfl), fun a o n e v => ⟨(s.off a o n e (.inl rfl)).1, o, s.fr a o n e (.inl rfl), v⟩⟩
  obtain ⟨ps, e1, e2, e3⟩ := g.tabs x hx
  refine ⟨ps, same _ _ e1 (fun _ _ _ z => by cases z), e2, fun pos cv hc => ?_⟩
  obtain ⟨c, h1, h2⟩ := e3 pos cv hc
  exact ⟨c, h1, same _ _ h2 (fun _ _ _ z => by unfold LamX.CodeO at z; cases z)⟩
end
/-! ### the store -/
inductive Slot where
  | no | val (d : D) | own (ds : List D) | ins (c : Str) (fs : List (Str × D))
abbrev Sto := List Slot
def Slot.owned : Slot → Bool
  | .own _ => true
  | .ins _ _ => true
  | _ => false
section
variable (K : PySem.W.Frag) (mg : Str → Option Value)
/-- an instance's attributes, exactly -/
def Flds (F : Hp) (gs : List (Str × V)) (fs : List (Str × D)) : Prop := Paired (fun (p : Str × V) (q : Str × D) => p.1 = q.1 ∧ Rp K mg F p.2 q.2) gs fs
def SlotOk (F H : Hp) (ov : Option V) : Slot → Prop
  | .no => True
  | .val d => ∃ v, ov = some v ∧ Rp K mg F v d
  | .own ds => ∃ a vs, ov = some (.ref a) ∧ F a = none ∧ H a = some (.lst vs) ∧ RpL K mg F vs ds
  | .ins c fs => ∃ a C dx gs, ov = some (.ref a) ∧ F a = none ∧ F dx = none ∧ mg c = some (.ref C) ∧ H a = some (.ins C dx gs) ∧ H dx = some (.own a) ∧ Flds K mg F gs fs
structure Lcl (T : List (Addr × Str)) (F H : Hp) (σ : L2.St) (δ : Sto) : Prop where
  gd : Gd T F H
  len : σ.length = δ.length
  slot : ∀ (i : Nat) s, δ[i]? = some s → ∃ ov, σ[i]? = some ov ∧ SlotOk K mg F H ov s
  apart : ∀ (i j : Nat) s s' a, i ≠ j → δ[i]? = some s → δ[j]? = some s' → s.owned = true → s'.owned = true → σ[i]? = some (some (.ref a)) → σ[j]? = some (some (.ref a)) → False
end
section
variable {K : PySem.W.Frag} {mg : Str → Option Value} {T : List (Addr × Str)} {F H F' H' : Hp} {σ : L2.St} {δ : Sto}
theorem Flds.mono {gs : List (Str × V)} {fs : List (Str × D)} (h : Rel F F') (r : Flds K mg F gs fs) : Flds K mg F' gs fs := Paired.mono (fun _ _ x => ⟨x.1, x.2.mono h⟩) r
theorem SlotOk.step {ov : Option V} {s : Slot} (h : SlotOk K mg F H ov s) (st : Step T F H F' H') : SlotOk K mg F' H' ov s := by
  cases s with
  | no => trivial
  | val d =>
    obtain ⟨v, e, r⟩ := h
    exact ⟨v, e, r.mono st.r⟩
  | own ds =>
    obtain ⟨a, vs, e, n, q, r⟩ := h
    exact ⟨a, vs, e, (st.off a _ n q (.inr (.inl fun _ z => by cases z))).1, st.fr a _ n q (.inr fun _ z => by cases z), r.mono st.r⟩
  | ins c fs =>
    obtain ⟨a, C, dx, gs, e, n, n', hm, q, q', r⟩ := h
    exact ⟨a, C, dx, gs, e, (st.off a _ n q (.inr (.inl fun _ z => by cases z))).1, (st.off dx _ n' q' (.inr (.inl fun _ z => by cases z))).1, hm, st.fr a _ n q (.inr fun _ z => by cases z), st.fr dx _ n' q' (.inr fun _ z => by cases z), r.mono st.r⟩
theorem Lcl.step (L : Lcl K mg T F H σ δ) (st : Step T F H F' H') : Lcl K mg T F' H' σ δ :=
  ⟨st.gd, L.len, fun i s e => by
    obtain ⟨ov, e1, h⟩ := L.slot i s e
    exact ⟨ov, e1, h.step st⟩, L.apart⟩
theorem Lcl.sub (L : Lcl K mg T F H σ δ) : Sub F H := L.gd.sub
theorem Lcl.tabs (L : Lcl K mg T F H σ δ) : LamX.Tabs T H := L.gd.tabs
theorem Lcl.refl (L : Lcl K mg T F H σ δ) : Step T F H F H := .refl L.gd
end
/-! ### the readings -/
/-- a wish about exceptions: by the class's name -/
abbrev Wi := Str → Hp → Prop
abbrev WF : Wi := fun _ _ => False
section
variable (K : PySem.W.Frag) (mg : Str → Option Value) (T : List (Addr × Str))
def PostE (F H : Hp) (W : Wi) (Q : VK) : Res D → Prop
  | .ok d => ∀ v F' H', Step T F H F' H' → Rp K mg F' v d → Q v H'
  | .rs c => ∀ F' H', Step T F H F' H' → W c H'
  | .stuck => False
def PostT (F H : Hp) (W : Wi) (Q : Bool → Hp → Prop) : Res Bool → Prop
  | .ok b => ∀ F' H', Step T F H F' H' → Q b H'
  | .rs c => ∀ F' H', Step T F H F' H' → W c H'
  | .stuck => False
def PostA (F H : Hp) (W : Wi) (Q : List V → Hp → Prop) : Res (List D) → Prop
  | .ok ds => ∀ vs F' H', Step T F H F' H' → RpL K mg F' vs ds → Q vs H'
  | .rs c => ∀ F' H', Step T F H F' H' → W c H'
  | .stuck => False
/-- a new list, not yet frozen -/
def PostL (F H : Hp) (W : Wi) (Q : VK) : Res (List D) → Prop
  | .ok ds => ∀ p vs F' H', Fr0 T H p → Step T F H F' H' → F' p = none → H' p = some (.lst vs) → RpL K mg F' vs ds → Q (.ref p) H'
  | .rs c => ∀ F' H', Step T F H F' H' → W c H'
  | .stuck => False
def tD (W : Wi) (f : Sto → Res D) : TE := fun σ H Q => ∃ F δ, Lcl K mg T F H σ δ ∧ PostE K mg T F H W Q (f δ)
def tDT (W : Wi) (f : Sto → Res Bool) : TT := fun σ H Q => ∃ F δ, Lcl K mg T F H σ δ ∧ PostT T F H W Q (f δ)
def tDA (W : Wi) (f : Sto → Res (List D)) : TA := fun σ H Q => ∃ F δ, Lcl K mg T F H σ δ ∧ PostA K mg T F H W Q (f δ)
def tDL (W : Wi) (f : Sto → Res (List D)) : TE := fun σ H Q => ∃ F δ, Lcl K mg T F H σ δ ∧ PostL K mg T F H W Q (f δ)
end
section
variable {K : PySem.W.Frag} {mg : Str → Option Value} {T : List (Addr × Str)} {F H F' H' : Hp} {σ : L2.St} {δ : Sto} {W : Wi}
theorem PostE.shift {Q : VK} {r : Res D} (h : PostE K mg T F H W Q r) (st : Step T F H F' H') : PostE K mg T F' H' W Q r := by
  cases r with
  | ok d => exact fun v F2 H2 s2 => h v F2 H2 (st.trans s2)
  | rs c => exact fun F2 H2 s2 => h F2 H2 (st.trans s2)
  | stuck => exact h
theorem PostT.shift {Q : Bool → Hp → Prop} {r : Res Bool} (h : PostT T F H W Q r) (st : Step T F H F' H') : PostT T F' H' W Q r := by
  cases r with
  | ok d => exact fun F2 H2 s2 => h F2 H2 (st.trans s2)
  | rs c => exact fun F2 H2 s2 => h F2 H2 (st.trans s2)
  | stuck => exact h
theorem PostE.here {Q : VK} {d : D} {v : V} (h : PostE K mg T F H W Q (.ok d)) (g : Gd T F H) (r : Rp K mg F v d) : Q v H := h v F H (.refl g) r
/-- an expression, then the rest -/
theorem tD_bind {β : Type} {f : Sto → Res D} {k : D → Res β} {Q : VK} (L : Lcl K mg T F H σ δ)
    (hrs : ∀ c, f δ = .rs c → ∀ F' H', Step T F H F' H' → W c H') (hst : f δ ≠ .stuck) (hok : ∀ d, f δ = .ok d → ∀ v F' H', Step T F H F' H' → Lcl K mg T F' H' σ δ → Rp K mg F' v d → Q v H') : tD K mg T W f σ H Q := by
  refine ⟨F, δ, L, ?_⟩
  cases e : f δ with
  | ok d => exact fun v F' H' st r => hok d e v F' H' st (L.step st) r
  | rs c => exact fun F' H' st => hrs c e F' H' st
  | stuck => exact hst e
end
end Dn


set_option Elab.async false
set_option linter.all false
set_option maxRecDepth 100000
set_option maxHeartbeats 4000000
namespace Dn
open PySem PySem.Spec PyProof.Rows L2
/-! ### the judgements -/
abbrev DE (T : List (Addr × Str)) (X : Cx) (W : Wi) (e : Expr) (f : Sto → Res D) : Prop := PE X e (tD X.K X.mg T W f)
abbrev DT (T : List (Addr × Str)) (X : Cx) (W : Wi) (e : Expr) (f : Sto → Res Bool) : Prop := PT X e (tDT X.K X.mg T W f)
abbrev DW (T : List (Addr × Str)) (X : Cx) (W : Wi) (e : Expr) (f : Sto → Res Bool) : Prop := PW X e (tDT X.K X.mg T W f)
abbrev DA (T : List (Addr × Str)) (X : Cx) (W : Wi) (es : List Expr) (f : Sto → Res (List D)) : Prop := PA X es (tDA X.K X.mg T W f)
abbrev DL (T : List (Addr × Str)) (X : Cx) (W : Wi) (e : Expr) (f : Sto → Res (List D)) : Prop := PE X e (tDL X.K X.mg T W f)
theorem weakE {X : Cx} {e : Expr} {t t' : TE} (h : PE X e t) (hw : ∀ σ H Q, t' σ H Q → t σ H Q) : PE X e t' := ⟨fun pins s σ H Q I q => h.run pins s σ H Q I (hw σ H Q q)⟩
theorem weakT {X : Cx} {e : Expr} {t t' : TT} (h : PT X e t) (hw : ∀ σ H Q, t' σ H Q → t σ H Q) : PT X e t' := ⟨fun pins s σ H Q I q => h.run pins s σ H Q I (hw σ H Q q)⟩
theorem weakW {X : Cx} {e : Expr} {t t' : TT} (h : PW X e t) (hw : ∀ σ H Q, t' σ H Q → t σ H Q) : PW X e t' := ⟨fun wh pins s σ H Q I q => h.run wh pins s σ H Q I (hw σ H Q q)⟩
theorem weakA {X : Cx} {e : List Expr} {t t' : TA} (h : PA X e t) (hw : ∀ σ H Q, t' σ H Q → t σ H Q) : PA X e t' := ⟨fun pos pins s σ H Q I q => h.run pos pins s σ H Q I (hw σ H Q q)⟩
/-! ### one after the other -/
structure PP (T : List (Addr × Str)) (W : Wi) {β : Type} (P : Hp → Hp → Res β → Prop) : Prop where
  st : ∀ F H, ¬ P F H .stuck
  rs : ∀ F H c, P F H (.rs c) → ∀ F' H', Step T F H F' H' → W c H'
  sh : ∀ F H F' H' r, Gd T F H → Step T F H F' H' → P F H r → P F' H' r
theorem Step.back {T : List (Addr × Str)} {F H F' H' : Hp} {p : Addr} (st : Step T F H F' H') (sb : Sub F H) (h : Fr0 T H' p) : Fr0 T H p := fun o q v => by
  cases z : F p with
  | none =>
    obtain ⟨_, o', e, v'⟩ := st.off p o z q v
    exact h o' e v'
  | some u =>
    have e0 := sb p u z
    rw [q] at e0; cases e0
    obtain ⟨o', e, c⟩ := st.r p o z
    refine h o' (st.sub p o' e) (.inr (.inl fun ps y => ?_))
    subst y
    exact st.gd.ntb p ps e
section
variable {K : PySem.W.Frag} {mg : Str → Option Value} {T : List (Addr × Str)} {F H F' H' : Hp} {σ : L2.St} {δ : Sto} {W : Wi}
theorem ppE {Q : VK} : PP T W (fun F H r => PostE K mg T F H W Q r) := ⟨fun _ _ h => h, fun _ _ _ h => h, fun _ _ _ _ _ _ st h => h.shift st⟩
theorem ppT {Q : Bool → Hp → Prop} : PP T W (fun F H r => PostT T F H W Q r) := ⟨fun _ _ h => h, fun _ _ _ h => h, fun _ _ _ _ _ _ st h => h.shift st⟩
theorem ppA {Q : List V → Hp → Prop} : PP T W (fun F H r => PostA K mg T F H W Q r) := ⟨fun _ _ h => h, fun _ _ _ h => h, fun F H F' H' r _ st h => by
  cases r with
  | ok d => exact fun v F2 H2 s2 => h v F2 H2 (st.trans s2)
  | rs c => exact fun F2 H2 s2 => h F2 H2 (st.trans s2)
  | stuck => exact h⟩
theorem ppL {Q : VK} : PP T W (fun F H r => PostL K mg T F H W Q r) := ⟨fun _ _ h => h, fun _ _ _ h => h, fun F H F' H' r sb st h => by
  cases r with
  | ok d => exact fun p vs F2 H2 hp s2 => h p vs F2 H2 (st.back sb.sub hp) (st.trans s2)
  | rs c => exact fun F2 H2 s2 => h F2 H2 (st.trans s2)
  | stuck => exact h⟩
theorem bindE {β : Type} {P : Hp → Hp → Res β → Prop} {f : Sto → Res D} {k : D → Res β} {Q' : VK} (pp : PP T W P) (L : Lcl K mg T F H σ δ) (h : P F H ((f δ).bind k))
    (hk : ∀ d v F' H', Step T F H F' H' → Lcl K mg T F' H' σ δ → Rp K mg F' v d → P F' H' (k d) → Q' v H') : tD K mg T W f σ H Q' := by
  refine ⟨F, δ, L, ?_⟩
  cases e : f δ with
  | ok d => rw [e] at h; exact fun v F' H' st r => hk d v F' H' st (L.step st) r (pp.sh _ _ _ _ _ L.gd st h)
  | rs c => rw [e] at h; exact pp.rs _ _ _ h
  | stuck => rw [e] at h; exact (pp.st _ _ h).elim
theorem bindT {β : Type} {P : Hp → Hp → Res β → Prop} {f : Sto → Res Bool} {k : Bool → Res β} {Q' : Bool → Hp → Prop} (pp : PP T W P) (L : Lcl K mg T F H σ δ) (h : P F H ((f δ).bind k))
    (hk : ∀ b F' H', Step T F H F' H' → Lcl K mg T F' H' σ δ → P F' H' (k b) → Q' b H') : tDT K mg T W f σ H Q' := by
  refine ⟨F, δ, L, ?_⟩
  cases e : f δ with
  | ok d => rw [e] at h; exact fun F' H' st => hk d F' H' st (L.step st) (pp.sh _ _ _ _ _ L.gd st h)
  | rs c => rw [e] at h; exact pp.rs _ _ _ h
  | stuck => rw [e] at h; exact (pp.st _ _ h).elim
theorem bindA {β : Type} {P : Hp → Hp → Res β → Prop} {f : Sto → Res (List D)} {k : List D → Res β} {Q' : List V → Hp → Prop} (pp : PP T W P) (L : Lcl K mg T F H σ δ) (h : P F H ((f δ).bind k))
    (hk : ∀ ds vs F' H', Step T F H F' H' → Lcl K mg T F' H' σ δ → RpL K mg F' vs ds → P F' H' (k ds) → Q' vs H') : tDA K mg T W f σ H Q' := by
  refine ⟨F, δ, L, ?_⟩
  cases e : f δ with
  | ok d => rw [e] at h; exact fun v F' H' st r => hk d v F' H' st (L.step st) r (pp.sh _ _ _ _ _ L.gd st h)
  | rs c => rw [e] at h; exact pp.rs _ _ _ h
  | stuck => rw [e] at h; exact (pp.st _ _ h).elim
theorem PostE.ite {Q : VK} {c : Prop} [Decidable c] {x : Res D} (h : PostE K mg T F H W Q (if c then x else .stuck)) : c ∧ PostE K mg T F H W Q x := by
  by_cases hc : c
  · rw [if_pos hc] at h; exact ⟨hc, h⟩
  · rw [if_neg hc] at h; exact h.elim
/-- of an expression as it is -/
theorem asE {f : Sto → Res D} {Q Q' : VK} (L : Lcl K mg T F H σ δ) (h : PostE K mg T F H W Q (f δ)) (hk : ∀ v H', Q v H' → Q' v H') : tD K mg T W f σ H Q' := by
  refine ⟨F, δ, L, ?_⟩
  cases e : f δ with
  | ok d => rw [e] at h; exact fun v F' H' st r => hk v H' (h v F' H' st r)
  | rs c => rw [e] at h; exact h
  | stuck => rw [e] at h; exact h
end
/-! ### the combinators -/
def vr (i : Nat) : Sto → Res D := fun δ => match δ[i]? with
  | some (.val d) => .ok d
  | _ => .stuck
def cst (d : D) : Sto → Res D := fun _ => .ok d
def bin (g : D → D → Res D) (fa fb : Sto → Res D) : Sto → Res D := fun δ => (fa δ).bind fun x => (fb δ).bind fun y => g x y
def un (g : D → Res D) (fa : Sto → Res D) : Sto → Res D := fun δ => (fa δ).bind g
def nilA : Sto → Res (List D) := fun _ => .ok []
def consA (fa : Sto → Res D) (fr : Sto → Res (List D)) : Sto → Res (List D) := fun δ => (fa δ).bind fun x => (fr δ).bind fun xs => .ok (x :: xs)
def app (g : List D → Res D) (fa : Sto → Res (List D)) : Sto → Res D := fun δ => (fa δ).bind g
def asB : D → Res Bool
  | .bl b => .ok b
  | _ => .stuck
def tst (f : Sto → Res D) : Sto → Res Bool := fun δ => (f δ).bind asB
def andT (f g : Sto → Res Bool) : Sto → Res Bool := fun δ => (f δ).bind fun b => if b = true then g δ else .ok false
def orT (f g : Sto → Res Bool) : Sto → Res Bool := fun δ => (f δ).bind fun b => if b = true then .ok true else g δ
def notT (f : Sto → Res Bool) : Sto → Res Bool := fun δ => (f δ).bind fun b => .ok (!b)
def andV (f g : Sto → Res D) : Sto → Res D := fun δ => (f δ).bind fun x => match x with
  | .bl true => g δ
  | .bl false => .ok (.bl false)
  | _ => .stuck
def orV (f g : Sto → Res D) : Sto → Res D := fun δ => (f δ).bind fun x => match x with
  | .bl true => .ok (.bl true)
  | .bl false => g δ
  | _ => .stuck
def notD : D → Res D
  | .bl b => .ok (.bl (!b))
  | _ => .stuck
def ifE (t : Sto → Res Bool) (f g : Sto → Res D) : Sto → Res D := fun δ => (t δ).bind fun b => if b = true then f δ else g δ
/-- the size that texts and lists keep within here -/
abbrev line : Nat := 1000000
theorem line_le : line ≤ sizeLine := by rw [sizeLine_eq]; decide
/-! ### rules: names, constants -/
section
variable {T : List (Addr × Str)} {X : Cx} {W : Wi}
theorem de_var (i : Nat) {x : Str} {pos : Pos} (hN : X.N[i]? = some x := by rfl) (hv : Vis X.env.scope x := by first | exact Or.inl rfl | exact Or.inr (Or.inl rfl) | exact Or.inr (Or.inr rfl)) (hd : (x == ("__debug__" : Str)) = false := by decide)
    (hcd : (x == ("__classdict__" : Str)) = false := by decide) : DE T X W (.Name x pos) (vr i) := by
  refine weakE (pe_var (i := i) hN hv hd hcd) fun σ H Q ⟨F, δ, L, h⟩ => ?_
  unfold vr at h
  split at h
  · rename_i d e
    obtain ⟨ov, e1, v, e2, r⟩ := L.slot i _ e
    subst e2
    exact ⟨v, e1, h.here L.gd r⟩
  · exact h.elim
theorem de_c {e : Expr} {v : V} {d : D} (h : PE X e (tC v)) (r : ∀ F, Rp X.K X.mg F v d) : DE T X W e (cst d) := weakE h fun σ H Q ⟨F, δ, L, h⟩ => PostE.here h L.gd (r F)
theorem de_int {i : Int} {j pos} : DE T X W (.Constant (.int i) j pos) (cst (.int i)) := de_c pe_int fun _ => .int i
theorem de_bl {b : Bool} {j pos} : DE T X W (.Constant (.bool b) j pos) (cst (.bl b)) := de_c pe_bl fun _ => .bl b
theorem de_non {j pos} : DE T X W (.Constant .none j pos) (cst .non) := de_c pe_non fun _ => .non
theorem de_str {x : Str} {l : List Nat} {j pos} (h : TL.tl x = l := by rfl) : DE T X W (.Constant (.str x) j pos) (cst (.str l)) := de_c pe_str fun _ => .str h
/-- a module's constant int, text -/
theorem de_gint {x : Str} {i : Int} {t : Tok} {pos : Pos} (hm : X.mg x = some (.int i t)) (hg : Gl X x := by rfl) (hd : (x == ("__debug__" : Str)) = false := by decide) : DE T X W (.Name x pos) (cst (.int i)) := de_c (pe_glob (v := .int i) hg hm ⟨t, rfl⟩ hd) fun _ => .int i
theorem de_gstr {x s : Str} {l : List Nat} {t : Tok} {pos : Pos} (hm : X.mg x = some (.str s t)) (h : TL.tl s = l := by rfl) (hg : Gl X x := by rfl) (hd : (x == ("__debug__" : Str)) = false := by decide) : DE T X W (.Name x pos) (cst (.str l)) := de_c (pe_glob (v := .str s) hg hm ⟨t, rfl⟩ hd) fun _ => .str h
/-! ### operators -/
def R2D (K : PySem.W.Frag) (mg : Str → Option Value) (T : List (Addr × Str)) (r : R2) (g : D → D → Res D) : Prop :=
  ∀ F H v u x y (W : Wi) Q, Gd T F H → Rp K mg F v x → Rp K mg F u y → PostE K mg T F H W Q (g x y) → r v u H Q
def R1D (K : PySem.W.Frag) (mg : Str → Option Value) (T : List (Addr × Str)) (r : V → Hp → VK → Prop) (g : D → Res D) : Prop :=
  ∀ F H v x (W : Wi) Q, Gd T F H → Rp K mg F v x → PostE K mg T F H W Q (g x) → r v H Q
def RCD (K : PySem.W.Frag) (mg : Str → Option Value) (T : List (Addr × Str)) (r : List V → Hp → VK → Prop) (g : List D → Res D) : Prop :=
  ∀ F H vs ds (W : Wi) Q, Gd T F H → RpL K mg F vs ds → PostE K mg T F H W Q (g ds) → r vs H Q
section
variable {a b c : Expr} {fa fb fc : Sto → Res D} {pos : Pos} {r : R2} {g : D → D → Res D}
theorem de_op {op : Operator} (ho : OpR X (binaryOp op) r) (hr : R2D X.K X.mg T r g) (ha : DE T X W a fa) (hb : DE T X W b fb) : DE T X W (.BinOp a op b pos) (bin g fa fb) :=
  weakE (pe_op ho ha hb) fun σ H Q ⟨F, δ, L, h⟩ => bindE ppE L h fun x v F1 H1 s1 L1 r1 h1 => bindE ppE L1 h1 fun y u F2 H2 s2 L2 r2 h2 => hr F2 H2 v u x y W Q L2.gd (r1.mono s2.r) r2 h2
theorem de_un {op : UnaryOp} {r : V → Hp → VK → Prop} {g : D → Res D} (ho : UnR X (unaryOp op) r) (hr : R1D X.K X.mg T r g) (ha : DE T X W a fa) : DE T X W (.UnaryOp op a pos) (un g fa) :=
  weakE (pe_un ho ha) fun σ H Q ⟨F, δ, L, h⟩ => bindE ppE L h fun x v F1 H1 s1 L1 r1 h1 => hr F1 H1 v x W Q L1.gd r1 h1
theorem de_cmp {op : CmpOp} (ho : OpR X (compareOp op) r) (hr : R2D X.K X.mg T r g) (ha : DE T X W a fa) (hb : DE T X W b fb) (hm : behindInMarks op b = false) : DE T X W (.Compare a [op] [b] pos) (bin g fa fb) :=
  weakE (pe_cmpR ho ha hb hm) fun σ H Q ⟨F, δ, L, h⟩ => bindE ppE L h fun x v F1 H1 s1 L1 r1 h1 => bindE ppE L1 h1 fun y u F2 H2 s2 L2 r2 h2 => hr F2 H2 v u x y W Q L2.gd (r1.mono s2.r) r2 h2
/-- what a test wants of a value -/
theorem PostT.test {Q : Bool → Hp → Prop} {F H : Hp} {x : Res D} (h : PostT T F H W Q (x.bind asB)) : PostE X.K X.mg T F H W (fun v H' => ∃ k, v = .bl k ∧ Q k H') x := by
  cases x with
  | ok d =>
    cases d with
    | bl b => exact fun v F' H' st rv => by cases rv; exact ⟨b, rfl, h F' H' st⟩
    | _ => exact (show False from h).elim
  | rs c => exact h
  | stuck => exact h
theorem dt_cmp {op : CmpOp} (ho : OpR X (compareOp op) r) (hr : R2D X.K X.mg T r g) (ha : DE T X W a fa) (hb : DE T X W b fb) (hm : behindInMarks op b = false) : DT T X W (.Compare a [op] [b] pos) (tst (bin g fa fb)) := by
  refine weakT (pt_cmpR ho ha hb hm) fun σ H Q ⟨F, δ, L, h⟩ => ?_
  have h' := PostT.test (X := X) h
  exact bindE ppE L h' fun x v F1 H1 s1 L1 r1 h1 => bindE ppE L1 h1 fun y u F2 H2 s2 L2 r2 h2 => hr F2 H2 v u x y W _ L2.gd (r1.mono s2.r) r2 h2
theorem dt_val (ha : DE T X W a fa) (he : ∀ whole, isTrue a X.env whole = (do let v ← whole; standAt a.pos; holding [v] (truthy v)) := by intro _; rfl) : DT T X W a (tst fa) :=
  weakT (pt_val ha he) fun σ H Q ⟨F, δ, L, h⟩ => ⟨F, δ, L, PostT.test (X := X) h⟩
variable {ft fu : Sto → Res Bool} {rest : List Expr}
theorem dw_and1 (ha : DT T X W a ft) : DW T X W (.BoolOp .And [a] pos) ft := pw_and1 ha
theorem dw_or1 (ha : DT T X W a ft) : DW T X W (.BoolOp .Or [a] pos) ft := pw_or1 ha
theorem ifp {T : List (Addr × Str)} {W : Wi} {F H : Hp} {Q : Bool → Hp → Prop} {bb : Bool} {x : Res Bool} {y : Res Bool} {A B : Prop} (h : PostT T F H W Q (if bb = true then x else y)) (h1 : PostT T F H W Q x → A) (h2 : PostT T F H W Q y → B) : if bb = true then A else B := by
  cases bb with
  | true => rw [if_pos rfl] at h ⊢; exact h1 h
  | false => rw [if_neg Bool.false_ne_true] at h ⊢; exact h2 h
theorem dw_and (ha : DT T X W a ft) (hb : DW T X W (.BoolOp .And (b :: rest) pos) fu) : DW T X W (.BoolOp .And (a :: b :: rest) pos) (andT ft fu) :=
  weakW (pw_and ha hb) fun σ H Q ⟨F, δ, L, h⟩ => bindT ppT L h fun k F1 H1 s1 L1 h1 => ifp h1 (fun q => ⟨F1, δ, L1, q⟩) fun q => q F1 H1 L1.refl
theorem dw_or (ha : DT T X W a ft) (hb : DW T X W (.BoolOp .Or (b :: rest) pos) fu) : DW T X W (.BoolOp .Or (a :: b :: rest) pos) (orT ft fu) :=
  weakW (pw_or ha hb) fun σ H Q ⟨F, δ, L, h⟩ => bindT ppT L h fun k F1 H1 s1 L1 h1 => ifp h1 (fun q => q F1 H1 L1.refl) fun q => ⟨F1, δ, L1, q⟩
theorem dw_pt (h : DW T X W a ft) : DT T X W a ft := h.pt
theorem dt_not (ha : DT T X W a ft) : DT T X W (.UnaryOp .Not a pos) (notT ft) :=
  weakT (pt_not ha) fun σ H Q ⟨F, δ, L, h⟩ => bindT ppT L h fun k F1 H1 s1 L1 h1 => h1 F1 H1 L1.refl
theorem de_one {op} (ha : DE T X W a fa) : DE T X W (.BoolOp op [a] pos) fa := pe_one ha
theorem de_and (ha : DE T X W a fa) (hb : DE T X W (.BoolOp .And (b :: rest) pos) fb) : DE T X W (.BoolOp .And (a :: b :: rest) pos) (andV fa fb) :=
  weakE (pe_and ha hb) fun σ H Q ⟨F, δ, L, h⟩ => bindE ppE L h fun x v F1 H1 s1 L1 r1 h1 => by
    cases r1 with
    | bl k =>
      refine ⟨k, rfl, ?_⟩
      cases k with
      | true => rw [if_pos rfl]; exact ⟨F1, δ, L1, h1⟩
      | false => rw [if_neg Bool.false_ne_true]; exact PostE.here h1 L1.gd (.bl false)
    | _ => exact (show False from h1).elim
theorem de_or (ha : DE T X W a fa) (hb : DE T X W (.BoolOp .Or (b :: rest) pos) fb) : DE T X W (.BoolOp .Or (a :: b :: rest) pos) (orV fa fb) :=
  weakE (pe_or ha hb) fun σ H Q ⟨F, δ, L, h⟩ => bindE ppE L h fun x v F1 H1 s1 L1 r1 h1 => by
    cases r1 with
    | bl k =>
      refine ⟨k, rfl, ?_⟩
      cases k with
      | true => rw [if_pos rfl]; exact PostE.here h1 L1.gd (.bl true)
      | false => rw [if_neg Bool.false_ne_true]; exact ⟨F1, δ, L1, h1⟩
    | _ => exact (show False from h1).elim
theorem de_not (ha : DE T X W a fa) : DE T X W (.UnaryOp .Not a pos) (un notD fa) :=
  weakE (pe_not ha) fun σ H Q ⟨F, δ, L, h⟩ => bindE ppE L h fun x v F1 H1 s1 L1 r1 h1 => by
    cases r1 with
    | bl k => exact ⟨k, rfl, PostE.here h1 L1.gd (.bl (!k))⟩
    | _ => exact (show False from h1).elim
theorem de_ifexp (hc : DT T X W c ft) (ha : DE T X W a fa) (hb : DE T X W b fb) : DE T X W (.IfExp c a b pos) (ifE ft fa fb) :=
  weakE (pe_ifExp hc ha hb) fun σ H Q ⟨F, δ, L, h⟩ => bindT ppE L h fun k F1 H1 s1 L1 h1 => by
    cases k with
    | true => rw [if_pos rfl] at h1 ⊢; exact ⟨F1, δ, L1, h1⟩
    | false => rw [if_neg Bool.false_ne_true] at h1 ⊢; exact ⟨F1, δ, L1, h1⟩
end
/-! ### arguments, displays -/
section
variable {e : Expr} {es : List Expr} {fa : Sto → Res D} {fr : Sto → Res (List D)} {pos : Pos}
theorem da_nil : DA T X W [] nilA := weakA pa_nil fun σ H Q ⟨F, δ, L, h⟩ => h [] F H L.refl .nil
theorem da_cons (ha : DE T X W e fa) (hr : DA T X W es fr) (hs : starEach (e :: es) X.env = (false, eval e X.env) :: starEach es X.env := by rfl) : DA T X W (e :: es) (consA fa fr) :=
  weakA (pa_cons ha hr hs) fun σ H Q ⟨F, δ, L, h⟩ => bindE ppA L h fun x v F1 H1 s1 L1 r1 h1 => bindA ppA L1 h1 fun xs vs F2 H2 s2 L2 r2 h2 => h2 (v :: vs) F2 H2 L2.refl (.cons (r1.mono s2.r) r2)
def mkL (xs : List D) : Res D := if xs.length ≤ line then .ok (.lst xs) else .stuck
def mkT (xs : List D) : Res D := if xs.length ≤ line then .ok (.tup xs) else .stuck
def mkN (xs : List D) : Res (List D) := if xs.length ≤ line then .ok xs else .stuck
def newA (fr : Sto → Res (List D)) : Sto → Res (List D) := fun δ => (fr δ).bind mkN
def lstE (fr : Sto → Res (List D)) : Sto → Res D := fun δ => (fr δ).bind fun xs => .ok (.lst xs)
theorem de_lst (h : DA T X W es fr) : DE T X W (.List es pos) (app mkL fr) :=
  weakE (pe_lst h) fun σ H Q ⟨F, δ, L, h⟩ => bindA ppE L h fun xs vs F1 H1 s1 L1 r1 h1 => by
    unfold mkL at h1
    split at h1
    · rename_i hl
      refine ⟨by rw [r1.length]; exact Nat.le_trans hl line_le, fun p hp => ?_⟩
      have st := Step.new (o := .lst vs) L1.gd hp
      exact h1 _ _ _ st (RpL.lst upd_same (r1.mono st.r))
    · exact h1.elim
theorem de_tup {k} (h : DA T X W es fr) : DE T X W (.Tuple es k pos) (app mkT fr) :=
  weakE (pe_tup h) fun σ H Q ⟨F, δ, L, h⟩ => bindA ppE L h fun xs vs F1 H1 s1 L1 r1 h1 => by
    unfold mkT at h1
    split at h1
    · rename_i hl
      refine ⟨by rw [r1.length]; exact Nat.le_trans hl line_le, fun p hp => ?_⟩
      have st := Step.new (o := .tup vs) L1.gd hp
      exact h1 _ _ _ st (RpL.tup upd_same (r1.mono st.r))
    · exact h1.elim
theorem dl_lst (h : DA T X W es fr) : DL T X W (.List es pos) (newA fr) :=
  weakE (pe_lst h) fun σ H Q ⟨F, δ, L, h⟩ => bindA ppL L h fun xs vs F1 H1 s1 L1 r1 h1 => by
    unfold mkN at h1
    split at h1
    · rename_i hl
      refine ⟨by rw [r1.length]; exact Nat.le_trans hl line_le, fun p hp => ?_⟩
      exact h1 p vs F1 _ (.of hp) (Step.junk L1.gd hp) (L1.sub.none hp) upd_same r1
    · exact h1.elim
/-- a new list as a value -/
theorem dl_de (h : DL T X W e fr) : DE T X W e (lstE fr) :=
  weakE h fun σ H Q ⟨F, δ, L, h⟩ => ⟨F, δ, L, by
    unfold lstE at h
    cases e1 : fr δ with
    | ok ds =>
      rw [e1] at h
      intro p vs F' H' hp st hF hH rv
      have st' := st.freeze hp hF hH
      exact h _ _ _ st' (RpL.lst upd_same (rv.mono (fun a o q => ⟨o, by rw [upd_ne (ne_of_none q hF)]; exact q, .refl o⟩)))
    | rs c => rw [e1] at h; exact h
    | stuck => rw [e1] at h; exact h⟩
end
end
end Dn


set_option Elab.async false
set_option linter.all false
set_option maxRecDepth 100000
set_option maxHeartbeats 4000000
namespace Dn
open PySem PySem.Spec PyProof.Rows L2
/-! ### the operators on data -/
def addD : D → D → Res D
  | .int i, .int j => .ok (.int (i + j))
  | .str a, .str b => if a.length + b.length ≤ line then .ok (.str (a ++ b)) else .stuck
  | .lst a, .lst b => if a.length + b.length ≤ line then .ok (.lst (a ++ b)) else .stuck
  | _, _ => .stuck
def subD : D → D → Res D
  | .int i, .int j => .ok (.int (i - j))
  | _, _ => .stuck
/-- the sizes of a product's factors -/
def mulOk (i j : Int) : Bool := (decide (-(2 ^ 64) < i) && decide (i < 2 ^ 64)) || (decide (-(2 ^ 64) < j) && decide (j < 2 ^ 64)) || (decide (i.natAbs < 2 ^ 200) && decide (j.natAbs < 2 ^ 200))
def repL {α : Type} (n : Nat) (l : List α) : List α := (List.replicate n l).flatten
def mulD : D → D → Res D
  | .int i, .int j => if mulOk i j = true then .ok (.int (i * j)) else .stuck
  | .str a, .int n => if n < 2 ^ 40 ∧ -(2 ^ 40) < n ∧ a.length * n.toNat ≤ line then .ok (.str (repL n.toNat a)) else .stuck
  | .lst a, .int n => if n < 2 ^ 40 ∧ -(2 ^ 40) < n ∧ a.length * n.toNat ≤ line then .ok (.lst (repL n.toNat a)) else .stuck
  | _, _ => .stuck
def fdivD : D → D → Res D
  | .int i, .int j => if 0 < j ∧ j < 2 ^ 200 then .ok (.int (i / j)) else .stuck
  | _, _ => .stuck
def modD : D → D → Res D
  | .int i, .int j => if 0 < j then .ok (.int (i % j)) else .stuck
  | _, _ => .stuck
def powD : D → D → Res D
  | .int i, .int j => if 0 ≤ j ∧ j ≤ 1000 ∧ i.natAbs < 2 ^ 64 then .ok (.int (i ^ j.toNat)) else .stuck
  | _, _ => .stuck
def negD : D → Res D
  | .int i => .ok (.int (-i))
  | _ => .stuck
def ltD : D → D → Res D
  | .int i, .int j => .ok (.bl (decide (i < j)))
  | .str a, .str b => .ok (.bl (decide (a < b)))
  | _, _ => .stuck
def leD : D → D → Res D
  | .int i, .int j => .ok (.bl (decide (i ≤ j)))
  | _, _ => .stuck
def gtD : D → D → Res D
  | .int i, .int j => .ok (.bl (decide (j < i)))
  | _, _ => .stuck
def geD : D → D → Res D
  | .int i, .int j => .ok (.bl (decide (j ≤ i)))
  | _, _ => .stuck
mutual
def toPy : D → PyData
  | .non => .none
  | .bl b => .bool b
  | .int i => .int i
  | .str l => .str ⟨l.toArray⟩
  | .lst xs => .list (toPys xs)
  | .tup xs => .tuple (toPys xs)
  | .scr ns => .list (ns.map PyData.int)
  | .obj _ _ => .dict []
  | .opq _ => .dict []
def toPys : List D → List PyData
  | [] => []
  | x :: xs => toPy x :: toPys xs
end
/-- data that == can be asked of -/
def pl (d : D) : Bool := SeqAt.shaped (toPy d)
def eqD : D → D → Res D
  | .int i, .int j => .ok (.bl (decide (i = j)))
  | .str a, .str b => .ok (.bl (decide (a = b)))
  | .bl a, .bl b => .ok (.bl (decide (a = b)))
  | .non, .non => .ok (.bl true)
  | .non, .int _ => .ok (.bl false)
  | .int _, .non => .ok (.bl false)
  | .str _, .int _ => .ok (.bl false)
  | .int _, .str _ => .ok (.bl false)
  | .str _, .non => .ok (.bl false)
  | .non, .str _ => .ok (.bl false)
  | x, y => if (pl x && pl y) = true then .ok (.bl (PyData.eqv (toPy x) (toPy y))) else .stuck
def neD (x y : D) : Res D := (eqD x y).bind notD
/-- one sign in a text -/
def inD : D → D → Res D
  | .str [c], .str z => .ok (.bl (decide (c ∈ z)))
  | _, _ => .stuck
def ninD : D → D → Res D
  | .str [c], .str z => .ok (.bl (!decide (c ∈ z)))
  | _, _ => .stuck
def isND : D → D → Res D
  | .non, .non => .ok (.bl true)
  | _, .non => .ok (.bl false)
  | _, _ => .stuck
def isntND : D → D → Res D
  | .non, .non => .ok (.bl false)
  | _, .non => .ok (.bl true)
  | _, _ => .stuck
section
variable {T : List (Addr × Str)} {X : Cx} {W : Wi} {K : PySem.W.Frag} {mg : Str → Option Value}
/-- where the answer is a value and the heap stays -/
theorem fin1 {F H : Hp} {Q : VK} {d : D} {v : V} (gd : Gd T F H) (h : PostE K mg T F H W Q (.ok d)) (r : Rp K mg F v d) : Q v H := h.here gd r
theorem op_addA : OpR X (binaryOp .Add) (fun x y H Q => (rI0 fun i j => .int (i + j)) x y H Q ∨ ((∃ i j, x = .str i ∧ y = .str j ∧ i.length + j.length ≤ sizeLine ∧ Q (.str (i ++ j)) H) ∨ rCat x y H Q)) := op_add.or (op_add_str.or op_cat)
theorem r_add : R2D K mg T (fun x y H Q => (rI0 fun i j => .int (i + j)) x y H Q ∨ ((∃ i j, x = .str i ∧ y = .str j ∧ i.length + j.length ≤ sizeLine ∧ Q (.str (i ++ j)) H) ∨ rCat x y H Q)) addD := by
  intro F H v u x y W Q gd rv ru h
  cases rv with
  | int i =>
    cases ru with
    | int j => exact .inl ⟨i, j, rfl, rfl, h.here gd (.int _)⟩
    | _ => exact (show False from h).elim
  | @str a l e =>
    cases ru with
    | @str b m e' =>
      obtain ⟨hl, h⟩ := PostE.ite h
      refine .inr (.inl ⟨a, b, rfl, rfl, ?_, h.here gd (.str (by rw [TL.tl_append, e, e']))⟩)
      rw [TL.len_tl, TL.len_tl, e, e']
      exact Nat.le_trans hl line_le
    | _ => exact (show False from h).elim
  | @lst p vs ds hp hl he =>
    cases ru with
    | @lst q us es hq hl' he' =>
      obtain ⟨hz, h⟩ := PostE.ite h
      refine .inr (.inr ⟨p, q, vs, us, rfl, rfl, gd.sub _ _ hp, gd.sub _ _ hq, by rw [hl, hl']; exact Nat.le_trans hz line_le, fun z hz => ?_⟩)
      have st := Step.new (o := .lst (vs ++ us)) gd hz
      exact h _ _ _ st (RpL.lst upd_same (((RpL.of hl he).append (RpL.of hl' he')).mono st.r))
    | _ => exact (show False from h).elim
  | _ => exact (show False from h).elim
/-- two ints -/
theorem r_I0 {g : Int → Int → V} {gd : Int → Int → D} {G : D → D → Res D} (h1 : ∀ i j, G (.int i) (.int j) = .ok (gd i j)) (h2 : ∀ x y, (∀ i j, ¬ (x = .int i ∧ y = .int j)) → G x y = .stuck) (h3 : ∀ i j F, Rp K mg F (g i j) (gd i j)) : R2D K mg T (rI0 g) G := by
  intro F H v u x y W Q gd rv ru h
  by_cases hx : ∃ i j, x = .int i ∧ y = .int j
  · obtain ⟨i, j, rfl, rfl⟩ := hx
    cases rv; cases ru
    rw [h1] at h
    exact ⟨i, j, rfl, rfl, h.here gd (h3 i j F)⟩
  · rw [h2 x y fun i j z => hx ⟨i, j, z.1, z.2⟩] at h
    exact h.elim
theorem r_I {C : Int → Int → Prop} {g : Int → Int → V} {gd : Int → Int → D} {cd : Int → Int → Prop} [∀ i j, Decidable (cd i j)] {G : D → D → Res D} (h1 : ∀ i j, G (.int i) (.int j) = if cd i j then .ok (gd i j) else .stuck) (h2 : ∀ x y, (∀ i j, ¬ (x = .int i ∧ y = .int j)) → G x y = .stuck) (h3 : ∀ i j F, Rp K mg F (g i j) (gd i j)) (h4 : ∀ i j, cd i j → C i j) : R2D K mg T (rI C g) G := by
  intro F H v u x y W Q gd rv ru h
  by_cases hx : ∃ i j, x = .int i ∧ y = .int j
  · obtain ⟨i, j, rfl, rfl⟩ := hx
    cases rv; cases ru
    rw [h1] at h
    split at h
    · rename_i hc
      exact ⟨i, j, rfl, rfl, h4 i j hc, h.here gd (h3 i j F)⟩
    · exact h.elim
  · rw [h2 x y fun i j z => hx ⟨i, j, z.1, z.2⟩] at h
    exact h.elim
theorem r_sub : R2D K mg T (rI0 fun i j => .int (i - j)) subD := r_I0 (gd := fun i j => .int (i - j)) (fun _ _ => rfl) (fun x y h => by cases x <;> cases y <;> first | rfl | exact (h _ _ ⟨rfl, rfl⟩).elim) fun i j F => .int _
theorem pow_200 {j : Int} (h0 : 0 < j) (h : j < 2 ^ 200) : j.natAbs < 2 ^ 200 := by
  have e : ((2 : Int) ^ 200) = ((2 ^ 200 : Nat) : Int) := by norm_cast
  rw [e] at h
  omega
theorem r_fdiv : R2D K mg T (rI CDivW fun i j => .int (i / j)) fdivD := r_I (gd := fun i j => .int (i / j)) (cd := fun i j => 0 < j ∧ j < 2 ^ 200) (fun _ _ => rfl) (fun x y h => by cases x <;> cases y <;> first | rfl | exact (h _ _ ⟨rfl, rfl⟩).elim) (fun i j F => .int _) fun i j h => wide_div h.1 (pow_200 h.1 h.2) (by decide) (by decide)
theorem r_mod : R2D K mg T (rI (fun _ j => 0 < j) fun i j => .int (i % j)) modD := r_I (gd := fun i j => .int (i % j)) (cd := fun i j => 0 < j) (fun _ _ => rfl) (fun x y h => by cases x <;> cases y <;> first | rfl | exact (h _ _ ⟨rfl, rfl⟩).elim) (fun i j F => .int _) fun i j h => h
theorem r_pow : R2D K mg T (rI CPow fun i j => .int (i ^ j.toNat)) powD := r_I (gd := fun i j => .int (i ^ j.toNat)) (cd := fun i j => 0 ≤ j ∧ j ≤ 1000 ∧ i.natAbs < 2 ^ 64) (fun _ _ => rfl) (fun x y h => by cases x <;> cases y <;> first | rfl | exact (h _ _ ⟨rfl, rfl⟩).elim) (fun i j F => .int _) fun i j h => ⟨h.1, Int.le_trans h.2.1 (by decide), h.2.2⟩
theorem r_neg : R1D K mg T (rU fun i => .int (-i)) negD := by
  intro F H v x W Q gd rv h
  cases rv with
  | int i => exact ⟨i, rfl, h.here gd (.int _)⟩
  | _ => exact (show False from h).elim
/-- products -/
def CMulA (i j : Int) : Prop := CMul i j ∨ CMulW i j
theorem op_mulI : OpR X (binaryOp .Mult) (rI CMulA fun i j => .int (i * j)) := opI fun _ _ _ _ _ _ _ hc q => mul_int q (hc.elim (fun h => h.ok) fun h => h.ok)
theorem mulOk_ok {i j : Int} (h : mulOk i j = true) : CMulA i j := by
  unfold mulOk at h
  simp only [Bool.or_eq_true, Bool.and_eq_true, decide_eq_true_eq] at h
  rcases h with (h | h) | h
  · exact .inl (.inl h)
  · exact .inl (.inr h)
  · exact .inr (wide_mul h.1 h.2 (by decide) (by decide) (by decide))
theorem foldl_app {α : Type} (l : List (Array α)) (acc : Array α) : (l.foldl (· ++ ·) acc).toList = acc.toList ++ (l.map Array.toList).flatten := by
  induction l generalizing acc with
  | nil => simp
  | cons x r ih => rw [List.foldl_cons, ih]; simp
theorem tl_mul (x : Str) (n : Int) : TL.tl (Txt.mul x n) = repL n.toNat (TL.tl x) := by
  unfold Txt.mul repL
  by_cases h1 : n < 1
  · rw [if_pos h1]
    have e : n.toNat = 0 := by omega
    rw [e]
    rfl
  · rw [if_neg h1]
    by_cases h2 : (n == 1 || x.length == 0) = true
    · rw [if_pos h2]
      simp only [Bool.or_eq_true, beq_iff_eq] at h2
      rcases h2 with h2 | h2
      · subst h2
        simp
      · have e : TL.tl x = [] := (TL.len0_tl x).mp h2
        rw [e]
        simp
    · rw [if_neg h2]
      show ((List.replicate n.toNat x.cps).foldl (· ++ ·) #[]).toList = _
      rw [foldl_app]
      simp
theorem op_mulS : OpR X (binaryOp .Mult) (fun x y H Q => ∃ (a : Str) (n : Int), x = .str a ∧ y = .int n ∧ MulOk a n ∧ Q (.str (Txt.mul a n)) H) := by
  intro pins s σ H x y v u Q I rx ry h
  obtain ⟨a, n, rfl, rfl, ok, q⟩ := h
  obtain ⟨t, rfl⟩ := rx
  obtain ⟨t', rfl⟩ := ry
  exact SB.mul ok fun t2 k => ⟨.str (Txt.mul a n), H, I.tok _, ⟨_, rfl⟩, q⟩
theorem op_mulA : OpR X (binaryOp .Mult) (fun x y H Q => (rI CMulA fun i j => .int (i * j)) x y H Q ∨ ((∃ (a : Str) (n : Int), x = .str a ∧ y = .int n ∧ MulOk a n ∧ Q (.str (Txt.mul a n)) H) ∨ rRep x y H Q)) := op_mulI.or (op_mulS.or op_rep)
theorem mulOk_s {a : Str} {n : Int} (h1 : n < 2 ^ 40) (h2 : -(2 ^ 40) < n) (h3 : a.length * n.toNat ≤ line) : MulOk a n := by
  refine ⟨?_, fun hn hc => ?_, fun hn hc => ?_⟩
  · rw [decide_eq_false (by omega), decide_eq_false (by omega)]; rfl
  · have hp : 0 < n := by omega
    have hk : (n.toNat : Int) = n := by omega
    intro hgt
    have q : (a.length : Int) * n > 2 ^ 63 - 1 := by
      have := Int.lt_mul_of_ediv_lt hp hgt
      omega
    have q2 : (a.length : Int) * n = ((a.length * n.toNat : Nat) : Int) := by rw [Int.natCast_mul, hk]
    rw [q2] at q
    generalize a.length * n.toNat = m at q h3
    have h4 : m ≤ 1000000 := h3
    omega
  · exact notLongL (Nat.le_trans h3 line_le)
theorem r_mul : R2D K mg T (fun x y H Q => (rI CMulA fun i j => .int (i * j)) x y H Q ∨ ((∃ (a : Str) (n : Int), x = .str a ∧ y = .int n ∧ MulOk a n ∧ Q (.str (Txt.mul a n)) H) ∨ rRep x y H Q)) mulD := by
  intro F H v u x y W Q gd rv ru h
  cases rv with
  | int i =>
    cases ru with
    | int j =>
      obtain ⟨hc, h⟩ := PostE.ite h
      exact .inl ⟨i, j, rfl, rfl, mulOk_ok hc, h.here gd (.int _)⟩
    | _ => exact (show False from h).elim
  | @str a l e =>
    cases ru with
    | int n =>
      obtain ⟨hc, h⟩ := PostE.ite h
      refine .inr (.inl ⟨a, n, rfl, rfl, mulOk_s hc.1 hc.2.1 ?_, h.here gd (.str (by rw [tl_mul, e]))⟩)
      rw [TL.len_tl, e]
      exact hc.2.2
    | _ => exact (show False from h).elim
  | @lst p vs ds hp hl he =>
    cases ru with
    | int n =>
      obtain ⟨hc, h⟩ := PostE.ite h
      refine .inr (.inr ⟨p, n, vs, rfl, rfl, gd.sub _ _ hp, by omega, by omega, by rw [hl]; exact Nat.le_trans hc.2.2 line_le, fun z hz => ?_⟩)
      have st := Step.new (o := .lst (List.replicate n.toNat vs).flatten) gd hz
      refine h _ _ _ st (RpL.lst upd_same (RpL.mono st.r ?_))
      have hr : ∀ k : Nat, RpL K mg F (List.replicate k vs).flatten (repL k ds) := fun k => by
        induction k with
        | zero => exact .nil
        | succ k ih =>
          unfold repL
          rw [List.replicate_succ, List.flatten_cons, List.replicate_succ, List.flatten_cons]
          exact (RpL.of hl he).append ih
      exact hr _
    | _ => exact (show False from h).elim
  | _ => exact (show False from h).elim
/-! ### comparisons -/
theorem op_ltA : OpR X (compareOp .Lt) (fun x y H Q => (rI0 fun i j => .bl (decide (i < j))) x y H Q ∨ (∃ i j, x = .str i ∧ y = .str j ∧ Q (.bl (decide (i.cps.toList < j.cps.toList))) H)) := op_lt.or op_lt_str
theorem r_lt : R2D K mg T (fun x y H Q => (rI0 fun i j => .bl (decide (i < j))) x y H Q ∨ (∃ i j, x = .str i ∧ y = .str j ∧ Q (.bl (decide (i.cps.toList < j.cps.toList))) H)) ltD := by
  intro F H v u x y W Q gd rv ru h
  cases rv with
  | int i =>
    cases ru with
    | int j => exact .inl ⟨i, j, rfl, rfl, h.here gd (.bl _)⟩
    | _ => exact (show False from h).elim
  | @str a l e =>
    cases ru with
    | @str b m e' =>
      subst e e'
      exact .inr ⟨a, b, rfl, rfl, h.here gd (.bl _)⟩
    | _ => exact (show False from h).elim
  | _ => exact (show False from h).elim
theorem r_le : R2D K mg T (rI0 fun i j => .bl (decide (i ≤ j))) leD := r_I0 (gd := fun i j => .bl (decide (i ≤ j))) (fun _ _ => rfl) (fun x y h => by cases x <;> cases y <;> first | rfl | exact (h _ _ ⟨rfl, rfl⟩).elim) fun i j F => .bl _
theorem r_gt : R2D K mg T (rI0 fun i j => .bl (decide (j < i))) gtD := r_I0 (gd := fun i j => .bl (decide (j < i))) (fun _ _ => rfl) (fun x y h => by cases x <;> cases y <;> first | rfl | exact (h _ _ ⟨rfl, rfl⟩).elim) fun i j F => .bl _
theorem r_ge : R2D K mg T (rI0 fun i j => .bl (decide (j ≤ i))) geD := r_I0 (gd := fun i j => .bl (decide (j ≤ i))) (fun _ _ => rfl) (fun x y h => by cases x <;> cases y <;> first | rfl | exact (h _ _ ⟨rfl, rfl⟩).elim) fun i j F => .bl _
/-- deep data as the layer's == sees it -/
theorem dpAll_of {H : Hp} : ∀ {vs : List V} {ps : List PyData}, Paired (Dp K H) vs ps → DpAll K H vs ps
  | _, _, .nil => .nil
  | _, _, .cons h t => .cons h (dpAll_of t)
theorem toPys_eq : ∀ xs : List D, toPys xs = xs.map toPy
  | [] => by rw [toPys]; rfl
  | x :: xs => by rw [toPys, toPys_eq xs]; rfl
theorem canLayAll_map : ∀ {l : List PyData}, PyData.canLayAll0 l = true → ∀ x ∈ l, x.canLay0 = true
  | [], _, x, hx => by cases hx
  | y :: l, h, x, hx => by
    have h' : y.canLay0 = true ∧ PyData.canLayAll0 l = true := by simpa [PyData.canLayAll0] using h
    rcases List.mem_cons.mp hx with e | e
    · rw [e]; exact h'.1
    · exact canLayAll_map h'.2 x e
theorem paired_of {α β : Type} {P : α → β → Prop} : ∀ {l : List α} {m : List β}, l.length = m.length → (∀ (i : Nat) a b, l[i]? = some a → m[i]? = some b → P a b) → Paired P l m
  | [], [], _, _ => .nil
  | [], _ :: _, e, _ => by simp at e
  | _ :: _, [], e, _ => by simp at e
  | a :: l, b :: m, e, h => .cons (h 0 a b rfl rfl) (paired_of (by simpa using e) fun i v d e1 e2 => h (i + 1) v d (by simpa using e1) (by simpa using e2))
theorem dp_of {T : List (Addr × Str)} {F H : Hp} (gd : Gd T F H) {v : V} {d : D} (r : Rp K mg F v d) (hc : (toPy d).canLay0 = true) : Dp K H v (toPy d) := by
  induction r with
  | non => exact .non
  | bl b => exact .bl b
  | int i => exact .int i
  | @str x l e =>
    subst e
    have z : toPy (.str (TL.tl x)) = .str x := by rw [toPy]
    rw [z]
    exact .str x
  | @lst a vs ds h hl he ih =>
    rw [toPy] at hc ⊢
    have hc' : PyData.canLayAll0 (toPys ds) = true := by simpa [PyData.canLay0] using hc
    rw [toPys_eq] at hc' ⊢
    refine .lst (.of (gd.sub _ _ h)) (dpAll_of (paired_of (by simpa using hl) fun i v p e1 e2 => ?_))
    rw [List.getElem?_map] at e2
    cases q : ds[i]? with
    | none => rw [q] at e2; cases e2
    | some d =>
      rw [q] at e2
      cases e2
      exact ih i v d e1 q (canLayAll_map hc' _ (List.mem_map.mpr ⟨d, List.mem_of_getElem? q, rfl⟩))
  | @tup a vs ds h hl he ih =>
    rw [toPy] at hc ⊢
    have hc' : PyData.canLayAll0 (toPys ds) = true := by simpa [PyData.canLay0] using hc
    rw [toPys_eq] at hc' ⊢
    refine .tup (.of (gd.sub _ _ h)) (dpAll_of (paired_of (by simpa using hl) fun i v p e1 e2 => ?_))
    rw [List.getElem?_map] at e2
    cases q : ds[i]? with
    | none => rw [q] at e2; cases e2
    | some d =>
      rw [q] at e2
      cases e2
      exact ih i v d e1 q (canLayAll_map hc' _ (List.mem_map.mpr ⟨d, List.mem_of_getElem? q, rfl⟩))
  | @scr a ns h =>
    rw [toPy]
    refine .lst (gd.sub.rel.seq h) (dpAll_of (paired_of (by simp) fun i v p e1 e2 => ?_))
    rw [List.getElem?_map] at e1 e2
    cases q : ns[i]? with
    | none => rw [q] at e2; cases e2
    | some n => rw [q] at e1 e2; cases e1; cases e2; exact .int n
  | obj vf hm h h0 h1 h2 h3 ih => rw [toPy] at hc; simp [PyData.canLay0] at hc
  | opq a => rw [toPy] at hc; simp [PyData.canLay0] at hc
theorem tl_inj_dec {a b : Str} : decide (TL.tl a = TL.tl b) = decide (V.str a = V.str b) := by
  by_cases h : a = b
  · subst h; simp
  · rw [decide_eq_false (fun z => h (TL.ext_tl z)), decide_eq_false (fun z => h (V.str.inj z))]
theorem deep_eq {F H : Hp} {v u : V} {x y : D} (gd : Gd T F H) (rv : Rp K mg F v x) (ru : Rp K mg F u y) (h : (pl x && pl y) = true) : ∃ d e, Dp K H v d ∧ Dp K H u e ∧ SeqAt.shaped d = true ∧ SeqAt.shaped e = true ∧ d = toPy x ∧ e = toPy y := by
  have h' := Bool.and_eq_true_iff.mp h
  exact ⟨toPy x, toPy y, dp_of gd rv (SeqAt.canLay_of_shaped h'.1), dp_of gd ru (SeqAt.canLay_of_shaped h'.2), h'.1, h'.2, rfl, rfl⟩
theorem op_eqA (hu : X.A.units + 64 < cLine) : OpR X (compareOp .Eq) (fun x y H Q => rEq x y H Q ∨ rEqD X.K x y H Q) := op_eq.or (op_eqD hu)
theorem op_neA (hu : X.A.units + 64 < cLine) : OpR X (compareOp .NotEq) (fun x y H Q => rNe x y H Q ∨ rNeD X.K x y H Q) := op_ne.or (op_neD hu)
/-- the two roads of == -/
theorem eq_road {F H : Hp} {v u : V} {x y : D} {b : Bool} (gd : Gd T F H) (rv : Rp K mg F v x) (ru : Rp K mg F u y) (h : eqD x y = .ok (.bl b)) :
    (scal v u = true ∧ decide (v = u) = b) ∨ ∃ d e, Dp K H v d ∧ Dp K H u e ∧ SeqAt.shaped d = true ∧ SeqAt.shaped e = true ∧ PyData.eqv d e = b := by
  have deep : (if (pl x && pl y) = true then (Res.ok (D.bl (PyData.eqv (toPy x) (toPy y)))) else .stuck) = .ok (.bl b) → ∃ d e, Dp K H v d ∧ Dp K H u e ∧ SeqAt.shaped d = true ∧ SeqAt.shaped e = true ∧ PyData.eqv d e = b := fun q => by
    split at q
    · rename_i hc
      obtain ⟨d, e, h1, h2, h3, h4, h5, h6⟩ := deep_eq gd rv ru hc
      refine ⟨d, e, h1, h2, h3, h4, ?_⟩
      rw [h5, h6]
      injection q with q; injection q
    · cases q
  have hb : ∀ {k : Bool}, Res.ok (D.bl k) = .ok (.bl b) → k = b := fun q => by injection q with q; injection q
  cases rv with
  | int i =>
    cases ru with
    | int j =>
      refine .inl ⟨rfl, ?_⟩
      have := hb h
      rw [← this]; simp
    | str e => exact .inl ⟨rfl, by rw [← hb h]; rfl⟩
    | non => exact .inl ⟨rfl, by rw [← hb h]; rfl⟩
    | _ => exact .inr (deep h)
  | @str a l e =>
    cases ru with
    | @str b' m e' =>
      subst e e'
      refine .inl ⟨rfl, ?_⟩
      rw [← hb h, tl_inj_dec]
    | int j => exact .inl ⟨rfl, by rw [← hb h]; rfl⟩
    | non => exact .inl ⟨rfl, by rw [← hb h]; rfl⟩
    | _ => exact .inr (deep h)
  | bl i =>
    cases ru with
    | bl j =>
      refine .inl ⟨rfl, ?_⟩
      rw [← hb h]; simp
    | _ => exact .inr (deep h)
  | non =>
    cases ru with
    | non => exact .inl ⟨rfl, by rw [← hb h]; rfl⟩
    | int j => exact .inl ⟨rfl, by rw [← hb h]; rfl⟩
    | str e => exact .inl ⟨rfl, by rw [← hb h]; rfl⟩
    | _ => exact .inr (deep h)
  | _ => exact .inr (deep h)
theorem eqD_bl (x y : D) : eqD x y = .stuck ∨ ∃ b, eqD x y = .ok (.bl b) := by
  have deep : (if (pl x && pl y) = true then (Res.ok (D.bl (PyData.eqv (toPy x) (toPy y)))) else .stuck) = .stuck ∨ ∃ b, (if (pl x && pl y) = true then (Res.ok (D.bl (PyData.eqv (toPy x) (toPy y)))) else .stuck) = .ok (.bl b) := by
    split
    · exact .inr ⟨_, rfl⟩
    · exact .inl rfl
  cases x <;> cases y <;> first | exact .inr ⟨_, rfl⟩ | exact deep
theorem r_eq : R2D K mg T (fun x y H Q => rEq x y H Q ∨ rEqD K x y H Q) eqD := by
  intro F H v u x y W Q gd rv ru h
  rcases eqD_bl x y with e | ⟨b, e⟩
  · rw [e] at h; exact h.elim
  · rw [e] at h
    rcases eq_road gd rv ru e with ⟨h1, h2⟩ | ⟨d, e', h1, h2, h3, h4, h5⟩
    · exact .inl ⟨h1, by rw [h2]; exact h.here gd (.bl b)⟩
    · exact .inr ⟨d, e', h1, h2, h3, h4, by rw [h5]; exact h.here gd (.bl b)⟩
theorem r_ne : R2D K mg T (fun x y H Q => rNe x y H Q ∨ rNeD K x y H Q) neD := by
  intro F H v u x y W Q gd rv ru h
  unfold neD at h
  rcases eqD_bl x y with e | ⟨b, e⟩
  · rw [e] at h; exact h.elim
  · rw [e] at h
    rcases eq_road gd rv ru e with ⟨h1, h2⟩ | ⟨d, e', h1, h2, h3, h4, h5⟩
    · exact .inl ⟨h1, by rw [h2]; exact PostE.here h gd (.bl (!b))⟩
    · exact .inr ⟨d, e', h1, h2, h3, h4, by rw [h5]; exact PostE.here h gd (.bl (!b))⟩
theorem one_sign {x : Str} {c : Nat} (h : TL.tl x = [c]) : x = ⟨#[c]⟩ := TL.ext_tl (by rw [h])
theorem r_in : R2D K mg T (fun x y H Q => ∃ (c : Nat) (z : Str), x = .str ⟨#[c]⟩ ∧ y = .str z ∧ Q (.bl (decide (c ∈ z.cps.toList))) H) inD := by
  intro F H v u x y W Q gd rv ru h
  unfold inD at h
  split at h
  · rename_i c z
    cases rv with
    | str e =>
      cases ru with
      | str e' =>
        have e2 := one_sign e
        subst e2 e'
        exact ⟨c, _, rfl, rfl, h.here gd (.bl _)⟩
  · exact h.elim
theorem r_nin : R2D K mg T (fun x y H Q => ∃ (c : Nat) (z : Str), x = .str ⟨#[c]⟩ ∧ y = .str z ∧ Q (.bl (!decide (c ∈ z.cps.toList))) H) ninD := by
  intro F H v u x y W Q gd rv ru h
  unfold ninD at h
  split at h
  · rename_i c z
    cases rv with
    | str e =>
      cases ru with
      | str e' =>
        have e2 := one_sign e
        subst e2 e'
        exact ⟨c, _, rfl, rfl, h.here gd (.bl _)⟩
  · exact h.elim
theorem r_isN : R2D K mg T (fun x y H Q => y = .non ∧ Q (.bl (decide (x = .non))) H) isND := by
  intro F H v u x y W Q gd rv ru h
  cases ru with
  | non =>
    refine ⟨rfl, ?_⟩
    cases rv <;> exact PostE.here h gd (.bl _)
  | _ => cases rv <;> exact (show False from h).elim
theorem r_isntN : R2D K mg T (fun x y H Q => y = .non ∧ Q (.bl (!decide (x = .non))) H) isntND := by
  intro F H v u x y W Q gd rv ru h
  cases ru with
  | non =>
    refine ⟨rfl, ?_⟩
    cases rv <;> exact PostE.here h gd (.bl _)
  | _ => cases rv <;> exact (show False from h).elim
end
end Dn


set_option Elab.async false
set_option linter.all false
set_option maxRecDepth 100000
set_option maxHeartbeats 4000000
namespace Dn
open PySem PySem.Spec PyProof.Rows L2
/-! ### built-ins on data -/
def intsO : List D → Option (List Int)
  | [] => some []
  | .int i :: r => (intsO r).map (i :: ·)
  | _ :: _ => none
def boolsO : List D → Option (List Bool)
  | [] => some []
  | .bl i :: r => (boolsO r).map (i :: ·)
  | _ :: _ => none
def textsO : List D → Option (List (List Nat))
  | [] => some []
  | .str i :: r => (textsO r).map (i :: ·)
  | _ :: _ => none
theorem ints_eq : ∀ {ds : List D} {ns : List Int}, intsO ds = some ns → ds = ns.map D.int
  | [], ns, h => by cases h; rfl
  | .int i :: r, ns, h => by
    cases e : intsO r with
    | none => rw [intsO, e] at h; cases h
    | some ms => rw [intsO, e] at h; cases h; rw [ints_eq e]; rfl
theorem ints_map : ∀ ns : List Int, intsO (ns.map D.int) = some ns
  | [] => rfl
  | n :: ns => by rw [List.map_cons, intsO, ints_map ns]; rfl
theorem bools_eq : ∀ {ds : List D} {ns : List Bool}, boolsO ds = some ns → ds = ns.map D.bl
  | [], ns, h => by cases h; rfl
  | .bl i :: r, ns, h => by
    cases e : boolsO r with
    | none => rw [boolsO, e] at h; cases h
    | some ms => rw [boolsO, e] at h; cases h; rw [bools_eq e]; rfl
theorem bools_map : ∀ ns : List Bool, boolsO (ns.map D.bl) = some ns
  | [] => rfl
  | n :: ns => by rw [List.map_cons, boolsO, bools_map ns]; rfl
theorem texts_eq : ∀ {ds : List D} {ns : List (List Nat)}, textsO ds = some ns → ds = ns.map D.str
  | [], ns, h => by cases h; rfl
  | .str i :: r, ns, h => by
    cases e : textsO r with
    | none => rw [textsO, e] at h; cases h
    | some ms => rw [textsO, e] at h; cases h; rw [texts_eq e]; rfl
theorem texts_map : ∀ ns : List (List Nat), textsO (ns.map D.str) = some ns
  | [] => rfl
  | n :: ns => by rw [List.map_cons, textsO, texts_map ns]; rfl
def lenD : List D → Res D
  | [.str a] => if a.length ≤ line then .ok (.int a.length) else .stuck
  | [.lst a] => .ok (.int a.length)
  | [.tup a] => .ok (.int a.length)
  | [.scr a] => .ok (.int a.length)
  | _ => .stuck
def intD : List D → Res D
  | [.int i] => .ok (.int i)
  | [.bl b] => .ok (.int (if b then 1 else 0))
  | [.str [c]] => if 48 ≤ c ∧ c < 58 then .ok (.int ((c - 48 : Nat) : Int)) else .stuck
  | _ => .stuck
def strD : List D → Res D
  | [.int i] => if 0 ≤ i ∧ i < 10 then .ok (.str [48 + i.toNat]) else .stuck
  | _ => .stuck
def max2D : List D → Res D
  | [.int i, .int j] => .ok (.int (max i j))
  | _ => .stuck
def min2D : List D → Res D
  | [.int i, .int j] => .ok (.int (min i j))
  | _ => .stuck
def maxD : List D → Res D
  | [.lst xs] => match intsO xs with
    | some (n :: ns) => .ok (.int (ns.foldl max n))
    | _ => .stuck
  | _ => .stuck
def minD : List D → Res D
  | [.lst xs] => match intsO xs with
    | some (n :: ns) => .ok (.int (ns.foldl min n))
    | _ => .stuck
  | _ => .stuck
def sumD : List D → Res D
  | [.lst xs] => match intsO xs with
    | some ns => .ok (.int ns.sum)
    | _ => .stuck
  | _ => .stuck
def allD : List D → Res D
  | [.lst xs] => match boolsO xs with
    | some ns => .ok (.bl (ns.all id))
    | _ => .stuck
  | _ => .stuck
def listD : List D → Res D
  | [.lst xs] => .ok (.lst xs)
  | [.tup xs] => .ok (.lst xs)
  | _ => .stuck
def ordD : List D → Res D
  | [.str [c]] => .ok (.int c)
  | _ => .stuck
section
variable {T : List (Addr × Str)} {X : Cx} {W : Wi} {K : PySem.W.Frag} {mg : Str → Option Value}
theorem de_callB {id : String} {x : Str} {e : Expr} {es : List Expr} {p pos : Pos} {r : List V → Hp → VK → Prop} {g : List D → Res D} {fa : Sto → Res (List D)} (hc : CallR X (.builtin id) r) (hr : RCD X.K X.mg T r g) (hm : X.mg x = none) (hv : bootBuiltins x = some (.builtin id)) (ha : DA T X W (e :: es) fa)
    (hg : Gl X x := by rfl) (hn : x ≠ "__name__" := by decide) (hdb : (x == ("__debug__" : Str)) = false := by decide) (he : starEach (e :: es) X.env = (false, eval e X.env) :: starEach es X.env := by rfl) (hpl : (backTo pos (starEach es X.env)).any (·.1) = false := by rfl) :
    DE T X W (.Call (.Name x p) (e :: es) [] pos) (app g fa) :=
  weakE (pe_callB hc hg hm hv ha hn hdb he hpl) fun σ H Q ⟨F, δ, L, h⟩ => bindA ppE L h fun ds vs F1 H1 s1 L1 r1 h1 => hr F1 H1 vs ds W Q L1.gd r1 h1
theorem de_callTy {id : String} {x : Str} {e : Expr} {es : List Expr} {p pos : Pos} {r : List V → Hp → VK → Prop} {g : List D → Res D} {fa : Sto → Res (List D)} (hc : CallR X (.type id) r) (hr : RCD X.K X.mg T r g) (hm : X.mg x = none) (hv : bootBuiltins x = some (.type id)) (ha : DA T X W (e :: es) fa)
    (hg : Gl X x := by rfl) (hn : x ≠ "__name__" := by decide) (hdb : (x == ("__debug__" : Str)) = false := by decide) (he : starEach (e :: es) X.env = (false, eval e X.env) :: starEach es X.env := by rfl) (hpl : (backTo pos (starEach es X.env)).any (·.1) = false := by rfl) :
    DE T X W (.Call (.Name x p) (e :: es) [] pos) (app g fa) :=
  weakE (pe_callTy hc hg hm hv ha hn hdb he hpl) fun σ H Q ⟨F, δ, L, h⟩ => bindA ppE L h fun ds vs F1 H1 s1 L1 r1 h1 => hr F1 H1 vs ds W Q L1.gd r1 h1
theorem RpL.one {F : Hp} {vs : List V} {d : D} (r : RpL K mg F vs [d]) : ∃ v, vs = [v] ∧ Rp K mg F v d := by
  cases r with
  | cons r t => cases t; exact ⟨_, rfl, r⟩
theorem RpL.two {F : Hp} {vs : List V} {d e : D} (r : RpL K mg F vs [d, e]) : ∃ v u, vs = [v, u] ∧ Rp K mg F v d ∧ Rp K mg F u e := by
  cases r with
  | cons r t =>
    obtain ⟨u, rfl, q⟩ := RpL.one t
    exact ⟨_, _, rfl, r, q⟩
theorem rc_len : RCD K mg T (fun xs H Q => ∃ x n, xs = [x] ∧ LenV K x H n ∧ Q (.int n) H) lenD := by
  intro F H vs ds W Q gd r h
  unfold lenD at h
  split at h
  · rename_i a
    obtain ⟨hl, h⟩ := PostE.ite h
    obtain ⟨v, rfl, rv⟩ := r.one
    cases rv with
    | str e =>
      rename_i x
      refine ⟨_, a.length, rfl, ⟨?_, ?_⟩, h.here gd (.int _)⟩
      · rw [TL.len_tl, e]; exact Nat.le_trans hl line_le
      · rw [TL.len_tl, e]
  · obtain ⟨v, rfl, rv⟩ := r.one
    obtain ⟨p, us, rfl, e, q⟩ := rv.lst_inv
    exact ⟨_, us.length, rfl, .inl ⟨us, .of (gd.sub _ _ e), rfl⟩, h.here gd (by rw [q.length]; exact .int _)⟩
  · obtain ⟨v, rfl, rv⟩ := r.one
    obtain ⟨p, us, rfl, e, q⟩ := rv.tup_inv
    exact ⟨_, us.length, rfl, .inr ⟨us, .of (gd.sub _ _ e), rfl⟩, h.here gd (by rw [q.length]; exact .int _)⟩
  · rename_i ns
    obtain ⟨v, rfl, rv⟩ := r.one
    cases rv with
    | scr e => exact ⟨_, _, rfl, .inl ⟨_, gd.sub.rel.seq e, rfl⟩, h.here gd (by rw [List.length_map]; exact .int _)⟩
  · exact h.elim
theorem digit_text {x : Str} {c : Nat} (h : TL.tl x = [c]) (h1 : 48 ≤ c) (h2 : c < 58) : PySem.intText? x = some ((c - 48 : Nat) : Int) := by
  have e : x = Str.ofString (toString (((c - 48 : Nat) : Nat) : Int)) := TL.ext_tl (by
    rw [h, TL.tl_num, TL.numL_lt (by omega), show 48 + (c - 48) = c by omega])
  rw [e]
  refine TL.int_num ?_
  rw [TL.numL_lt (by omega)]
  exact (by decide : 1 ≤ 4300)
theorem rc_int : RCD K mg T (fun xs H Q => ((∃ i, xs = [.int i] ∧ Q (.int i) H) ∨ ∃ k, xs = [.bl k] ∧ Q (.int (if k then 1 else 0)) H) ∨ ∃ a n, xs = [.str a] ∧ PySem.intText? a = some n ∧ a.length ≤ 640 ∧ Q (.int n) H) intD := by
  intro F H vs ds W Q gd r h
  unfold intD at h
  split at h
  · obtain ⟨v, rfl, rv⟩ := r.one
    cases rv
    exact .inl (.inl ⟨_, rfl, h.here gd (.int _)⟩)
  · obtain ⟨v, rfl, rv⟩ := r.one
    cases rv
    exact .inl (.inr ⟨_, rfl, h.here gd (.int _)⟩)
  · obtain ⟨hc, h⟩ := PostE.ite h
    obtain ⟨v, rfl, rv⟩ := r.one
    cases rv with
    | str e => exact .inr ⟨_, _, rfl, digit_text e hc.1 hc.2, by rw [TL.len_tl, e]; exact (by decide : 1 ≤ 640), h.here gd (.int _)⟩
  · exact h.elim
theorem call_intA : CallR X (.type "int") (fun xs H Q => ((∃ i, xs = [.int i] ∧ Q (.int i) H) ∨ ∃ k, xs = [.bl k] ∧ Q (.int (if k then 1 else 0)) H) ∨ ∃ a n, xs = [.str a] ∧ PySem.intText? a = some n ∧ a.length ≤ 640 ∧ Q (.int n) H) := call_int1.or call_int_str
theorem rc_str : RCD K mg T (fun xs H Q => ∃ i : Int, xs = [.int i] ∧ i.natAbs.log2 < 1920 ∧ Q (.str (toString i)) H) strD := by
  intro F H vs ds W Q gd r h
  unfold strD at h
  split at h
  · rename_i i
    obtain ⟨hc, h⟩ := PostE.ite h
    obtain ⟨v, rfl, rv⟩ := r.one
    cases rv
    refine ⟨i, rfl, ?_, h.here gd (.str ?_)⟩
    · have : i.natAbs < 10 := by omega
      exact Nat.lt_of_le_of_lt (Nat.log2_le_self _) (by omega)
    · obtain ⟨n, rfl⟩ : ∃ n : Nat, i = (n : Int) := ⟨i.toNat, by omega⟩
      rw [TL.tl_num, TL.numL_lt (by omega)]
      simp
  · exact h.elim
theorem rc_max2 : RCD K mg T (fun xs H Q => ∃ i j, xs = [.int i, .int j] ∧ Q (.int (if j > i then j else i)) H) max2D := by
  intro F H vs ds W Q gd r h
  unfold max2D at h
  split at h
  · rename_i i j
    obtain ⟨v, u, rfl, rv, ru⟩ := r.two
    cases rv; cases ru
    refine ⟨i, j, rfl, h.here gd ?_⟩
    have e : (if j > i then j else i) = max i j := by omega
    rw [e]
    exact .int _
  · exact h.elim
theorem rc_min2 : RCD K mg T (fun xs H Q => ∃ i j, xs = [.int i, .int j] ∧ Q (.int (if j < i then j else i)) H) min2D := by
  intro F H vs ds W Q gd r h
  unfold min2D at h
  split at h
  · rename_i i j
    obtain ⟨v, u, rfl, rv, ru⟩ := r.two
    cases rv; cases ru
    refine ⟨i, j, rfl, h.here gd ?_⟩
    have e : (if j < i then j else i) = min i j := by omega
    rw [e]
    exact .int _
  · exact h.elim
theorem foldl_max (ns : List Int) (n : Int) : n ≤ ns.foldl max n ∧ (∀ y ∈ ns, y ≤ ns.foldl max n) ∧ (ns.foldl max n = n ∨ ns.foldl max n ∈ ns) := by
  induction ns generalizing n with
  | nil => exact ⟨Int.le_refl _, by simp, .inl rfl⟩
  | cons a r ih =>
    obtain ⟨h1, h2, h3⟩ := ih (max n a)
    rw [List.foldl_cons]
    refine ⟨by omega, fun y hy => ?_, ?_⟩
    · rcases List.mem_cons.mp hy with e | e
      · subst e; omega
      · exact h2 y e
    · rcases h3 with e | e
      · rw [e]
        rcases (show max n a = n ∨ max n a = a by omega) with z | z
        · exact .inl z
        · exact .inr (by rw [z]; exact List.mem_cons_self)
      · exact .inr (List.mem_cons_of_mem _ e)
theorem foldl_min (ns : List Int) (n : Int) : ns.foldl min n ≤ n ∧ (∀ y ∈ ns, ns.foldl min n ≤ y) ∧ (ns.foldl min n = n ∨ ns.foldl min n ∈ ns) := by
  induction ns generalizing n with
  | nil => exact ⟨Int.le_refl _, by simp, .inl rfl⟩
  | cons a r ih =>
    obtain ⟨h1, h2, h3⟩ := ih (min n a)
    rw [List.foldl_cons]
    refine ⟨by omega, fun y hy => ?_, ?_⟩
    · rcases List.mem_cons.mp hy with e | e
      · subst e; omega
      · exact h2 y e
    · rcases h3 with e | e
      · rw [e]
        rcases (show min n a = n ∨ min n a = a by omega) with z | z
        · exact .inl z
        · exact .inr (by rw [z]; exact List.mem_cons_self)
      · exact .inr (List.mem_cons_of_mem _ e)
theorem max_uniq {ns : List Int} {m k : Int} (h1 : m ∈ ns) (h2 : ∀ y ∈ ns, y ≤ m) (h3 : k ∈ ns) (h4 : ∀ y ∈ ns, y ≤ k) : m = k := Int.le_antisymm (h4 m h1) (h2 k h3)
theorem rc_max : RCD K mg T (rMax K) maxD := by
  intro F H vs ds W Q gd r h
  unfold maxD at h
  split at h
  · rename_i xs
    split at h
    · rename_i n ns e
      obtain ⟨v, rfl, rv⟩ := r.one
      obtain ⟨p, us, rfl, e1, q⟩ := rv.lst_inv
      rw [ints_eq e] at q
      have eu := q.ints
      subst eu
      refine ⟨p, n :: ns, rfl, .of (gd.sub _ _ e1), by simp, fun m hm hle => ?_⟩
      obtain ⟨h1, h2, h3⟩ := foldl_max ns n
      have em : m = ns.foldl max n := max_uniq hm hle (h3.elim (fun z => by rw [z]; exact List.mem_cons_self) fun z => List.mem_cons_of_mem _ z) fun y hy => (List.mem_cons.mp hy).elim (fun z => by rw [z]; exact h1) (h2 y)
      rw [em]
      exact h.here gd (.int _)
    · exact h.elim
  · exact h.elim
theorem rc_min : RCD K mg T (rMin K) minD := by
  intro F H vs ds W Q gd r h
  unfold minD at h
  split at h
  · rename_i xs
    split at h
    · rename_i n ns e
      obtain ⟨v, rfl, rv⟩ := r.one
      obtain ⟨p, us, rfl, e1, q⟩ := rv.lst_inv
      rw [ints_eq e] at q
      have eu := q.ints
      subst eu
      refine ⟨p, n :: ns, rfl, .of (gd.sub _ _ e1), by simp, fun m hm hle => ?_⟩
      obtain ⟨h1, h2, h3⟩ := foldl_min ns n
      have em : m = ns.foldl min n := Int.le_antisymm (hle _ (h3.elim (fun z => by rw [z]; exact List.mem_cons_self) fun z => List.mem_cons_of_mem _ z)) ((List.mem_cons.mp hm).elim (fun z => by rw [z]; exact h1) (h2 m))
      rw [em]
      exact h.here gd (.int _)
    · exact h.elim
  · exact h.elim
theorem rc_sum : RCD K mg T (rSum K) sumD := by
  intro F H vs ds W Q gd r h
  unfold sumD at h
  split at h
  · rename_i xs
    split at h
    · rename_i ns e
      obtain ⟨v, rfl, rv⟩ := r.one
      obtain ⟨p, us, rfl, e1, q⟩ := rv.lst_inv
      rw [ints_eq e] at q
      have eu := q.ints
      subst eu
      exact ⟨p, ns, rfl, .of (gd.sub _ _ e1), h.here gd (.int _)⟩
    · exact h.elim
  · exact h.elim
theorem rc_all : RCD K mg T (rAll K) allD := by
  intro F H vs ds W Q gd r h
  unfold allD at h
  split at h
  · rename_i xs
    split at h
    · rename_i ns e
      obtain ⟨v, rfl, rv⟩ := r.one
      obtain ⟨p, us, rfl, e1, q⟩ := rv.lst_inv
      rw [bools_eq e] at q
      have eu := q.bls
      subst eu
      exact ⟨p, ns, rfl, .of (gd.sub _ _ e1), h.here gd (.bl _)⟩
    · exact h.elim
  · exact h.elim
theorem rc_list : RCD K mg T (fun xs H Q => ∃ p ys, xs = [.ref p] ∧ (SqL K H p ys ∨ SqT K H p ys) ∧ ∀ l, H l = none → Q (.ref l) (upd H l (.lst ys))) listD := by
  intro F H vs ds W Q gd r h
  unfold listD at h
  split at h
  · obtain ⟨v, rfl, rv⟩ := r.one
    obtain ⟨p, us, rfl, e1, q⟩ := rv.lst_inv
    refine ⟨p, us, rfl, .inl (.of (gd.sub _ _ e1)), fun l hl => ?_⟩
    have st := Step.new (o := .lst us) gd hl
    exact h _ _ _ st (RpL.lst upd_same (q.mono st.r))
  · obtain ⟨v, rfl, rv⟩ := r.one
    obtain ⟨p, us, rfl, e1, q⟩ := rv.tup_inv
    refine ⟨p, us, rfl, .inr (.of (gd.sub _ _ e1)), fun l hl => ?_⟩
    have st := Step.new (o := .lst us) gd hl
    exact h _ _ _ st (RpL.lst upd_same (q.mono st.r))
  · exact h.elim
theorem rc_ord : RCD K mg T (fun xs H Q => ∃ x, xs = [.str x] ∧ x.length = 1 ∧ Q (.int (x.cps.getD 0 0 : Nat)) H) ordD := by
  intro F H vs ds W Q gd r h
  unfold ordD at h
  split at h
  · rename_i c
    obtain ⟨v, rfl, rv⟩ := r.one
    cases rv with
    | str e =>
      have e2 := one_sign e
      subst e2
      exact ⟨_, rfl, rfl, h.here gd (.int _)⟩
  · exact h.elim
/-! ### subscripts, slices -/
def ixD : D → D → Res D
  | .lst xs, .int i => match atI xs i with
    | some d => .ok d
    | none => .stuck
  | .tup xs, .int i => match atI xs i with
    | some d => .ok d
    | none => .stuck
  | .str l, .int i => if l.length ≤ line then (match atI l i with
    | some c => .ok (.str [c])
    | none => .stuck) else .stuck
  | .scr ns, .int i => match atI ns i with
    | some n => .ok (.int n)
    | none => .stuck
  | _, _ => .stuck
theorem atI_rp {F : Hp} {vs : List V} {ds : List D} {i : Int} {d : D} (r : RpL K mg F vs ds) (h : atI ds i = some d) : ∃ v, atI vs i = some v ∧ Rp K mg F v d := by
  unfold atI at h ⊢
  rw [r.length]
  cases e : ixN ds.length i with
  | none => rw [e] at h; cases h
  | some j =>
    rw [e] at h
    exact r.get1 h
theorem atI_map {α β : Type} (f : α → β) (l : List α) (i : Int) : atI (l.map f) i = (atI l i).map f := by
  unfold atI
  rw [List.length_map]
  cases ixN l.length i with
  | none => rfl
  | some j => simp
theorem r_ix : R2D K mg T (rIx K) ixD := by
  intro F H v u x y W Q gd rv ru h
  unfold ixD at h
  split at h
  · rename_i xs i
    split at h
    · rename_i d e
      cases ru
      obtain ⟨p, us, rfl, e1, q⟩ := rv.lst_inv
      obtain ⟨w, e2, rw'⟩ := atI_rp q e
      exact .inl ⟨p, us, i, w, rfl, rfl, .of (gd.sub _ _ e1), e2, h.here gd rw'⟩
    · exact h.elim
  · rename_i xs i
    split at h
    · rename_i d e
      cases ru
      obtain ⟨p, us, rfl, e1, q⟩ := rv.tup_inv
      obtain ⟨w, e2, rw'⟩ := atI_rp q e
      exact .inr (.inl ⟨p, us, i, w, rfl, rfl, .of (gd.sub _ _ e1), e2, h.here gd rw'⟩)
    · exact h.elim
  · rename_i l i
    obtain ⟨hl, h'⟩ := PostE.ite h
    clear h
    split at h'
    · rename_i c e
      cases ru
      cases rv with
      | str ez =>
        subst ez
        have h := h'
        exact .inr (.inr ⟨_, i, c, rfl, rfl, by rw [TL.len_tl]; exact Nat.le_trans hl line_le, e, h.here gd (.str rfl)⟩)
    · exact h'.elim
  · rename_i ns i
    split at h
    · rename_i n e
      cases ru
      cases rv with
      | scr es => exact .inl ⟨_, _, i, .int n, rfl, rfl, gd.sub.rel.seq es, by rw [atI_map, e]; rfl, h.here gd (.int n)⟩
    · exact h.elim
  · exact h.elim
theorem de_ix {a b : Expr} {fa fb : Sto → Res D} {pos : Pos} (ha : DE T X W a fa) (hb : DE T X W b fb) (hs : PlainIx b := by exact fun _ _ => rfl) : DE T X W (.Subscript a b pos) (bin ixD fa fb) :=
  weakE (pe_ix ix_seq ha hb hs) fun σ H Q ⟨F, δ, L, h⟩ => bindE ppE L h fun x v F1 H1 s1 L1 r1 h1 => bindE ppE L1 h1 fun y u F2 H2 s2 L2 r2 h2 => r_ix F2 H2 v u x y W Q L2.gd (r1.mono s2.r) r2 h2
def cutL {α : Type} (xs : List α) (lo hi : Option Int) : List α := (xs.drop (HT.sIx xs.length 0 lo)).take (HT.sIx xs.length xs.length hi - HT.sIx xs.length 0 lo)
def slD (x : D) (lo hi : Option Int) : Res D := match x with
  | .str l => if l.length ≤ line then .ok (.str (cutL l lo hi)) else .stuck
  | .lst xs => .ok (.lst (cutL xs lo hi))
  | _ => .stuck
def noP : Sto → Res (Option Int) := fun _ => .ok none
def asP : D → Res (Option Int)
  | .int i => .ok (some i)
  | _ => .stuck
def part (f : Sto → Res D) : Sto → Res (Option Int) := fun δ => (f δ).bind asP
def slc (fa : Sto → Res D) (fl fh : Sto → Res (Option Int)) : Sto → Res D := fun δ => (fa δ).bind fun x => (fl δ).bind fun lo => (fh δ).bind fun hi => slD x lo hi
def PostO (T : List (Addr × Str)) (F H : Hp) (W : Wi) (Q : Option Int → Hp → Prop) : Res (Option Int) → Prop
  | .ok b => ∀ F' H', Step T F H F' H' → Q b H'
  | .rs c => ∀ F' H', Step T F H F' H' → W c H'
  | .stuck => False
def tDO (K : PySem.W.Frag) (mg : Str → Option Value) (T : List (Addr × Str)) (W : Wi) (f : Sto → Res (Option Int)) : TO := fun σ H Q => ∃ F δ, Lcl K mg T F H σ δ ∧ PostO T F H W Q (f δ)
abbrev DO (T : List (Addr × Str)) (X : Cx) (W : Wi) (e : Option Expr) (f : Sto → Res (Option Int)) : Prop := PO X e (tDO X.K X.mg T W f)
theorem weakO {X : Cx} {e : Option Expr} {t t' : TO} (h : PO X e t) (hw : ∀ σ H Q, t' σ H Q → t σ H Q) : PO X e t' := ⟨fun pins s σ H Q I q => h.run pins s σ H Q I (hw σ H Q q)⟩
theorem ppO {Q : Option Int → Hp → Prop} : PP T W (fun F H r => PostO T F H W Q r) := ⟨fun _ _ h => h, fun _ _ _ h => h, fun _ _ _ _ r _ st h => by
  cases r with
  | ok d => exact fun F2 H2 s2 => h F2 H2 (st.trans s2)
  | rs c => exact fun F2 H2 s2 => h F2 H2 (st.trans s2)
  | stuck => exact h⟩
theorem bindO {F H : Hp} {σ : L2.St} {δ : Sto} {β : Type} {P : Hp → Hp → Res β → Prop} {f : Sto → Res (Option Int)} {k : Option Int → Res β} {Q' : Option Int → Hp → Prop} (pp : PP T W P) (L : Lcl K mg T F H σ δ) (h : P F H ((f δ).bind k))
    (hk : ∀ b F' H', Step T F H F' H' → Lcl K mg T F' H' σ δ → P F' H' (k b) → Q' b H') : tDO K mg T W f σ H Q' := by
  refine ⟨F, δ, L, ?_⟩
  cases e : f δ with
  | ok d => rw [e] at h; exact fun F' H' st => hk d F' H' st (L.step st) (pp.sh _ _ _ _ _ L.gd st h)
  | rs c => rw [e] at h; exact pp.rs _ _ _ h
  | stuck => rw [e] at h; exact (pp.st _ _ h).elim
theorem do_none : DO T X W none noP := weakO po_none fun σ H Q ⟨F, δ, L, h⟩ => h F H L.refl
theorem do_some {e : Expr} {f : Sto → Res D} (he : DE T X W e f) : DO T X W (some e) (part f) :=
  weakO (po_some he) fun σ H Q ⟨F, δ, L, h⟩ => bindE ppO L h fun x v F1 H1 s1 L1 r1 h1 => by
    cases r1 with
    | int i => exact ⟨i, rfl, h1 F1 H1 L1.refl⟩
    | _ => exact (show False from h1).elim
theorem cutL_rp {F : Hp} {vs : List V} {ds : List D} (r : RpL K mg F vs ds) (lo hi : Option Int) : RpL K mg F (cutV vs lo hi) (cutL ds lo hi) := by
  unfold cutV cutL
  rw [r.length]
  exact (r.drop _).take _
theorem tl_cut (z : Str) (lo hi : Option Int) : TL.tl (cutS z lo hi) = cutL (TL.tl z) lo hi := by
  unfold cutS cutL
  rw [TL.len_tl]
theorem de_slice {e : Expr} {lo hi : Option Expr} {fa : Sto → Res D} {fl fh : Sto → Res (Option Int)} {p2 pos : Pos} (he : DE T X W e fa) (hl : DO T X W lo fl) (hh : DO T X W hi fh) : DE T X W (.Subscript e (.Slice lo hi none p2) pos) (slc fa fl fh) :=
  weakE (pe_slice (sl_list.or sl_str) he hl hh) fun σ H Q ⟨F, δ, L, h⟩ => bindE ppE L h fun x v F1 H1 s1 L1 r1 h1 => bindO ppE L1 h1 fun l F2 H2 s2 L2 h2 => bindO ppE L2 h2 fun u F3 H3 s3 L3 h3 => by
    have r3 := (r1.mono s2.r).mono s3.r
    unfold slD at h3
    split at h3
    · obtain ⟨hl, h3⟩ := PostE.ite h3
      cases r3 with
      | str e => exact .inr ⟨_, rfl, by rw [TL.len_tl, e]; exact Nat.le_trans hl line_le, h3.here L3.gd (.str (by rw [tl_cut, e]))⟩
    · obtain ⟨p, us, rfl, e1, q⟩ := r3.lst_inv
      refine .inl ⟨p, us, rfl, .of (L3.sub _ _ e1), fun z hz => ?_⟩
      have st := Step.new (o := .lst (cutV us l u)) L3.gd hz
      exact h3 _ _ _ st (RpL.lst upd_same ((cutL_rp q l u).mono st.r))
    · exact h3.elim
/-! ### methods of textsO and lists -/
def binS (g : List Nat → D → Res D) (fa fb : Sto → Res D) : Sto → Res D := fun δ => (fa δ).bind fun x => match x with
  | .str l => (fb δ).bind (g l)
  | _ => .stuck
def joinD (s : List Nat) : D → Res D
  | .lst xs => match textsO xs with
    | some ls => if (ls.map List.length).sum + ls.length * s.length ≤ line then .ok (.str (TL.joinL s ls)) else .stuck
    | none => .stuck
  | _ => .stuck
theorem sum_len (ys : List Str) : (ys.map (·.length)).sum = ((ys.map TL.tl).map List.length).sum := by
  induction ys with
  | nil => rfl
  | cons y r ih => rw [List.map_cons, List.sum_cons, ih, TL.len_tl]; rfl
theorem de_join {o e : Expr} {fo fe : Sto → Res D} {apos pos : Pos} (ho : DE T X W o fo) (he : DE T X W e fe) (hs : starEach [e] X.env = [(false, eval e X.env)] := by rfl) (hbase : attributeBase o "join" X.env (eval o X.env) = eval o X.env := by rfl) (hline : (apos.endLine == pos.line) = true := by rfl) :
    DE T X W (.Call (.Attribute o "join" apos) [e] [] pos) (binS joinD fo fe) :=
  weakE (pe_join ho he hs hbase hline) fun σ H Q ⟨F, δ, L, h⟩ => bindE ppE L h fun x v F1 H1 s1 L1 r1 h1 => by
    cases r1 with
    | @str a l e0 =>
      refine ⟨⟨_, rfl⟩, bindE ppE L1 h1 fun y u F2 H2 s2 L2 r2 h2 => ?_⟩
      unfold joinD at h2
      split at h2
      · split at h2
        · rename_i ls e1
          obtain ⟨hl, h2⟩ := PostE.ite h2
          obtain ⟨p, us, rfl, e2, q⟩ := r2.lst_inv
          rw [texts_eq e1] at q
          obtain ⟨ys, rfl, e3⟩ := q.strs
          refine ⟨a, p, ys, rfl, rfl, .inl (.of (L2.sub _ _ e2)), ?_, h2.here L2.gd (.str ?_)⟩
          · rw [sum_len, e3, TL.len_tl, e0, ← List.length_map (f := TL.tl) (as := ys), e3]
            exact Nat.le_trans hl (by decide)
          · rw [TL.join_eq, TL.tl_join, e0, e3]
        · exact h2.elim
      · exact h2.elim
    | _ => exact (show False from h1).elim
def countD (s : List Nat) : D → Res D
  | .str [c] => .ok (.int (s.count c : Nat))
  | _ => .stuck
theorem cnt_eq (c : Nat) (l : List Nat) : cnt c l = ((l.count c : Nat) : Int) := by
  induction l with
  | nil => rfl
  | cons x r ih =>
    unfold cnt at ih ⊢
    rw [List.map_cons, countIn, ih, List.count_cons]
    have e : same (PyData.str ⟨#[x]⟩) (PyData.str ⟨#[c]⟩) = ((⟨#[x]⟩ : Str) == ⟨#[c]⟩) := by simp only [same]
    rw [e]
    by_cases h : x = c
    · subst h
      rw [if_pos (beq_self_eq_true _), if_pos (beq_self_eq_true _)]
      omega
    · have h2 : ¬ ((⟨#[x]⟩ : Str) = ⟨#[c]⟩) := fun z => h (by have := congrArg TL.tl z; simpa using this)
      rw [if_neg (by simpa using h2), if_neg (by simpa using h)]
      omega
theorem de_count {o e : Expr} {fo fe : Sto → Res D} {apos pos : Pos} (ho : DE T X W o fo) (he : DE T X W e fe) (hs : starEach [e] X.env = [(false, eval e X.env)] := by rfl) (hbase : attributeBase o "count" X.env (eval o X.env) = eval o X.env := by rfl) (hline : (apos.endLine == pos.line) = true := by rfl) :
    DE T X W (.Call (.Attribute o "count" apos) [e] [] pos) (binS countD fo fe) :=
  weakE (pe_m1 F.slot_str_count F.type_str_count mt_count ho he hs hbase hline) fun σ H Q ⟨F, δ, L, h⟩ => bindE ppE L h fun x v F1 H1 s1 L1 r1 h1 => by
    cases r1 with
    | @str a l e0 =>
      refine ⟨⟨_, rfl⟩, bindE ppE L1 h1 fun y u F2 H2 s2 L2 r2 h2 => ?_⟩
      unfold countD at h2
      split at h2
      · rename_i c
        cases r2 with
        | str e1 =>
          have e2 := one_sign e1
          subst e2 e0
          refine ⟨a, _, rfl, rfl, h2.here L2.gd ?_⟩
          rw [count_cnt, cnt_eq]
          exact .int _
      · exact h2.elim
    | _ => exact (show False from h1).elim
end
end Dn


set_option Elab.async false
set_option linter.all false
set_option maxRecDepth 100000
set_option maxHeartbeats 4000000
namespace Dn
open PySem PySem.Spec PyProof.Rows L2
/-! ### statements: outcomes, the state against the entry -/
inductive Out where
  | nx (δ : Sto) | rt (d : D) | rs (c : Str) | bk (δ : Sto) | ct (δ : Sto) | stuck
def Res.out {α : Type} : Res α → (α → Out) → Out
  | .ok a, k => k a
  | .rs c, _ => .rs c
  | .stuck, _ => .stuck
@[simp] theorem out_ok {α : Type} (a : α) (k : α → Out) : (Res.ok a).out k = k a := nrfl rfl
@[simp] theorem out_rs {α : Type} (c : Str) (k : α → Out) : (Res.rs c : Res α).out k = .rs c := nrfl rfl
@[simp] theorem out_stuck {α : Type} (k : α → Out) : (Res.stuck : Res α).out k = .stuck := nrfl rfl
structure StR (K : PySem.W.Frag) (mg : Str → Option Value) (T : List (Addr × Str)) (F0 : Hp) (H0 : Hp × Addr) (F H : Hp) (σ : L2.St) (δ : Sto) : Prop where
  sub0 : Sub F0 H0.1
  st : Step T F0 H0.1 F H
  loc : Lcl K mg T F H σ δ
  fresh : ∀ (i : Nat) s a, δ[i]? = some s → s.owned = true → σ[i]? = some (some (.ref a)) → Fr0 T H0.1 a ∧ ∀ C dx gs, H a = some (.ins C dx gs) → Fr0 T H0.1 dx ∧ a = H0.2
section
variable (K : PySem.W.Frag) (mg : Str → Option Value) (T : List (Addr × Str))
def PostS (F0 : Hp) (H0 : Hp × Addr) (F : Hp) (W : Wi) (D' : Ends) : Out → Prop
  | .nx δ => ∀ σ F' H', Rel F F' → StR K mg T F0 H0 F' H' σ δ → D'.nx σ H'
  | .rt d => ∀ v F' H', Step T F0 H0.1 F' H' → Rp K mg F' v d → D'.rt v H'
  | .rs c => ∀ F' H', Step T F0 H0.1 F' H' → W c H'
  | .bk δ => ∀ σ F' H', Rel F F' → StR K mg T F0 H0 F' H' σ δ → D'.bk σ H'
  | .ct δ => ∀ σ F' H', Rel F F' → StR K mg T F0 H0 F' H' σ δ → D'.ct σ H'
  | .stuck => False
def sD (W : Wi) (f : Sto → Out) : TS := fun D' σ H => ∃ F0 H0 F δ, StR K mg T F0 H0 F H σ δ ∧ PostS K mg T F0 H0 F W D' (f δ)
end
abbrev DS (T : List (Addr × Str)) (X : Cx) (W : Wi) (st : Stmt) (f : Sto → Out) : Prop := PS X st (sD X.K X.mg T W f)
abbrev DSs (T : List (Addr × Str)) (X : Cx) (W : Wi) (st : List Stmt) (f : Sto → Out) : Prop := PSs X st (sD X.K X.mg T W f)
theorem weakS {X : Cx} {e : Stmt} {t t' : TS} (h : PS X e t) (hw : ∀ D' σ H, t' D' σ H → t D' σ H) : PS X e t' := ⟨fun pins s σ H D' I q => h.run pins s σ H D' I (hw D' σ H q)⟩
theorem weakSs {X : Cx} {e : List Stmt} {t t' : TS} (h : PSs X e t) (hw : ∀ D' σ H, t' D' σ H → t D' σ H) : PSs X e t' := ⟨fun pins s σ H D' I q => h.run pins s σ H D' I (hw D' σ H q)⟩
section
variable {K : PySem.W.Frag} {mg : Str → Option Value} {T : List (Addr × Str)} {F0 : Hp} {H0 : Hp × Addr} {F H F' H' : Hp} {σ : L2.St} {δ : Sto} {W : Wi} {D' : Ends}
theorem PostS.shift {o : Out} (h : PostS K mg T F0 H0 F W D' o) (r : Rel F F') : PostS K mg T F0 H0 F' W D' o := by
  cases o with
  | nx δ => exact fun σ F2 H2 r2 => h σ F2 H2 (r.trans r2)
  | bk δ => exact fun σ F2 H2 r2 => h σ F2 H2 (r.trans r2)
  | ct δ => exact fun σ F2 H2 r2 => h σ F2 H2 (r.trans r2)
  | rt d => exact h
  | rs c => exact h
  | stuck => exact h
theorem SlotOk.ins_same {ov : Option V} {s : Slot} (h : SlotOk K mg F H ov s) (hs : s.owned = true) (st : Step T F H F' H') {a : Addr} (e : ov = some (.ref a)) : H' a = H a := by
  cases s with
  | no => cases hs
  | val d => cases hs
  | own ds =>
    obtain ⟨b, vs, e1, n, q, r⟩ := h
    rw [e] at e1; cases e1
    rw [q]
    exact st.fr _ _ n q (.inr fun _ z => by cases z)
  | ins c fs =>
    obtain ⟨b, C, dx, gs, e1, n, n', hm, q, q', r⟩ := h
    rw [e] at e1; cases e1
    rw [q]
    exact st.fr _ _ n q (.inr fun _ z => by cases z)
theorem StR.step (S : StR K mg T F0 H0 F H σ δ) (st : Step T F H F' H') : StR K mg T F0 H0 F' H' σ δ :=
  ⟨S.sub0, S.st.trans st, S.loc.step st, fun i s a e o q => by
    obtain ⟨h1, h2⟩ := S.fresh i s a e o q
    refine ⟨h1, fun C dx gs z => h2 C dx gs ?_⟩
    obtain ⟨ov, q1, ok⟩ := S.loc.slot i s e
    rw [q] at q1; cases q1
    rw [← ok.ins_same o st rfl]
    exact z⟩
/-- an expression, then the rest of the statement -/
theorem outE {f : Sto → Res D} {k : D → Out} {Q : VK} (S : StR K mg T F0 H0 F H σ δ) (h : PostS K mg T F0 H0 F W D' ((f δ).out k))
    (hk : ∀ d v F' H', Rel F F' → StR K mg T F0 H0 F' H' σ δ → Rp K mg F' v d → PostS K mg T F0 H0 F' W D' (k d) → Q v H') : tD K mg T W f σ H Q := by
  refine ⟨F, δ, S.loc, ?_⟩
  cases e : f δ with
  | ok d => rw [e] at h; exact fun v F' H' st r => hk d v F' H' st.r (S.step st) r (h.shift st.r)
  | rs c => rw [e] at h; exact fun F' H' st => h F' H' (S.st.trans st)
  | stuck => rw [e] at h; exact h
theorem outT {f : Sto → Res Bool} {k : Bool → Out} {Q : Bool → Hp → Prop} (S : StR K mg T F0 H0 F H σ δ) (h : PostS K mg T F0 H0 F W D' ((f δ).out k))
    (hk : ∀ b F' H', Rel F F' → StR K mg T F0 H0 F' H' σ δ → PostS K mg T F0 H0 F' W D' (k b) → Q b H') : tDT K mg T W f σ H Q := by
  refine ⟨F, δ, S.loc, ?_⟩
  cases e : f δ with
  | ok d => rw [e] at h; exact fun F' H' st => hk d F' H' st.r (S.step st) (h.shift st.r)
  | rs c => rw [e] at h; exact fun F' H' st => h F' H' (S.st.trans st)
  | stuck => rw [e] at h; exact h
theorem outL {f : Sto → Res (List D)} {k : List D → Out} {Q : VK} (S : StR K mg T F0 H0 F H σ δ) (h : PostS K mg T F0 H0 F W D' ((f δ).out k))
    (hk : ∀ ds p vs F' H', Fr0 T H p → Rel F F' → StR K mg T F0 H0 F' H' σ δ → F' p = none → H' p = some (.lst vs) → RpL K mg F' vs ds → PostS K mg T F0 H0 F' W D' (k ds) → Q (.ref p) H') : tDL K mg T W f σ H Q := by
  refine ⟨F, δ, S.loc, ?_⟩
  cases e : f δ with
  | ok d => rw [e] at h; exact fun p vs F' H' hp st hF hH r => hk d p vs F' H' hp st.r (S.step st) hF hH r (h.shift st.r)
  | rs c => rw [e] at h; exact fun F' H' st => h F' H' (S.st.trans st)
  | stuck => rw [e] at h; exact h
theorem set_cases {α : Type} {l : List α} {i j : Nat} {x y : α} (h : (l.set i x)[j]? = some y) : (j = i ∧ y = x ∧ i < l.length) ∨ (j ≠ i ∧ l[j]? = some y) := by
  by_cases e : j = i
  · subst e
    have hl : j < l.length := by have := (List.getElem?_eq_some_iff.mp h).1; simpa using this
    rw [List.getElem?_set_self hl] at h
    cases h
    exact .inl ⟨rfl, rfl, hl⟩
  · rw [List.getElem?_set_ne (Ne.symm e)] at h
    exact .inr ⟨e, h⟩
theorem Lcl.set (L : Lcl K mg T F H σ δ) {i : Nat} {ov : Option V} {s : Slot} (hs : i < δ.length → SlotOk K mg F H ov s) (ha : s.owned = true → ∀ (j : Nat) s' a, j ≠ i → δ[j]? = some s' → s'.owned = true → ov = some (.ref a) → σ[j]? = some (some (.ref a)) → False) : Lcl K mg T F H (σ.set i ov) (δ.set i s) := by
  refine ⟨L.gd, by rw [List.length_set, List.length_set]; exact L.len, fun j s' e => ?_, fun j k s1 s2 a hjk e1 e2 o1 o2 q1 q2 => ?_⟩
  · rcases set_cases e with ⟨rfl, rfl, hl⟩ | ⟨hj, e⟩
    · exact ⟨ov, List.getElem?_set_self (by rw [L.len]; exact hl), hs hl⟩
    · obtain ⟨ov', q, ok⟩ := L.slot j s' e
      exact ⟨ov', by rw [List.getElem?_set_ne (Ne.symm hj)]; exact q, ok⟩
  · rcases set_cases e1 with ⟨rfl, rfl, hl⟩ | ⟨hj, e1'⟩
    · rcases set_cases e2 with ⟨rfl, _, _⟩ | ⟨hk, e2⟩
      · exact hjk rfl
      · rw [List.getElem?_set_self (by rw [L.len]; exact hl)] at q1
        rw [List.getElem?_set_ne (Ne.symm hk)] at q2
        exact ha o1 k s2 a hk e2 o2 (Option.some.inj q1) q2
    · rw [List.getElem?_set_ne (Ne.symm hj)] at q1
      rcases set_cases e2 with ⟨hk, rfl, hl⟩ | ⟨hk, e3⟩
      · rw [hk, List.getElem?_set_self (by rw [L.len]; exact hl)] at q2
        exact ha o2 j s1 a hj e1' o1 (Option.some.inj q2) q1
      · rw [List.getElem?_set_ne (Ne.symm hk)] at q2
        exact L.apart j k s1 s2 a hjk e1' e3 o1 o2 q1 q2
theorem StR.set (S : StR K mg T F0 H0 F H σ δ) {i : Nat} {ov : Option V} {s : Slot} (hs : i < δ.length → SlotOk K mg F H ov s) (ha : s.owned = true → ∀ (j : Nat) s' a, j ≠ i → δ[j]? = some s' → s'.owned = true → ov = some (.ref a) → σ[j]? = some (some (.ref a)) → False)
    (hf : s.owned = true → ∀ a, ov = some (.ref a) → Fr0 T H0.1 a ∧ ∀ C dx gs, H a = some (.ins C dx gs) → Fr0 T H0.1 dx ∧ a = H0.2) : StR K mg T F0 H0 F H (σ.set i ov) (δ.set i s) := by
  refine ⟨S.sub0, S.st, S.loc.set hs ha, fun j s' a e o q => ?_⟩
  rcases set_cases e with ⟨rfl, rfl, hl⟩ | ⟨hj, e⟩
  · rw [List.getElem?_set_self (by rw [S.loc.len]; exact hl)] at q
    exact hf o a (Option.some.inj q)
  · rw [List.getElem?_set_ne (Ne.symm hj)] at q
    exact S.fresh j s' a e o q
theorem StR.setVal (S : StR K mg T F0 H0 F H σ δ) {i : Nat} {v : V} {d : D} (r : Rp K mg F v d) : StR K mg T F0 H0 F H (σ.set i (some v)) (δ.set i (.val d)) :=
  S.set (fun _ => ⟨v, rfl, r⟩) (fun z => by cases z) (fun z => by cases z)
/-- an owned address is known to the heap -/
theorem SlotOk.there {s : Slot} {a : Addr} (h : SlotOk K mg F H (some (.ref a)) s) (hs : s.owned = true) : ∃ o, H a = some o ∧ (∀ ps, o ≠ .tbl ps) ∧ (∀ φ, o ≠ .ext φ) := by
  cases s with
  | no => cases hs
  | val d => cases hs
  | own ds =>
    obtain ⟨b, vs, e1, n, q, r⟩ := h
    cases e1
    exact ⟨_, q, fun _ z => by (cases z), fun _ z => by (cases z)⟩
  | ins c fs =>
    obtain ⟨b, C, dx, gs, e1, n, n', hm, q, q', r⟩ := h
    cases e1
    exact ⟨_, q, fun _ z => by (cases z), fun _ z => by (cases z)⟩
theorem Lcl.ne (L : Lcl K mg T F H σ δ) {p : Addr} (hp : Fr0 T H p) {j : Nat} {s : Slot} {a : Addr} (e : δ[j]? = some s) (o : s.owned = true) (q : σ[j]? = some (some (.ref a))) : a ≠ p := by
  obtain ⟨ov, q1, ok⟩ := L.slot j s e
  rw [q] at q1; cases q1
  obtain ⟨o', h1, h2, _⟩ := ok.there o
  exact hp.ne h1 (.inr (.inl h2))
end
/-! ### the statements' combinators -/
def seqS (f g : Sto → Out) : Sto → Out := fun δ => match f δ with
  | .nx δ' => g δ'
  | o => o
def nopS : Sto → Out := fun δ => .nx δ
def asg (i : Nat) (f : Sto → Res D) : Sto → Out := fun δ => (f δ).out fun d => .nx (δ.set i (.val d))
def asgN (i : Nat) (f : Sto → Res (List D)) : Sto → Out := fun δ => (f δ).out fun ds => .nx (δ.set i (.own ds))
def drp (f : Sto → Res D) : Sto → Out := fun δ => (f δ).out fun _ => .nx δ
def retS (f : Sto → Res D) : Sto → Out := fun δ => (f δ).out .rt
def retN : Sto → Out := fun _ => .rt .non
def rais (c : Str) : Sto → Out := fun _ => .rs c
def ifS (t : Sto → Res Bool) (f g : Sto → Out) : Sto → Out := fun δ => (t δ).out fun b => if b = true then f δ else g δ
/-- a list of one's own is let go: it is read from now on -/
def frzS (i : Nat) (f : Sto → Out) : Sto → Out := fun δ => match δ[i]? with
  | some (.own ds) => f (δ.set i (.val (.lst ds)))
  | _ => .stuck
def appS (i : Nat) (f : Sto → Res D) : Sto → Out := fun δ => match δ[i]? with
  | some (.own ds) => (f δ).out fun d => if ds.length < line then .nx (δ.set i (.own (ds ++ [d]))) else .stuck
  | _ => .stuck
def extS (i : Nat) (f : Sto → Res D) : Sto → Out := fun δ => match δ[i]? with
  | some (.own ds) => (f δ).out fun d => match d with
    | .lst es => if ds.length + es.length ≤ line then .nx (δ.set i (.own (ds ++ es))) else .stuck
    | _ => .stuck
  | _ => .stuck
def whS (t : Sto → Res Bool) (b : Sto → Out) : Nat → Sto → Out
  | 0, _ => .stuck
  | n + 1, δ => (t δ).out fun c => if c = true then (match b δ with
      | .nx δ' => whS t b n δ'
      | .ct δ' => whS t b n δ'
      | .bk δ' => .nx δ'
      | o => o) else .nx δ
def forS (g : D → Sto → Option Sto) (b : Sto → Out) : List D → Sto → Out
  | [], δ => .nx δ
  | x :: xs, δ => match g x δ with
    | some δ1 => (match b δ1 with
      | .nx δ' => forS g b xs δ'
      | .ct δ' => forS g b xs δ'
      | .bk δ' => .nx δ'
      | o => o)
    | none => .stuck
def tgN (i : Nat) : D → Sto → Option Sto := fun d δ => some (δ.set i (.val d))
def tgP (i j : Nat) : D → Sto → Option Sto := fun d δ => match d with
  | .tup [a, b] => some ((δ.set i (.val a)).set j (.val b))
  | _ => none
def forF (fi : Sto → Res (List D)) (g : D → Sto → Option Sto) (b : Sto → Out) : Sto → Out := fun δ => (fi δ).out fun xs => forS g b xs δ
/-! ### rules -/
section
variable {T : List (Addr × Str)} {X : Cx} {W : Wi} {st : Stmt} {rest a b : List Stmt} {f g : Sto → Out} {e : Expr} {fe : Sto → Res D} {pos pos' : Pos}
theorem dss_nil : DSs T X W [] nopS := weakSs pss_nil fun D' σ H ⟨F0, H0, F, δ, S, h⟩ => h σ F H (.refl F) S
theorem dss_one (h : DS T X W st f) : DSs T X W [st] f := pss_one h
theorem dss_cons (h1 : DS T X W st f) (h2 : DSs T X W rest g) : DSs T X W (st :: rest) (seqS f g) :=
  weakSs (pss_cons h1 h2) fun D' σ H ⟨F0, H0, F, δ, S, h⟩ => ⟨F0, H0, F, δ, S, by
    unfold seqS at h
    cases e : f δ with
    | nx δ' => rw [e] at h; exact fun σ' F' H' r S' => ⟨F0, H0, F', δ', S', h.shift r⟩
    | rt d => rw [e] at h; exact h
    | rs c => rw [e] at h; exact h
    | bk δ' => rw [e] at h; exact h
    | ct δ' => rw [e] at h; exact h
    | stuck => rw [e] at h; exact h⟩
theorem ds_pass : DS T X W (.Pass pos) nopS := weakS ps_pass fun D' σ H ⟨F0, H0, F, δ, S, h⟩ => h σ F H (.refl F) S
theorem ds_set {x : Str} (i : Nat) (hN : X.N.Nodup) (he : DE T X W e fe) (hi : X.N[i]? = some x := by rfl) (hx : L2.Loc X.env.scope x := by first | exact Or.inl rfl | exact Or.inr rfl) (hs : swapsWith e (some (.Name x pos')) pos.line X.env = pure false := by rfl) (hf : X.fn x = true ∨ X.env.scope.names.lookup x = some .local := by first | exact .inl rfl | exact .inr rfl | assumption) :
    DS T X W (.Assign [.Name x pos'] e pos) (asg i fe) :=
  weakS (ps_set hN hi hx he hs hf) fun D' σ H ⟨F0, H0, F, δ, S, h⟩ => outE S h fun d v F1 H1 r1 S1 rv h1 => h1 _ F1 H1 (.refl F1) (S1.setVal rv)
theorem ds_setN {x : Str} {fl : Sto → Res (List D)} (i : Nat) (hN : X.N.Nodup) (he : DL T X W e fl) (hi : X.N[i]? = some x := by rfl) (hx : L2.Loc X.env.scope x := by first | exact Or.inl rfl | exact Or.inr rfl) (hs : swapsWith e (some (.Name x pos')) pos.line X.env = pure false := by rfl) (hf : X.fn x = true ∨ X.env.scope.names.lookup x = some .local := by first | exact .inl rfl | exact .inr rfl | assumption) :
    DS T X W (.Assign [.Name x pos'] e pos) (asgN i fl) :=
  weakS (ps_set hN hi hx he hs hf) fun D' σ H ⟨F0, H0, F, δ, S, h⟩ => outL S h fun ds p vs F1 H1 hp r1 S1 hF hH rv h1 => h1 _ F1 H1 (.refl F1) (S1.set (fun _ => ⟨p, vs, rfl, hF, hH, rv⟩) (fun _ j s' a hj e1 o1 q1 q2 => by cases q1; exact S.loc.ne hp e1 o1 q2 rfl)
    (fun _ a q => by cases q; exact ⟨S.st.back S.sub0 hp, fun C dx gs z => by rw [hH] at z; cases z⟩))
end
end Dn


set_option Elab.async false
set_option linter.all false
set_option maxRecDepth 100000
set_option maxHeartbeats 4000000
namespace Dn
open PySem PySem.Spec PyProof.Rows L2
section
variable {T : List (Addr × Str)} {X : Cx} {W : Wi} {st : Stmt} {rest a b : List Stmt} {f g : Sto → Out} {e c : Expr} {fe : Sto → Res D} {ft : Sto → Res Bool} {pos pos' : Pos}
theorem ds_expr (he : DE T X W e fe) (hs : swapsWith e none pos.line X.env = pure false := by rfl) : DS T X W (.Expr e pos) (drp fe) :=
  weakS (ps_expr he hs) fun D' σ H ⟨F0, H0, F, δ, S, h⟩ => outE S h fun d v F1 H1 r1 S1 rv h1 => h1 σ F1 H1 (.refl F1) S1
theorem ds_ret (he : DE T X W e fe) : DS T X W (.Return (some e) pos) (retS fe) :=
  weakS (ps_ret he) fun D' σ H ⟨F0, H0, F, δ, S, h⟩ => outE S h fun d v F1 H1 r1 S1 rv h1 => h1 v F1 H1 S1.st rv
theorem ds_retN : DS T X W (.Return none pos) retN := weakS ps_retN fun D' σ H ⟨F0, H0, F, δ, S, h⟩ => h .non F H S.st .non
theorem ds_if (hc : DT T X W c ft) (ha : DSs T X W a f) (hb : DSs T X W b g) : DS T X W (.If c a b pos) (ifS ft f g) :=
  weakS (ps_if hc ha hb) fun D' σ H ⟨F0, H0, F, δ, S, h⟩ => outT S h fun k F1 H1 r1 S1 h1 => by
    cases k with
    | true => rw [if_pos rfl] at h1 ⊢; exact ⟨F0, H0, F1, δ, S1, h1⟩
    | false => rw [if_neg Bool.false_ne_true] at h1 ⊢; exact ⟨F0, H0, F1, δ, S1, h1⟩
theorem ds_brk : DS T X W (.Break pos) (fun δ => .bk δ) := weakS ps_break fun D' σ H ⟨F0, H0, F, δ, S, h⟩ => h σ F H (.refl F) S
theorem ds_cont : DS T X W (.Continue pos) (fun δ => .ct δ) := weakS ps_continue fun D' σ H ⟨F0, H0, F, δ, S, h⟩ => h σ F H (.refl F) S
/-- the class that a name of the module holds -/
def clsOf (mg : Str → Option Value) (c : Str) : Value := (mg c).getD .none
/-- a wish by names as a wish -/
def wx (mg : Str → Option Value) (W : Wi) : WX := fun cls d _ H => d = none ∧ ∃ c, cls = clsOf mg c ∧ W c H
theorem ds_raise {x m : Str} {C : Addr} {bmB : List Value} {B newId initId : String} {j : Nat} {p p2 p3 : Pos} (hc : X.calm = true) (tk : L2N.Takes X (wx X.mg W)) (Fb : ExcBaseFacts B newId initId bmB) (q : PySem.W.excIn X.K C bmB newId = true) (gC : X.mg x = some (.ref C)) (kC : PySem.W.keepIn X.K (.ref C) = true)
    (h1 : PySem.W.subIn X.K (.ref C) (.type "BaseException") = some true) (h2 : PySem.W.typeIn X.K (.ref C) = some (.type "type")) (hg : Gl X x := by rfl) (hdb : (x == ("__debug__" : Str)) = false := by decide) :
    DS T X W (.Raise (some (.Call (.Name x p) [.Constant (.str m) j p2] [] p3)) none pos) (rais x) :=
  weakS (L2N.ps_raise hc tk (L2N.pmk_own Fb q gC kC (raises_own h1 h2) hg hdb)) fun D' σ H ⟨F0, H0, F, δ, S, h⟩ => ⟨rfl, x, by unfold clsOf; rw [gC]; rfl, h F H S.st⟩
/-! ### lists of one's own -/
theorem StR.freeze {K : PySem.W.Frag} {mg : Str → Option Value} {F0 : Hp} {H0 : Hp × Addr} {F H : Hp} {σ : L2.St} {δ : Sto} (S : StR K mg T F0 H0 F H σ δ) {i : Nat} {ds : List D} (e : δ[i]? = some (.own ds)) : ∃ F', Rel F F' ∧ StR K mg T F0 H0 F' H σ (δ.set i (.val (.lst ds))) := by
  obtain ⟨ov, q, p, vs, rfl, nF, hH, rv⟩ := S.loc.slot i _ e
  obtain ⟨n0, _⟩ := S.fresh i _ p e rfl q
  have st := S.st.freeze n0 nF hH
  have rel : Rel F (upd F p (.lst vs)) := fun a o z => ⟨o, by rw [upd_ne (ne_of_none z nF)]; exact z, .refl o⟩
  refine ⟨upd F p (.lst vs), rel, S.sub0, st, ⟨st.gd, by rw [List.length_set]; exact S.loc.len, fun j s z => ?_, fun j k s1 s2 a hjk e1 e2 o1 o2 q1 q2 => ?_⟩, fun j s a z o q' => ?_⟩
  · rcases set_cases z with ⟨rfl, rfl, _⟩ | ⟨hj, z⟩
    · exact ⟨_, q, .ref p, rfl, RpL.lst upd_same (rv.mono rel)⟩
    · obtain ⟨ov, q', ok⟩ := S.loc.slot j s z
      refine ⟨ov, q', ?_⟩
      cases s with
      | no => trivial
      | val d =>
        obtain ⟨v, e1, r⟩ := ok
        exact ⟨v, e1, r.mono rel⟩
      | own es =>
        obtain ⟨b, us, rfl, n, h, r⟩ := ok
        have hb : b ≠ p := fun zz => S.loc.apart j i _ _ b hj z e rfl rfl q' (by rw [zz]; exact q)
        exact ⟨b, us, rfl, by rw [upd_ne hb]; exact n, h, r.mono rel⟩
      | ins c fs =>
        obtain ⟨b, C, dx, gs, rfl, n, n', hm, h, h', r⟩ := ok
        have hb : b ≠ p := fun zz => S.loc.apart j i _ _ b hj z e rfl rfl q' (by rw [zz]; exact q)
        have hd : dx ≠ p := fun zz => by rw [zz, hH] at h'; cases h'
        exact ⟨b, C, dx, gs, rfl, by rw [upd_ne hb]; exact n, by rw [upd_ne hd]; exact n', hm, h, h', r.mono rel⟩
  · rcases set_cases e1 with ⟨rfl, rfl, _⟩ | ⟨_, e1⟩
    · cases o1
    · rcases set_cases e2 with ⟨rfl, rfl, _⟩ | ⟨_, e2⟩
      · cases o2
      · exact S.loc.apart j k s1 s2 a hjk e1 e2 o1 o2 q1 q2
  · rcases set_cases z with ⟨rfl, rfl, _⟩ | ⟨_, z⟩
    · cases o
    · exact S.fresh j s a z o q'
theorem dss_frz (i : Nat) (h : DSs T X W rest f) : DSs T X W rest (frzS i f) :=
  weakSs h fun D' σ H ⟨F0, H0, F, δ, S, h⟩ => by
    unfold frzS at h
    split at h
    · rename_i ds e
      obtain ⟨F', r, S'⟩ := S.freeze e
      exact ⟨F0, H0, F', _, S', h.shift r⟩
    · exact h.elim
theorem ds_frz (i : Nat) (h : DS T X W st f) : DS T X W st (frzS i f) :=
  weakS h fun D' σ H ⟨F0, H0, F, δ, S, h⟩ => by
    unfold frzS at h
    split at h
    · rename_i ds e
      obtain ⟨F', r, S'⟩ := S.freeze e
      exact ⟨F0, H0, F', _, S', h.shift r⟩
    · exact h.elim
/-- an owned list is turned -/
theorem StR.turn {K : PySem.W.Frag} {mg : Str → Option Value} {F0 : Hp} {H0 : Hp × Addr} {F H : Hp} {σ : L2.St} {δ : Sto} (S : StR K mg T F0 H0 F H σ δ) {i : Nat} {ds : List D} {p : Addr} {us : List V} {es : List D} (e : δ[i]? = some (.own ds)) (q : σ[i]? = some (some (.ref p))) (r : RpL K mg F us es) :
    StR K mg T F0 H0 F (upd H p (.lst us)) σ (δ.set i (.own es)) := by
  obtain ⟨ov, q1, p', vs, rfl, nF, hH, rv⟩ := S.loc.slot i _ e
  rw [q] at q1; cases q1
  obtain ⟨n0, _⟩ := S.fresh i _ p e rfl q
  have st : Step T F0 H0.1 F (upd H p (.lst us)) := S.st.turn n0 nF (fun ps z => by rw [hH] at z; cases z) (fun φ z => by rw [hH] at z; cases z)
  refine ⟨S.sub0, st, ⟨st.gd, by rw [List.length_set]; exact S.loc.len, fun j s z => ?_, fun j k s1 s2 a hjk e1 e2 o1 o2 q1 q2 => ?_⟩, fun j s a z o q' => ?_⟩
  · rcases set_cases z with ⟨rfl, rfl, _⟩ | ⟨hj, z⟩
    · exact ⟨_, q, p, us, rfl, nF, upd_same, r⟩
    · obtain ⟨ov, q', ok⟩ := S.loc.slot j s z
      refine ⟨ov, q', ?_⟩
      cases s with
      | no => trivial
      | val d => exact ok
      | own es =>
        obtain ⟨b, us, rfl, n, h, r⟩ := ok
        have hb : b ≠ p := fun zz => S.loc.apart j i _ _ b hj z e rfl rfl q' (by rw [zz]; exact q)
        exact ⟨b, us, rfl, n, by rw [upd_ne hb]; exact h, r⟩
      | ins c fs =>
        obtain ⟨b, C, dx, gs, rfl, n, n', hm, h, h', r⟩ := ok
        have hb : b ≠ p := fun zz => S.loc.apart j i _ _ b hj z e rfl rfl q' (by rw [zz]; exact q)
        have hd : dx ≠ p := fun zz => by rw [zz, hH] at h'; cases h'
        exact ⟨b, C, dx, gs, rfl, n, n', hm, by rw [upd_ne hb]; exact h, by rw [upd_ne hd]; exact h', r⟩
  · have own : ∀ {j : Nat} {s : Slot}, (δ.set i (.own es))[j]? = some s → s.owned = true → ∃ s' : Slot, δ[j]? = some s' ∧ s'.owned = true := fun {j s} z o => by
      rcases set_cases z with ⟨rfl, rfl, _⟩ | ⟨_, z⟩
      · exact ⟨_, e, rfl⟩
      · exact ⟨s, z, o⟩
    obtain ⟨t1, f1, g1⟩ := own e1 o1
    obtain ⟨t2, f2, g2⟩ := own e2 o2
    exact S.loc.apart j k t1 t2 a hjk f1 f2 g1 g2 q1 q2
  · rcases set_cases z with ⟨rfl, rfl, _⟩ | ⟨hj, z⟩
    · rw [q] at q'; cases q'
      exact ⟨n0, fun C dx gs zz => by rw [upd_same] at zz; cases zz⟩
    · obtain ⟨h1, h2⟩ := S.fresh j s a z o q'
      have ha : a ≠ p := fun zz => S.loc.apart j i _ _ a hj z e o rfl q' (by rw [zz]; exact q)
      exact ⟨h1, fun C dx gs zz => h2 C dx gs (by rw [upd_ne ha] at zz; exact zz)⟩
/-- x.append(e) -/
theorem ds_app {x : Str} {px pa pc : Pos} (i : Nat) (he : DE T X W e fe) (hN : X.N[i]? = some x := by rfl) (hv : Vis X.env.scope x := by first | exact Or.inl rfl | exact Or.inr (Or.inl rfl) | exact Or.inr (Or.inr rfl)) (hd : (x == ("__debug__" : Str)) = false := by decide) (hcd : (x == ("__classdict__" : Str)) = false := by decide)
    (hsw : swapsWith (.Call (.Attribute (.Name x px) "append" pa) [e] [] pc) none pos.line X.env = pure false := by rfl) (hse : starEach (e :: []) X.env = (false, eval e X.env) :: starEach [] X.env := by rfl)
    (hbase : attributeBase (.Name x px) "append" X.env (eval (.Name x px) X.env) = eval (.Name x px) X.env := by rfl)
    (hfew : ((backTo pc (starEach (e :: []) X.env)).all (fun x => !x.1) && (backToKw pc (keywordEach [] X.env)).all (fun x => x.1.isSome) && decide ((e :: []).length + ([] : List Keyword).length + (if ([] : List Keyword).isEmpty then 0 else 1) < 30)) = true := by rfl)
    (hline : (pa.endLine == pc.line) = true := by rfl) (hplain : (backTo pc (starEach [] X.env)).any (·.1) = false := by rfl) :
    DS T X W (.Expr (.Call (.Attribute (.Name x px) "append" pa) [e] [] pc) pos) (appS i fe) :=
  weakS (ps_expr (pe_bm PySem.F.plainAttrs_list PySem.F.slot_list_append PySem.F.type_list_append mt_append (pe_var (i := i) hN hv hd hcd) (pa_cons he pa_nil hse) hbase hfew hline hse hplain) hsw) fun D' σ H ⟨F0, H0, F, δ, S, h⟩ => by
    unfold appS at h
    split at h
    · rename_i ds e1
      obtain ⟨ov, q, p, vs, rfl, nF, hH, rv⟩ := S.loc.slot i _ e1
      refine ⟨.ref p, q, .inl ⟨rfl, vs, .of hH⟩, ?_⟩
      refine outE S h fun d v F1 H1 r1 S1 rd h1 => ?_
      obtain ⟨ov, q', p', vs', ev, nF', hH', rv'⟩ := S1.loc.slot i _ e1
      rw [q] at q'; cases q'; cases ev
      by_cases hl : ds.length < line
      · rw [if_pos hl] at h1
        refine ⟨p, vs', v, rfl, rfl, hH', by rw [rv'.length]; exact Nat.lt_of_lt_of_le hl line_le, ?_⟩
        exact h1 σ F1 _ (.refl F1) (S1.turn e1 q (rv'.append (.cons rd .nil)))
      · rw [if_neg hl] at h1; exact h1.elim
    · exact h.elim
/-- x.extend(e) -/
theorem ds_ext {x : Str} {px pa pc : Pos} (i : Nat) (he : DE T X W e fe) (hN : X.N[i]? = some x := by rfl) (hv : Vis X.env.scope x := by first | exact Or.inl rfl | exact Or.inr (Or.inl rfl) | exact Or.inr (Or.inr rfl)) (hd : (x == ("__debug__" : Str)) = false := by decide) (hcd : (x == ("__classdict__" : Str)) = false := by decide)
    (hsw : swapsWith (.Call (.Attribute (.Name x px) "extend" pa) [e] [] pc) none pos.line X.env = pure false := by rfl) (hse : starEach (e :: []) X.env = (false, eval e X.env) :: starEach [] X.env := by rfl)
    (hbase : attributeBase (.Name x px) "extend" X.env (eval (.Name x px) X.env) = eval (.Name x px) X.env := by rfl)
    (hfew : ((backTo pc (starEach (e :: []) X.env)).all (fun x => !x.1) && (backToKw pc (keywordEach [] X.env)).all (fun x => x.1.isSome) && decide ((e :: []).length + ([] : List Keyword).length + (if ([] : List Keyword).isEmpty then 0 else 1) < 30)) = true := by rfl)
    (hline : (pa.endLine == pc.line) = true := by rfl) (hplain : (backTo pc (starEach [] X.env)).any (·.1) = false := by rfl) :
    DS T X W (.Expr (.Call (.Attribute (.Name x px) "extend" pa) [e] [] pc) pos) (extS i fe) :=
  weakS (ps_expr (pe_bm PySem.F.plainAttrs_list PySem.F.slot_list_extend PySem.F.type_list_extend mt_extend (pe_var (i := i) hN hv hd hcd) (pa_cons he pa_nil hse) hbase hfew hline hse hplain) hsw) fun D' σ H ⟨F0, H0, F, δ, S, h⟩ => by
    unfold extS at h
    split at h
    · rename_i ds e1
      obtain ⟨ov, q, p, vs, rfl, nF, hH, rv⟩ := S.loc.slot i _ e1
      refine ⟨.ref p, q, .inl ⟨rfl, vs, .of hH⟩, ?_⟩
      refine outE S h fun d v F1 H1 r1 S1 rd h1 => ?_
      obtain ⟨ov, q', p', vs', ev, nF', hH', rv'⟩ := S1.loc.slot i _ e1
      rw [q] at q'; cases q'; cases ev
      split at h1
      · rename_i es
        obtain ⟨b, zs, rfl, hb, rz⟩ := rd.lst_inv
        by_cases hl : ds.length + es.length ≤ line
        · rw [if_pos hl] at h1
          refine ⟨p, b, vs', zs, rfl, rfl, hH', S1.loc.sub _ _ hb, by rw [rv'.length, rz.length]; exact Nat.le_trans hl line_le, ?_⟩
          exact h1 σ F1 _ (.refl F1) (S1.turn e1 q (rv'.append rz))
        · rw [if_neg hl] at h1; exact h1.elim
      · exact h1.elim
    · exact h.elim
/-! ### while -/
theorem ds_while {bd : List Stmt} (n : Nat) (hp : PassesOwn (model X.prog X.w) X.A X.env X.xe) (hc : DT T X W c ft) (hb : DSs T X W bd f) : DS T X W (.While c bd [] pos) (whS ft f n) :=
  weakS (ps_while hp hc hb) fun D' σ H ⟨F0, H0, F, δ, S, h⟩ => by
    refine ⟨fun m σ H => ∃ F δ, StR X.K X.mg T F0 H0 F H σ δ ∧ PostS X.K X.mg T F0 H0 F W D' (whS ft f m δ), ⟨n, F, δ, S, h⟩, ?_⟩
    rintro m σ H ⟨F, δ, S, h⟩
    cases m with
    | zero => exact (show False from h).elim
    | succ m =>
      refine outT (D' := D') S (k := fun c => if c = true then (match f δ with
      | .nx δ' => whS ft f m δ'
      | .ct δ' => whS ft f m δ'
      | .bk δ' => .nx δ'
      | o => o) else .nx δ) h fun k F1 H1 r1 S1 h1 => ?_
      cases k with
      | false =>
        rw [if_neg Bool.false_ne_true] at h1 ⊢
        exact h1 σ F1 H1 (.refl F1) S1
      | true =>
        rw [if_pos rfl] at h1 ⊢
        refine ⟨fun σ' H' => ∃ F' δ', StR X.K X.mg T F0 H0 F' H' σ' δ' ∧ PostS X.K X.mg T F0 H0 F' W D' (whS ft f m δ'), fun σ' H' ⟨F', δ', S', h'⟩ => ⟨m, Nat.lt_succ_self m, F', δ', S', h'⟩, ?_⟩
        refine ⟨F0, H0, F1, δ, S1, ?_⟩
        cases e : f δ with
        | nx δ' => rw [e] at h1; exact fun σ' F' H' r S' => ⟨F', δ', S', h1.shift r⟩
        | ct δ' => rw [e] at h1; exact fun σ' F' H' r S' => ⟨F', δ', S', h1.shift r⟩
        | bk δ' => rw [e] at h1; exact h1
        | rt d => rw [e] at h1; exact h1
        | rs c => rw [e] at h1; exact h1
        | stuck => rw [e] at h1; exact h1
/-! ### what is walked -/
/-- the walk gives the items ds -/
def WalkD (K : PySem.W.Frag) (mg : Str → Option Value) (T : List (Addr × Str)) (J : It) (F : Hp) (ds : List D) : Prop :=
  ∀ (i : Nat) F' H', Rel F F' → Gd T F' H' → (∀ d, ds[i]? = some d → J.go i H' ∧ ∀ x H'', J.yld i H' x H'' → ∃ F'', Step T F' H' F'' H'' ∧ Rp K mg F'' x d) ∧ (ds.length ≤ i → J.stop i H')
def PostI (K : PySem.W.Frag) (mg : Str → Option Value) (T : List (Addr × Str)) (F H : Hp) (W : Wi) (R : It → Hp → Prop) : Res (List D) → Prop
  | .ok ds => ∀ J F' H', Step T F H F' H' → WalkD K mg T J F' ds → R J H'
  | .rs c => ∀ F' H', Step T F H F' H' → W c H'
  | .stuck => False
def tI (K : PySem.W.Frag) (mg : Str → Option Value) (T : List (Addr × Str)) (W : Wi) (f : Sto → Res (List D)) : TI := fun σ H R => ∃ F δ, Lcl K mg T F H σ δ ∧ PostI K mg T F H W R (f δ)
abbrev DI (T : List (Addr × Str)) (X : Cx) (W : Wi) (tg e : Expr) (f : Sto → Res (List D)) : Prop := PI X tg e (tI X.K X.mg T W f)
theorem weakI {X : Cx} {tg e : Expr} {t t' : TI} (h : PI X tg e t) (hw : ∀ σ H Q, t' σ H Q → t σ H Q) : PI X tg e t' := ⟨fun pins s σ H Q I q => h.run pins s σ H Q I (hw σ H Q q)⟩
/-- a target of a for -/
def gDr (K : PySem.W.Frag) (mg : Str → Option Value) (T : List (Addr × Str)) (g : D → Sto → Option Sto) : TG := fun v σ H Q => ∃ F0 H0 F δ d, StR K mg T F0 H0 F H σ δ ∧ Rp K mg F v d ∧ (match g d δ with
  | some δ' => ∀ σ' F' H', Rel F F' → StR K mg T F0 H0 F' H' σ' δ' → Q σ' H'
  | none => False)
abbrev DG (T : List (Addr × Str)) (X : Cx) (tg : Expr) (g : D → Sto → Option Sto) : Prop := PG X tg (gDr X.K X.mg T g)
theorem weakG {X : Cx} {tg : Expr} {t t' : TG} (h : PG X tg t) (hw : ∀ v σ H Q, t' v σ H Q → t v σ H Q) : PG X tg t' := ⟨fun pins s σ H v u Q I r q => h.run pins s σ H v u Q I r (hw v σ H Q q)⟩
theorem dg_name {x : Str} (i : Nat) (hN : X.N.Nodup) (hi : X.N[i]? = some x := by rfl) (hx : L2.Loc X.env.scope x := by first | exact Or.inl rfl | exact Or.inr rfl) (hf : X.fn x = true ∨ X.env.scope.names.lookup x = some .local := by first | exact .inl rfl | exact .inr rfl | assumption) : DG T X (.Name x pos) (tgN i) :=
  weakG (pg_name hN hi hx hf) fun v σ H Q ⟨F0, H0, F, δ, d, S, r, h⟩ => h _ F H (.refl F) (S.setVal r)
theorem dg_pair {x y : Str} {k : Nat} {p1 p2 : Pos} (i j : Nat) (hN : X.N.Nodup) (hc : X.calm = true) (hi : X.N[i]? = some x := by rfl) (hx : L2.Loc X.env.scope x := by first | exact Or.inl rfl | exact Or.inr rfl) (hj : X.N[j]? = some y := by rfl) (hy : L2.Loc X.env.scope y := by first | exact Or.inl rfl | exact Or.inr rfl)
    (hf : X.fn x = true ∨ X.env.scope.names.lookup x = some .local := by first | exact .inl rfl | exact .inr rfl | assumption) (hf2 : X.fn y = true ∨ X.env.scope.names.lookup y = some .local := by first | exact .inl rfl | exact .inr rfl | assumption)
    (hs : (assignEach ((.Name x p1) :: [.Name y p2]) X.env).map (·.2) = assign (.Name x p1) X.env :: (assignEach [.Name y p2] X.env).map (·.2) := by rfl) (hs2 : (assignEach ((.Name y p2) :: []) X.env).map (·.2) = assign (.Name y p2) X.env :: (assignEach [] X.env).map (·.2) := by rfl)
    (hn : (assignEach [.Name x p1, .Name y p2] X.env).length = 2 := by rfl) (hst : (assignEach [.Name x p1, .Name y p2] X.env).findIdx? (·.1) = none := by rfl) : DG T X (.Tuple [.Name x p1, .Name y p2] k pos) (tgP i j) :=
  weakG (pg_tup hc (pgs_cons (pg_name (i := i) hN hi hx hf) (pgs_cons (pg_name (i := j) hN hj hy hf2) pgs_nil hs2) hs) hn hst) fun v σ H Q ⟨F0, H0, F, δ, d, S, r, h⟩ => by
    unfold tgP at h
    split at h
    · rename_i a z
      split at z
      · cases z
        obtain ⟨p, vs, rfl, e1, q⟩ := r.tup_inv
        obtain ⟨v1, v2, rfl, r1, r2⟩ := q.two
        exact ⟨p, [v1, v2], rfl, .of (S.loc.sub _ _ e1), rfl, v1, [v2], rfl, v2, [], rfl, rfl, h _ F H (.refl F) ((S.setVal r1).setVal r2)⟩
      · cases z
    · exact h.elim
/-! ### for -/
theorem ds_for {tg iter : Expr} {bd : List Stmt} {fi : Sto → Res (List D)} {gt : D → Sto → Option Sto} (hp : PassesOwn (model X.prog X.w) X.A X.env X.xe) (hc : X.calm = true) (hi : DI T X W tg iter fi) (hg : DG T X tg gt) (hb : DSs T X W bd f)
    (hs : ∀ x, foldedSetIterable iter X.env x = pure x := by intro _; rfl) : DS T X W (.For tg iter bd [] pos) (forF fi gt f) :=
  weakS (ps_for hp hc hi hg hb hs) fun D' σ H ⟨F0, H0, F, δ, S, h⟩ => by
    refine ⟨F, δ, S.loc, ?_⟩
    unfold forF at h
    cases e : fi δ with
    | rs c => rw [e] at h; exact fun F' H' st => h F' H' (S.st.trans st)
    | stuck => rw [e] at h; exact h
    | ok ds =>
      rw [e] at h
      intro J F1 H1 st1 wk
      have S1 := S.step st1
      have h1 : PostS X.K X.mg T F0 H0 F1 W D' (forS gt f ds δ) := PostS.shift h st1.r
      refine ⟨fun i m σ H => m = ds.length - i ∧ i ≤ ds.length ∧ ∃ F δ, Rel F1 F ∧ StR X.K X.mg T F0 H0 F H σ δ ∧ PostS X.K X.mg T F0 H0 F W D' (forS gt f (ds.drop i) δ), ⟨ds.length, by simp, Nat.zero_le _, F1, δ, .refl F1, S1, h1⟩, ?_⟩
      rintro i m σ H ⟨rfl, hi, F, δ, rel, S, h⟩
      by_cases hlt : i < ds.length
      · have ed : ds[i]? = some ds[i] := List.getElem?_eq_getElem hlt
        obtain ⟨go, yl⟩ := (wk i F H rel S.loc.gd).1 ds[i] ed
        rw [List.drop_eq_getElem_cons hlt] at h
        refine .inr ⟨go, fun σ' H' => ∃ F' δ', Rel F1 F' ∧ StR X.K X.mg T F0 H0 F' H' σ' δ' ∧ PostS X.K X.mg T F0 H0 F' W D' (forS gt f (ds.drop (i + 1)) δ'), fun σ' H' ⟨F', δ', r', S', h'⟩ => ⟨ds.length - (i + 1), by omega, rfl, hlt, F', δ', r', S', h'⟩, fun x H' y => ?_⟩
        obtain ⟨F2, st2, rx⟩ := yl x H' y
        refine ⟨F0, H0, F2, δ, ds[i], S.step st2, rx, ?_⟩
        have h2 : PostS X.K X.mg T F0 H0 F2 W D' (forS gt f (ds[i] :: ds.drop (i + 1)) δ) := h.shift st2.r
        unfold forS at h2
        cases eg : gt ds[i] δ with
        | none => rw [eg] at h2; exact h2
        | some δ2 =>
          rw [eg] at h2
          intro σ3 F3 H3 r3 S3
          refine ⟨F0, H0, F3, δ2, S3, ?_⟩
          have h3 := PostS.shift h2 r3
          dsimp only at h3
          have rel3 := (rel.trans st2.r).trans r3
          cases eb : f δ2 with
          | nx δ' => rw [eb] at h3; exact fun σ' F' H' r S' => ⟨F', δ', rel3.trans r, S', h3.shift r⟩
          | ct δ' => rw [eb] at h3; exact fun σ' F' H' r S' => ⟨F', δ', rel3.trans r, S', h3.shift r⟩
          | bk δ' => rw [eb] at h3; exact h3
          | rt d => rw [eb] at h3; exact h3
          | rs c => rw [eb] at h3; exact h3
          | stuck => rw [eb] at h3; exact h3
      · have e : i = ds.length := by omega
        subst e
        rw [List.drop_length] at h
        exact .inl ⟨(wk _ F H rel S.loc.gd).2 (Nat.le_refl _), h σ F H (.refl F) S⟩
end
end Dn


set_option Elab.async false
set_option linter.all false
set_option maxRecDepth 100000
set_option maxHeartbeats 4000000
namespace Dn
open PySem PySem.Spec PyProof.Rows L2
/-! ### what is walked, by its data -/
def asSeq : D → Res (List D)
  | .lst ds => .ok ds
  | .tup ds => .ok ds
  | .str l => .ok (l.map fun c => .str [c])
  | _ => .stuck
def itS (f : Sto → Res D) : Sto → Res (List D) := fun δ => (f δ).bind asSeq
def upTo (lo : Int) (n : Nat) : List D := (List.range n).map fun (k : Nat) => .int (lo + (k : Int))
def okI (j : Int) : Prop := -(2 ^ 60) ≤ j ∧ j ≤ 2 ^ 60
instance (j : Int) : Decidable (okI j) := by unfold okI; exact inferInstance
def asRng1 : List D → Res (List D)
  | [.int j] => if okI j then .ok (upTo 0 j.toNat) else .stuck
  | _ => .stuck
def asRng2 : List D → Res (List D)
  | [.int i, .int j] => if okI i ∧ okI j then .ok (upTo i (j - i).toNat) else .stuck
  | _ => .stuck
def asRng3 : List D → Res (List D)
  | [.int i, .int j, .int c] => if okI i ∧ okI j ∧ 0 < c ∧ c < 1000000 then .ok ((List.range (Builtin.Range.rangeSize i j c).toNat).map fun (k : Nat) => .int (i + (k : Int) * c)) else .stuck
  | _ => .stuck
def rngA (g : List D → Res (List D)) (fa : Sto → Res (List D)) : Sto → Res (List D) := fun δ => (fa δ).bind g
section
variable {T : List (Addr × Str)} {X : Cx} {W : Wi} {K : PySem.W.Frag} {mg : Str → Option Value} {tg e : Expr} {fe : Sto → Res D}
theorem PI.or {wi wj : TI} (h : PI X tg e wi) (k : PI X tg e wj) : PI X tg e (fun σ H R => wi σ H R ∨ wj σ H R) := ⟨fun pins s σ H R I q => q.elim (h.run pins s σ H R I) (k.run pins s σ H R I)⟩
theorem walk_l {F : Hp} {a : Addr} {vs : List V} {ds : List D} (h : F a = some (.lst vs)) (r : RpL K mg F vs ds) : WalkD K mg T (Itl K a) F ds := by
  intro i F' H' rel gd
  have hq : SqL K H' a vs := .of (gd.sub _ _ (rel.lst h))
  refine ⟨fun d ed => ?_, fun hl => ⟨vs, hq, by rw [r.length]; exact hl⟩⟩
  obtain ⟨v, ev, rv⟩ := r.get1 ed
  refine ⟨⟨vs, v, hq, ev⟩, fun x H'' y => ?_⟩
  obtain ⟨rfl, y⟩ := y
  have ex := y vs hq
  rw [ev] at ex; cases ex
  exact ⟨F', .refl gd, rv.mono rel⟩
theorem walk_t {F : Hp} {a : Addr} {vs : List V} {ds : List D} (h : F a = some (.tup vs)) (r : RpL K mg F vs ds) : WalkD K mg T (Itt K a) F ds := by
  intro i F' H' rel gd
  have hq : SqT K H' a vs := .of (gd.sub _ _ (rel.tup h))
  refine ⟨fun d ed => ?_, fun hl => ⟨vs, hq, by rw [r.length]; exact hl⟩⟩
  obtain ⟨v, ev, rv⟩ := r.get1 ed
  refine ⟨⟨vs, v, hq, ev⟩, fun x H'' y => ?_⟩
  obtain ⟨rfl, y⟩ := y
  have ex := y vs hq
  rw [ev] at ex; cases ex
  exact ⟨F', .refl gd, rv.mono rel⟩
theorem walk_s {F : Hp} {z : Str} {l : List Nat} (h : TL.tl z = l) : WalkD K mg T (Its z) F (l.map fun c => .str [c]) := by
  subst h
  intro i F' H' rel gd
  have hz : z.cps.size = (TL.tl z).length := by simp [TL.tl]
  refine ⟨fun d ed => ?_, fun hl => by show z.cps.size ≤ i; rw [hz]; simpa using hl⟩
  rw [List.getElem?_map] at ed
  cases q : (TL.tl z)[i]? with
  | none => rw [q] at ed; cases ed
  | some c =>
    rw [q] at ed
    cases ed
    refine ⟨by show i < z.cps.size; rw [hz]; exact (List.getElem?_eq_some_iff.mp q).1, fun x H'' y => ?_⟩
    obtain ⟨rfl, c', e1, rfl⟩ := y
    have : c' = c := by
      have e2 : (TL.tl z)[i]? = some c' := by simpa [TL.tl] using e1
      rw [q] at e2; cases e2; rfl
    subst this
    exact ⟨F', .refl gd, .str rfl⟩
theorem walk_r {F : Hp} {lo : Int} {n : Nat} : WalkD K mg T (Itr lo n) F (upTo lo n) := by
  intro i F' H' rel gd
  have hl : (upTo lo n).length = n := by simp [upTo]
  refine ⟨fun d ed => ?_, fun h => by rw [hl] at h; exact h⟩
  have hi : i < n := by rw [← hl]; exact (List.getElem?_eq_some_iff.mp ed).1
  have e1 : (upTo lo n)[i]? = some (.int (lo + (i : Int))) := by simp [upTo, hi]
  rw [e1] at ed; cases ed
  refine ⟨hi, fun x H'' y => ?_⟩
  obtain ⟨rfl, rfl⟩ := y
  exact ⟨F', .refl gd, .int _⟩
theorem walk_c {F : Hp} {lo c : Int} {n : Nat} : WalkD K mg T (Itc lo c n) F ((List.range n).map fun (k : Nat) => .int (lo + (k : Int) * c)) := by
  intro i F' H' rel gd
  have hl : ((List.range n).map fun (k : Nat) => D.int (lo + (k : Int) * c)).length = n := by simp
  refine ⟨fun d ed => ?_, fun h => by rw [hl] at h; exact h⟩
  have hi : i < n := by rw [← hl]; exact (List.getElem?_eq_some_iff.mp ed).1
  have e1 : ((List.range n).map fun (k : Nat) => D.int (lo + (k : Int) * c))[i]? = some (.int (lo + (i : Int) * c)) := by simp [hi]
  rw [e1] at ed; cases ed
  refine ⟨hi, fun x H'' y => ?_⟩
  obtain ⟨rfl, rfl⟩ := y
  exact ⟨F', .refl gd, .int _⟩
theorem ppI {R : It → Hp → Prop} : PP T W (fun F H r => PostI K mg T F H W R r) := ⟨fun _ _ h => h, fun _ _ _ h => h, fun _ _ _ _ r _ st h => by
  cases r with
  | ok d => exact fun J F2 H2 s2 => h J F2 H2 (st.trans s2)
  | rs c => exact fun F2 H2 s2 => h F2 H2 (st.trans s2)
  | stuck => exact h⟩
/-- a list, a tuple, a text -/
theorem di_seq (he : DE T X W e fe) : DI T X W tg e (itS fe) :=
  weakI (PI.or (PI.or (pi_list he) (pi_tup he)) (pi_str he)) fun σ H R ⟨F, δ, L, h⟩ => by
    unfold itS at h
    cases ef : fe δ with
    | stuck => rw [ef] at h; exact (show False from h).elim
    | rs c => rw [ef] at h; exact .inr ⟨F, δ, L, by rw [ef]; exact h⟩
    | ok d =>
      rw [ef] at h
      cases d with
      | lst ds =>
        refine .inl (.inl ⟨F, δ, L, ?_⟩)
        rw [ef]
        intro v F1 H1 s1 r1
        obtain ⟨p, us, rfl, e1, q⟩ := r1.lst_inv
        exact ⟨p, rfl, ⟨us, .of (s1.sub _ _ e1)⟩, h _ F1 H1 s1 (walk_l e1 q)⟩
      | tup ds =>
        refine .inl (.inr ⟨F, δ, L, ?_⟩)
        rw [ef]
        intro v F1 H1 s1 r1
        obtain ⟨p, us, rfl, e1, q⟩ := r1.tup_inv
        exact ⟨p, rfl, ⟨us, .of (s1.sub _ _ e1)⟩, h _ F1 H1 s1 (walk_t e1 q)⟩
      | str l =>
        refine .inr ⟨F, δ, L, ?_⟩
        rw [ef]
        intro v F1 H1 s1 r1
        cases r1 with
        | str e1 => exact ⟨_, rfl, h _ F1 H1 s1 (walk_s e1)⟩
      | _ => exact (show False from h).elim
variable {a b c : Expr} {fa : Sto → Res (List D)} {p pos : Pos}
theorem di_range1 (hm : X.mg "range" = none) (ha : DA T X W [a] fa) (hg : Gl X "range" := by rfl) (hs : starEach [a] X.env = [(false, eval a X.env)] := by rfl) : DI T X W tg (.Call (.Name "range" p) [a] [] pos) (rngA asRng1 fa) :=
  weakI (pi_range1 hg hm ha hs) fun σ H R ⟨F, δ, L, h⟩ => bindA ppI L h fun ds vs F1 H1 s1 L1 r1 h1 => by
    unfold asRng1 at h1
    split at h1
    · rename_i j
      split at h1
      · rename_i hj
        unfold okI at hj
        obtain ⟨v, rfl, rv⟩ := r1.one
        cases rv
        exact ⟨j, rfl, by omega, by omega, h1 _ F1 H1 L1.refl walk_r⟩
      · exact h1.elim
    · exact h1.elim
theorem di_range2 (hm : X.mg "range" = none) (ha : DA T X W [a, b] fa) (hg : Gl X "range" := by rfl) (hs : starEach [a, b] X.env = [(false, eval a X.env), (false, eval b X.env)] := by rfl) (hs2 : starEach [b] X.env = [(false, eval b X.env)] := by rfl) : DI T X W tg (.Call (.Name "range" p) [a, b] [] pos) (rngA asRng2 fa) :=
  weakI (pi_range2 hg hm ha hs hs2) fun σ H R ⟨F, δ, L, h⟩ => bindA ppI L h fun ds vs F1 H1 s1 L1 r1 h1 => by
    unfold asRng2 at h1
    split at h1
    · rename_i i j
      split at h1
      · rename_i hj
        unfold okI at hj
        obtain ⟨v, u, rfl, rv, ru⟩ := r1.two
        cases rv; cases ru
        exact ⟨i, j, rfl, ⟨by omega, by omega, by omega, by omega⟩, h1 _ F1 H1 L1.refl walk_r⟩
      · exact h1.elim
    · exact h1.elim
theorem RpL.three {F : Hp} {vs : List V} {d e f : D} (r : RpL K mg F vs [d, e, f]) : ∃ v u w, vs = [v, u, w] ∧ Rp K mg F v d ∧ Rp K mg F u e ∧ Rp K mg F w f := by
  cases r with
  | cons r t =>
    obtain ⟨u, w, rfl, q1, q2⟩ := RpL.two t
    exact ⟨_, _, _, rfl, r, q1, q2⟩
theorem rg_up {i j c : Int} (hi : okI i) (hj : okI j) (h0 : 0 < c) (h1 : c < 1000000) : RgC i j c (Builtin.Range.rangeSize i j c).toNat := by
  unfold okI at hi hj
  have hsz : 0 ≤ Builtin.Range.rangeSize i j c ∧ Builtin.Range.rangeSize i j c ≤ 2 ^ 62 := by
    unfold Builtin.Range.rangeSize
    rw [if_pos h0]
    split
    · have q1 : 0 ≤ (j - i - 1) / c := Int.ediv_nonneg (by omega) (by omega)
      have q2 : (j - i - 1) / c ≤ j - i - 1 := Int.ediv_le_self _ (by omega)
      omega
    · omega
  refine ⟨by omega, by omega, ?_, by omega⟩
  have fl : ∀ z : Int, -(2 ^ 62) ≤ z → z ≤ 2 ^ 62 → Builtin.Range.rangeFitsLong z = true := fun z h1 h2 => by
    unfold Builtin.Range.rangeFitsLong
    simp only [Bool.and_eq_true, decide_eq_true_eq]
    omega
  unfold Builtin.Range.small
  rw [fl i (by omega) (by omega), fl j (by omega) (by omega), fl c (by omega) (by omega), fl _ (by omega) hsz.2, if_pos h0, fl (j + (c - 1)) (by omega) (by omega), Bool.or_true]
  rfl
theorem di_range3 (hm : X.mg "range" = none) (ha : DA T X W [a, b, c] fa) (hg : Gl X "range" := by rfl) (hs : starEach [a, b, c] X.env = (false, eval a X.env) :: starEach [b, c] X.env := by rfl) (hs2 : (backTo pos (starEach [b, c] X.env)).any (·.1) = false := by rfl) : DI T X W tg (.Call (.Name "range" p) [a, b, c] [] pos) (rngA asRng3 fa) :=
  weakI (pi_range3 hg hm ha hs hs2) fun σ H R ⟨F, δ, L, h⟩ => bindA ppI L h fun ds vs F1 H1 s1 L1 r1 h1 => by
    unfold asRng3 at h1
    split at h1
    · rename_i i j c
      split at h1
      · rename_i hj
        obtain ⟨v, u, w, rfl, rv, ru, rw'⟩ := r1.three
        cases rv; cases ru; cases rw'
        exact ⟨i, j, c, _, rfl, rg_up hj.1 hj.2.1 hj.2.2.1 hj.2.2.2, h1 _ F1 H1 L1.refl walk_c⟩
      · exact h1.elim
    · exact h1.elim
end
/-! ### comprehensions -/
def wipeS (δ : Sto) : List Nat → Sto
  | [] => δ
  | v :: vs => (wipeS δ vs).set v .no
def lcS (gt : D → Sto → Option Sto) (vs : List Nat) (ft : Sto → Res Bool) (fe : Sto → Res D) : List D → Sto → Res (List D)
  | [], _ => .ok []
  | x :: xs, δ => match gt x (wipeS δ vs) with
    | none => .stuck
    | some δ1 => match ft δ1 with
      | .ok true => (match fe δ1 with
        | .ok y => (lcS gt vs ft fe xs δ).bind fun ys => .ok (y :: ys)
        | _ => .stuck)
      | .ok false => lcS gt vs ft fe xs δ
      | _ => .stuck
def lcF (fi : Sto → Res (List D)) (gt : D → Sto → Option Sto) (vs : List Nat) (ft : Sto → Res Bool) (fe : Sto → Res D) : Sto → Res (List D) := fun δ => (fi δ).bind fun ds => if ds.length ≤ line then lcS gt vs ft fe ds δ else .stuck
def yes : Sto → Res Bool := fun _ => .ok true
section
variable {T : List (Addr × Str)} {X : Cx} {W : Wi} {K : PySem.W.Frag} {mg : Str → Option Value}
theorem Lcl.wipe {F H : Hp} {σ : L2.St} {δ : Sto} (L : Lcl K mg T F H σ δ) : ∀ vs : List Nat, Lcl K mg T F H (L2.wipe σ vs) (wipeS δ vs)
  | [] => L
  | v :: vs => (L.wipe vs).set (fun _ => trivial) fun z => by cases z
/-- a comprehension's target, by slots -/
def TgOk (K : PySem.W.Frag) (mg : Str → Option Value) (T : List (Addr × Str)) (g : TG) (gt : D → Sto → Option Sto) (vs : List Nat) : Prop :=
  ∀ F H σ δ v d δ', Lcl K mg T F H (L2.wipe σ vs) (wipeS δ vs) → Rp K mg F v d → gt d (wipeS δ vs) = some δ' → ∀ Q : L2.St → Hp → Prop, (∀ σ2, L2.wipe σ2 vs = L2.wipe σ vs → Lcl K mg T F H σ2 δ' → Q σ2 H) → g v (L2.wipe σ vs) H Q
theorem Lcl.setVal {F H : Hp} {σ : L2.St} {δ : Sto} (L : Lcl K mg T F H σ δ) {i : Nat} {v : V} {d : D} (r : Rp K mg F v d) : Lcl K mg T F H (σ.set i (some v)) (δ.set i (.val d)) := L.set (fun _ => ⟨v, rfl, r⟩) fun z => by cases z
theorem tgok_name (j : Nat) : TgOk K mg T (gName j) (tgN j) [j] := by
  intro F H σ δ v d δ' L r e Q h
  cases e
  refine h _ ?_ (L.set (fun _ => ⟨v, rfl, r⟩) fun z => by cases z)
  show ((σ.set j none).set j (some v)).set j none = σ.set j none
  rw [List.set_set, List.set_set]
theorem tgok_pair {i j : Nat} (hij : i ≠ j) : TgOk K mg T (gTup K 2 (gCons (gName i) (gCons (gName j) gNil))) (tgP i j) [i, j] := by
  intro F H σ δ v d δ' L r e Q h
  unfold tgP at e
  split at e
  · cases e
    obtain ⟨p, vs, rfl, e1, q⟩ := r.tup_inv
    obtain ⟨v1, v2, rfl, r1, r2⟩ := q.two
    refine ⟨p, [v1, v2], rfl, .of (L.sub _ _ e1), rfl, v1, [v2], rfl, v2, [], rfl, rfl, h _ ?_ ((L.setVal r1).setVal r2)⟩
    show (((((σ.set j none).set i none).set i (some v1)).set j (some v2)).set j none).set i none = (σ.set j none).set i none
    rw [List.set_set, List.set_set, List.set_comm _ _ (Ne.symm hij), List.set_set, List.set_comm _ _ hij, List.set_set]
  · cases e
theorem lc_read {g : TG} {vs : List Nat} {fi : Sto → Res (List D)} {gt : D → Sto → Option Sto} {ft : Sto → Res Bool} {fe : Sto → Res D} (hg : TgOk K mg T g gt vs) {σ : L2.St} {H : Hp} {Q : VK} (h : tDL K mg T W (lcF fi gt vs ft fe) σ H Q) :
    tLc (tI K mg T W fi) g (tDT K mg T WF ft) (tD K mg T WF fe) vs σ H Q := by
  obtain ⟨F, δ, L, h⟩ := h
  refine ⟨F, δ, L, ?_⟩
  unfold lcF at h
  cases ei : fi δ with
  | rs c => rw [ei] at h; exact h
  | stuck => rw [ei] at h; exact h
  | ok ds =>
    rw [ei, bind_ok] at h
    by_cases hz : ds.length ≤ line
    · rw [if_pos hz] at h
      intro J F1 H1 st1 wk Dl hD
      cases el : lcS gt vs ft fe ds δ with
      | rs c =>
        exfalso
        have no : ∀ xs : List D, lcS gt vs ft fe xs δ ≠ .rs c := by
          intro xs
          induction xs with
          | nil => intro z; cases z
          | cons x xs ih =>
            intro z
            unfold lcS at z
            split at z
            · cases z
            · split at z
              · split at z
                · cases eb : lcS gt vs ft fe xs δ with
                  | ok ys => rw [eb] at z; cases z
                  | rs c' => rw [eb] at z ih; cases z; exact ih rfl
                  | stuck => rw [eb] at z; cases z
                · cases z
              · exact ih z
              · cases z
        exact no ds el
      | stuck => rw [el] at h; exact (show False from h).elim
      | ok tot =>
        rw [el] at h
        have hF1 : F1 Dl = none := st1.sub.none hD
        refine ⟨fun i m H' => m = ds.length - i ∧ i ≤ ds.length ∧ ∃ F' acc ys zs, Step T F1 H1 F' H' ∧ F' Dl = none ∧ H' Dl = some (.lst acc) ∧ RpL K mg F' acc ys ∧ acc.length ≤ i ∧ lcS gt vs ft fe (ds.drop i) δ = .ok zs ∧ tot = ys ++ zs,
          ⟨ds.length, by simp, Nat.zero_le _, F1, [], [], tot, Step.junk st1.gd hD, hF1, upd_same, .nil, Nat.zero_le _, el, rfl⟩, ?_⟩
        rintro i m H' ⟨rfl, hi, F', acc, ys, zs, st, nD, eD, rv, hacc, ez, et⟩
        by_cases hlt : i < ds.length
        · have ed : ds[i]? = some ds[i] := List.getElem?_eq_getElem hlt
          obtain ⟨go, yl⟩ := (wk i F' H' st.r st.gd).1 ds[i] ed
          rw [List.drop_eq_getElem_cons hlt] at ez
          refine .inr ⟨go, fun H2 => ∃ F' acc ys zs, Step T F1 H1 F' H2 ∧ F' Dl = none ∧ H2 Dl = some (.lst acc) ∧ RpL K mg F' acc ys ∧ acc.length ≤ i + 1 ∧ lcS gt vs ft fe (ds.drop (i + 1)) δ = .ok zs ∧ tot = ys ++ zs, fun H2 q => ⟨ds.length - (i + 1), by omega, rfl, hlt, q⟩, fun x H2 y => ?_⟩
          obtain ⟨F2, st2, rx⟩ := yl x H2 y
          have L2' : Lcl K mg T F2 H2 (L2.wipe σ vs) (wipeS δ vs) := (L.step (st1.trans (st.trans st2))).wipe vs
          unfold lcS at ez
          cases eg : gt ds[i] (wipeS δ vs) with
          | none => rw [eg] at ez; try dsimp only at ez; cases ez
          | some δ1 =>
            rw [eg] at ez; try dsimp only at ez
            refine hg F2 H2 σ δ x ds[i] δ1 L2' rx eg _ fun σ2 hw L3 => ⟨hw, F2, δ1, L3, ?_⟩
            have keep : ∀ {F3 H3 : Hp}, Step T F2 H2 F3 H3 → F3 Dl = none ∧ H3 Dl = some (.lst acc) ∧ Step T F1 H1 F3 H3 := fun {F3 H3} s3 => by
              have s23 := st2.trans s3
              exact ⟨(s23.off Dl _ nD eD (.inr (.inl fun _ z => by cases z))).1, s23.fr Dl _ nD eD (.inr fun _ z => by cases z), st.trans s23⟩
            cases eft : ft δ1 with
            | rs c => rw [eft] at ez; try dsimp only at ez; cases ez
            | stuck => rw [eft] at ez; try dsimp only at ez; cases ez
            | ok k =>
              rw [eft] at ez; try dsimp only at ez
              intro F3 H3 s3
              cases k with
              | false =>
                dsimp only at ez
                rw [if_neg Bool.false_ne_true]
                obtain ⟨k1, k2, k3⟩ := keep s3
                exact ⟨F3, acc, ys, zs, k3, k1, k2, rv.mono (st2.trans s3).r, Nat.le_succ_of_le hacc, ez, et⟩
              | true =>
                dsimp only at ez
                rw [if_pos rfl]
                refine ⟨F3, δ1, L3.step s3, ?_⟩
                cases efe : fe δ1 with
                | rs c => rw [efe] at ez; try dsimp only at ez; cases ez
                | stuck => rw [efe] at ez; try dsimp only at ez; cases ez
                | ok d =>
                  rw [efe] at ez; try dsimp only at ez
                  intro v F4 H4 s4 rv4
                  obtain ⟨k1, k2, k3⟩ := keep (s3.trans s4)
                  cases eb : lcS gt vs ft fe (ds.drop (i + 1)) δ with
                  | rs c => rw [eb] at ez; cases ez
                  | stuck => rw [eb] at ez; cases ez
                  | ok zs' =>
                    rw [eb] at ez
                    cases ez
                    refine ⟨acc, k2, Nat.lt_of_lt_of_le (Nat.lt_of_le_of_lt hacc (Nat.lt_of_lt_of_le hlt hz)) line_le, F4, acc ++ [v], ys ++ [d], zs', ?_, k1, upd_same, ?_, ?_, rfl, ?_⟩
                    · exact k3.turn (.of hD) k1 (fun ps z => by rw [k2] at z; cases z) (fun φ z => by rw [k2] at z; cases z)
                    · exact (rv.mono (st2.trans (s3.trans s4)).r).append (.cons rv4 .nil)
                    · rw [List.length_append]; exact Nat.add_le_add_right hacc 1
                    · rw [et, List.append_assoc]; rfl
        · have e : i = ds.length := by omega
          subst e
          rw [List.drop_length] at ez
          cases ez
          rw [List.append_nil] at et
          subst et
          exact .inl ⟨(wk _ F' H' st.r st.gd).2 (Nat.le_refl _), h Dl acc F' H' (st1.back L.sub (.of hD)) (st1.trans st) nD eD rv⟩
    · rw [if_neg hz] at h; exact h.elim
variable {elt tg iter : Expr} {ifs : List Expr} {scope : Scope} {own : List (Str × Nat)} {pos : Pos} {g : TG} {fi : Sto → Res (List D)} {gt : D → Sto → Option Sto} {vs : List Nat} {ft : Sto → Res Bool} {fe : Sto → Res D}
/-- a clause's tests -/
abbrev DTs (T : List (Addr × Str)) (X : Cx) (ifs : List Expr) (f : Sto → Res Bool) : Prop := PTs X ifs (tDT X.K X.mg T WF f)
theorem dts_nil : DTs T X [] yes := ⟨fun pins s σ H Q I ⟨F, δ, L, h⟩ => pts_nil.run pins s σ H Q I (h F H L.refl)⟩
theorem dts_one {c : Expr} (h : DT T X WF c ft) : DTs T X [c] ft := pts_one h
theorem dl_lc (hc : X.calm = true) (hN : X.N.Nodup) (hi : DI T X W tg iter fi) (ok : BlkOk X.N X.env.scope scope own) (tgk : TgOk X.K X.mg T g gt (own.map (·.2)))
    (hg : ∀ (s : Shared) (H : Hp) (C : Addr) (cl : List (Str × Addr)) (fp : List Addr), PG (X.blk s H scope (compEnvC scope cl C X.env) fp) tg g) (ht : ∀ (s : Shared) (H : Hp) (C : Addr) (cl : List (Str × Addr)) (fp : List Addr), DTs T (X.blk s H scope (compEnvC scope cl C X.env) fp) ifs ft)
    (he : ∀ (s : Shared) (H : Hp) (C : Addr) (cl : List (Str × Addr)) (fp : List Addr), DE T (X.blk s H scope (compEnvC scope cl C X.env) fp) WF elt fe) (hs : ∀ x, foldedSetIterable iter X.env x = pure x := by intro _; rfl) :
    DL T X W (.ListComp elt [⟨tg, iter, ifs, 0⟩] scope pos) (lcF fi gt (own.map (·.2)) ft fe) :=
  weakE (pe_lc (te := tD X.K X.mg T WF fe) (tt := tDT X.K X.mg T WF ft) hc hN hi ok hg ht he hs) fun σ H Q h => lc_read tgk h
theorem lst_read {fr : Sto → Res (List D)} {σ : L2.St} {H : Hp} {Q : VK} (h : tD K mg T W (lstE fr) σ H Q) : tDL K mg T W fr σ H Q := by
  obtain ⟨F, δ, L, h⟩ := h
  refine ⟨F, δ, L, ?_⟩
  unfold lstE at h
  cases e1 : fr δ with
  | ok ds =>
    rw [e1] at h
    intro p vs F' H' hp st hF hH rv
    have st' := st.freeze hp hF hH
    exact h _ _ _ st' (RpL.lst upd_same (rv.mono (fun a o q => ⟨o, by rw [upd_ne (ne_of_none q hF)]; exact q, .refl o⟩)))
  | rs c => rw [e1] at h; exact h
  | stuck => rw [e1] at h; exact h
/-- x = [..], x a local: read from now on -/
theorem ds_setLc {x : Str} {py spos : Pos} (i : Nat) (hc : X.calm = true) (hN : X.N.Nodup) (hi : DI T X W tg iter fi) (ok : BlkOk X.N X.env.scope scope own) (tgk : TgOk X.K X.mg T g gt (own.map (·.2)))
    (hg : ∀ (s : Shared) (H : Hp) (C : Addr) (cl : List (Str × Addr)) (fp : List Addr), PG (X.blk s H scope (compEnvC scope cl C X.env) fp) tg g) (ht : ∀ (s : Shared) (H : Hp) (C : Addr) (cl : List (Str × Addr)) (fp : List Addr), DTs T (X.blk s H scope (compEnvC scope cl C X.env) fp) ifs ft)
    (he : ∀ (s : Shared) (H : Hp) (C : Addr) (cl : List (Str × Addr)) (fp : List Addr), DE T (X.blk s H scope (compEnvC scope cl C X.env) fp) WF elt fe)
    (hsw : swapsWith (.ListComp elt [⟨tg, iter, ifs, 0⟩] scope pos) (some (.Name x py)) spos.line X.env = pure true) (hy : X.N[i]? = some x := by rfl) (hyl : X.env.scope.names.lookup x = some .local := by rfl) (hs : ∀ x, foldedSetIterable iter X.env x = pure x := by intro _; rfl) :
    DS T X W (.Assign [.Name x py] (.ListComp elt [⟨tg, iter, ifs, 0⟩] scope pos) spos) (asg i (lstE (lcF fi gt (own.map (·.2)) ft fe))) :=
  weakS (ps_setLc (te := tD X.K X.mg T WF fe) (tt := tDT X.K X.mg T WF ft) hc hN hy hyl hsw hi ok hg ht he hs) fun D' σ H ⟨F0, H0, F, δ, S, h⟩ => lc_read tgk (lst_read (outE S h fun d v F1 H1 r1 S1 rv h1 => h1 _ F1 H1 (.refl F1) (S1.setVal rv)))
/-- x = [..], x a local, a list of one's own -/
theorem ds_setLcN {x : Str} {py spos : Pos} (i : Nat) (hc : X.calm = true) (hN : X.N.Nodup) (hi : DI T X W tg iter fi) (ok : BlkOk X.N X.env.scope scope own) (tgk : TgOk X.K X.mg T g gt (own.map (·.2)))
    (hg : ∀ (s : Shared) (H : Hp) (C : Addr) (cl : List (Str × Addr)) (fp : List Addr), PG (X.blk s H scope (compEnvC scope cl C X.env) fp) tg g) (ht : ∀ (s : Shared) (H : Hp) (C : Addr) (cl : List (Str × Addr)) (fp : List Addr), DTs T (X.blk s H scope (compEnvC scope cl C X.env) fp) ifs ft)
    (he : ∀ (s : Shared) (H : Hp) (C : Addr) (cl : List (Str × Addr)) (fp : List Addr), DE T (X.blk s H scope (compEnvC scope cl C X.env) fp) WF elt fe)
    (hsw : swapsWith (.ListComp elt [⟨tg, iter, ifs, 0⟩] scope pos) (some (.Name x py)) spos.line X.env = pure true) (hy : X.N[i]? = some x := by rfl) (hyl : X.env.scope.names.lookup x = some .local := by rfl) (hs : ∀ x, foldedSetIterable iter X.env x = pure x := by intro _; rfl) :
    DS T X W (.Assign [.Name x py] (.ListComp elt [⟨tg, iter, ifs, 0⟩] scope pos) spos) (asgN i (lcF fi gt (own.map (·.2)) ft fe)) :=
  weakS (ps_setLc (te := tD X.K X.mg T WF fe) (tt := tDT X.K X.mg T WF ft) hc hN hy hyl hsw hi ok hg ht he hs) fun D' σ H ⟨F0, H0, F, δ, S, h⟩ => lc_read tgk (outL S h fun ds p vs F1 H1 hp r1 S1 hF hH rv h1 => h1 _ F1 H1 (.refl F1) (S1.set (fun _ => ⟨p, vs, rfl, hF, hH, rv⟩) (fun _ j s' a hj e1 o1 q1 q2 => by cases q1; exact S.loc.ne hp e1 o1 q2 rfl)
    (fun _ a q => by cases q; exact ⟨S.st.back S.sub0 hp, fun C dx gs z => by rw [hH] at z; cases z⟩)))
end
/-! ### defs -/
section
variable {T : List (Addr × Str)} {X : Cx} {W : Wi} {K : PySem.W.Frag} {mg : Str → Option Value}
def PostF (K : PySem.W.Frag) (mg : Str → Option Value) (F H : Hp) (Q : VK) (E : XK) : Res D → Prop
  | .ok d => ∀ v F' H', Step [] F H F' H' → Rp K mg F' v d → Q v H'
  | .rs c => ∀ F' H', Step [] F H F' H' → E (clsOf mg c) none H'
  | .stuck => False
/-- the promise: it does what the pure function tells -/
def spD (K : PySem.W.Frag) (mg : Str → Option Value) (f : List D → Res D) : Sp := fun vs H Q E => ∃ F ds, Gd [] F H ∧ RpL K mg F vs ds ∧ PostF K mg F H Q E (f ds)
/-- a def of n parameters and m other names, by its body -/
def runF (n m : Nat) (b : Sto → Out) (ds : List D) : Res D := if ds.length = n then (match b (ds.map Slot.val ++ List.replicate m .no) with
  | .nx _ => .ok .non
  | .rt d => .ok d
  | .rs c => .rs c
  | _ => .stuck) else .stuck
theorem start_slots {N : List Str} {vs : List V} {ds : List D} {F H : Hp} (r : RpL K mg F vs ds) (gd : Gd [] F H) {n m : Nat} (hn : ds.length = n) (hN : N.length = n + m) : StR K mg [] F (H, 0) F H (L2.start N vs) (ds.map Slot.val ++ List.replicate m .no) := by
  have hl := r.length
  have hm : N.length - vs.length = m := by omega
  have no : ∀ (i : Nat) s, (ds.map Slot.val ++ List.replicate m .no)[i]? = some s → s.owned = true → False := fun i s e o => by
    by_cases hi : i < (ds.map Slot.val).length
    · rw [List.getElem?_append_left hi, List.getElem?_map] at e
      cases q : ds[i]? with
      | none => rw [q] at e; cases e
      | some d => rw [q] at e; cases e; cases o
    · rw [List.getElem?_append_right (by omega)] at e
      have := (List.mem_replicate.mp (List.mem_of_getElem? e)).2
      rw [this] at o; cases o
  refine ⟨gd.sub, .refl gd, ⟨gd, ?_, fun i s e => ?_, fun i j s s' a _ e _ o _ _ _ => no i s e o⟩, fun i s a e o _ => (no i s e o).elim⟩
  · unfold L2.start
    rw [hm]
    simp [hl]
  · unfold L2.start
    rw [hm]
    by_cases hi : i < ds.length
    · rw [List.getElem?_append_left (by simpa using hi), List.getElem?_map, List.getElem?_eq_getElem hi] at e
      cases e
      obtain ⟨v, ev, rv⟩ := r.get1 (List.getElem?_eq_getElem hi)
      refine ⟨some v, ?_, v, rfl, rv⟩
      rw [List.getElem?_append_left (by simp; omega), List.getElem?_map, ev]
      rfl
    · rw [List.getElem?_append_right (by simpa using hi)] at e
      have es := (List.mem_replicate.mp (List.mem_of_getElem? e)).2
      subst es
      have hlt : i - ds.length < m := by
        have := (List.getElem?_eq_some_iff.mp e).1
        simpa using this
      refine ⟨none, ?_, trivial⟩
      rw [List.getElem?_append_right (by rw [List.length_map]; omega), List.length_map, hl, List.getElem?_replicate, if_pos hlt]
/-- THE RULE of a def -/
theorem fnD {P : Program} {w : World} {base : Heap} {x qual : Str} {st : Stmt} {f : Addr} {fd : FuncData} {N ps : List Str} {k : Nat} {fb : Sto → Out} (n m : Nat) (Fn : Fun K x qual st f fd) (S : FnScope N ps (defScope st)) (hps : ps.length = n) (hN : N.length = n + m)
    (hbody : ∀ (cdv : Value) (A : Around) (outer : List Env) (s : Shared) (H : Hp) (E : XK), Room k (A.deeper (envOfC qual (defScope st) s.heap.objs.size f cdv)) →
      DSs [] (cxOf (L2N.CX P w) P w K mg base N qual (defScope st) f cdv A outer s H E) (fun c H => E (clsOf mg c) none H) (defBody st) fb) : FnOk P w K mg base (L2N.CX P w) (k + 1) f fd ps (spD K mg (runF n m fb)) := by
  obtain ⟨oc, od, kV, doc, pm, an, cdv, ct, osl, rfl, lk, hcd⟩ := Fn.ex
  refine fn_of lk hcd S (fun vs H Q E h => ?_) (fun A outer s H vs Q E hr h => ⟨_, hbody cdv A outer s H E hr, ?_⟩)
  · obtain ⟨F, ds, gd, r, h⟩ := h
    unfold runF at h
    by_cases hl : ds.length = n
    · rw [hps, r.length, hl]
    · rw [if_neg hl] at h; exact h.elim
  · obtain ⟨F, ds, gd, r, h⟩ := h
    unfold runF at h
    by_cases hl : ds.length = n
    · rw [if_pos hl] at h
      refine ⟨F, (H, 0), F, _, start_slots r gd hl hN, ?_⟩
      cases e : fb (ds.map Slot.val ++ List.replicate m .no) with
      | nx δ => rw [e] at h; exact fun σ F' H' _ S' => h .non F' H' S'.st .non
      | rt d => rw [e] at h; exact h
      | rs c => rw [e] at h; exact h
      | bk δ => rw [e] at h; exact (show False from h).elim
      | ct δ => rw [e] at h; exact (show False from h).elim
      | stuck => rw [e] at h; exact h
    · rw [if_neg hl] at h; exact h.elim
/-- a def's own wishes -/
theorem tk_def {E : XK} {E1 : Value → Shared → Prop} (hs : X.stack = X.env :: X.outer := by rfl) (hf : X.env.frame = some X.env.locals := by rfl) (hex : X.ex = [] := by rfl) (hx : X.xe = fun e s' => wpAny (model X.prog X.w) X.A (leaving X.env e) (fun _ s'' => L2N.CX X.prog X.w X.outer X.H_0 X.s_0 E e s'') E1 s' := by rfl) :
    L2N.Takes X (wx X.mg fun c H => E (clsOf X.mg c) none H) := (L2N.takes_of hs hf hex hx).imp fun cls d σ H ⟨hd, c, hc, h⟩ => by rw [hd, hc]; exact h
theorem tk_none {X : Cx} {mg : Str → Option Value} : L2N.Takes X (wx mg WF) := fun _ _ x => by
  obtain ⟨_, _, _, _, _, _, _, _, _, _, _, _, _, _, _, _, _, _, _, z⟩ := x
  exact z.elim
/-- a call of a def -/
theorem spD_call {f : List D → Res D} {F H : Hp} {vs : List V} {ds : List D} {Q : VK} {σ : L2.St} (gd : Gd T F H) (r : RpL K mg F vs ds) (h : PostE K mg T F H W Q (f ds)) : spD K mg f vs H Q (WE (wx mg W) σ) := by
  refine ⟨F, ds, ⟨gd.sub, (fun p hp => by cases hp), gd.ntb⟩, r, ?_⟩
  cases e : f ds with
  | ok d => rw [e] at h; exact fun v F' H' st rv => h v F' H' (st.lift gd) rv
  | rs c => rw [e] at h; exact fun F' H' st => ⟨rfl, c, rfl, h F' H' (st.lift gd)⟩
  | stuck => rw [e] at h; exact h
theorem de_call {k : Nat} {f : Addr} {fd : FuncData} {ps : List Str} {g : List D → Res D} {x : Str} {e : Expr} {es : List Expr} {p pos : Pos} {fa : Sto → Res (List D)} (Fn : FnOk X.prog X.w X.K X.mg X.base (L2N.CX X.prog X.w) k f fd ps (spD X.K X.mg g)) (hr : Room k X.A) (hm : X.mg x = some (.ref f)) (hk : PySem.W.keepIn X.K (.ref f) = true) (hb : Binds X.K fd ps []) (tk : L2N.Takes X (wx X.mg W)) (ha : DA T X W (e :: es) fa)
    (hg : Gl X x := by rfl) (hdb : (x == ("__debug__" : Str)) = false := by decide) (he : starEach (e :: es) X.env = (false, eval e X.env) :: starEach es X.env := by rfl) (hpl : (backTo pos (starEach es X.env)).any (·.1) = false := by rfl) :
    DE T X W (.Call (.Name x p) (e :: es) [] pos) (app g fa) :=
  weakE (pe_callS Fn hr hg hm hk hb (fun σ => L2N.passAt tk σ) ha hdb he hpl) fun σ H Q ⟨F, δ, L, h⟩ => bindA ppE L h fun ds vs F1 H1 s1 L1 r1 h1 => spD_call L1.gd r1 h1
end
end Dn


set_option Elab.async false
set_option linter.all false
set_option maxRecDepth 100000
set_option maxHeartbeats 4000000
namespace Dn
open PySem PySem.Spec PyProof.Rows L2
/-! ### lists walked while an error is handled -/
section
variable {prog : Program} {w : World} {A : Around} {E : Value → Shared → Prop} {s : Shared}
/-- the error that is handled stands there, without a context -/
def Plain0 (x1 : Addr) (h : Heap) : Prop := ∃ (o : Obj) (vs : Array Value), h.get? x1 = some o ∧ o.data = .fields vs ∧ vs[2]? = some .none
theorem next_end_hot {it l x1 : Addr} {i : Nat} {items : Array Value} {Q : Option Value → Shared → Prop} (hh : A.handled = some (.ref x1)) (hp : Plain0 x1 s.heap) (hne : x1 ≠ it) (hit : s.heap.IsListIter it l i) (hl : s.heap.IsList l items) (hx : items[i]? = none)
    (hQ : ∀ h', Heap.ExtBut it s.heap h' → Q none { s with heap := h' }) : wpAny (model prog w) A (pyNext (.ref it)) Q E s := by
  obtain ⟨o, ho, hc, hd⟩ := id hit
  obtain ⟨ol, hol, _, nl, hdl⟩ := hl
  obtain ⟨o1, vs1, h1, d1, c1⟩ := hp
  unfold pyNext
  refine wpAny_bind (wpAny_attempt (wpAny_callSpecial?_slot (name := Str.ofString "__next__") hit.typeIs slot_listiter_next
    (wpAny_call_entry slot_listiter_next hit.typeIs entry_listiter_next ?_ (args_listiter_next _))))
  show wpAny _ _ (field (.ref it) 0 >>= _) _ _ s
  refine wpAny_bind (wpAny_field ho hd (x := .ref l) rfl ?_)
  show wpAny _ _ (if (Value.ref l == Value.none) = true then _ else _) _ _ s
  rw [if_neg (show ¬ ((Value.ref l == Value.none) = true) from Bool.false_ne_true)]
  show wpAny _ _ (field (.ref it) 1 >>= _) _ _ s
  refine wpAny_bind (wpAny_field ho hd (x := .int i 0) rfl ?_)
  show wpAny _ _ (seqItems? (.ref l) >>= _) _ _ s
  refine wpAny_bind (wpAny_seqItems hol hdl ?_)
  simp only [Int.toNat_natCast, hx]
  refine wpAny_bind (wpAny_rule (wpAny_bind (wpAny_setField ho hd (by simp) ?_)))
  show wpAny _ _ (newExc (.type "StopIteration") [] >>= _) _ _ _
  refine wpAny_bind ?_
  simp only [newExc, newTuple]
  refine wpAny_bind (wpAny_newObj_type ?_ (by size_fits))
  refine wpAny_bind (m := firstArgMember _ _) (wpAny_of_eq (a := Value.none) (by first | rfl | (simp only [firstArgMember]; rfl)) ?_)
  refine wpAny_newObj_type ?_ (by size_fits)
  have k1 : ∀ b ob, b ≠ it → s.heap.get? b = some ob → (s.heap.update it (Obj.mapFields (·.setIfInBounds 0 .none))).get? b = some ob := fun b ob hb e => by
    rw [Heap.get?_update_other _ _ (Ne.symm hb)]; exact e
  refine HotX.raiseNew_hot (x1 := x1) ⟨hh, o1, vs1, Heap.get?_push_of_some _ (Heap.get?_push_of_some _ (k1 _ _ hne h1)), d1, c1⟩ (Nat.ne_of_lt (Heap.lt_size (Heap.get?_push_of_some _ (k1 _ _ hne h1)))) (Heap.get?_push_size _ rfl) rfl (by first | (simp; done) | (simp; omega)) ?_
  refine wpAny_bind (wpAny_isInstance (T := "StopIteration") (b := true) ⟨_, Heap.get?_update_self _ (Heap.get?_push_size _ rfl) rfl, rfl⟩ isSubtype_stop ?_)
  refine wpAny_pure (hQ _ fun b ob hb e => ?_)
  rw [Heap.get?_update_other _ _ (Nat.ne_of_gt (Heap.lt_size (Heap.get?_push_of_some _ (k1 _ _ hb e))))]
  exact Heap.get?_push_of_some _ (Heap.get?_push_of_some _ (k1 _ _ hb e))
theorem walks_hot {x1 : Addr} (hh : A.handled = some (.ref x1)) (I ax : Addr) (hne : ax ≠ I) (hn1 : x1 ≠ I) (items : Array Value) :
    Walks prog w A I [I, ax, x1] [I] items.size (fun i v => items[i]? = some v) (fun i h => h.IsListIter I ax i ∧ h.IsList ax items ∧ Plain0 x1 h) where
  sub := fun b hb => by simp at hb; simp [hb]
  frame := fun _ _ _ st hk => ⟨st.1.at fun o e => hk I (by simp) o e, st.2.1.at fun o e => hk ax (by simp) o e, by
    obtain ⟨o, vs, e, d, c⟩ := st.2.2
    exact ⟨o, vs, hk x1 (by simp) o e, d, c⟩⟩
  item := fun i s Q E hi st hQ => by
    refine wpAny_pyNext_list_item st.1 st.2.1 (x := items[i]) (by simp [hi]) fun h' hit' hs' => ?_
    refine hQ _ h' s.toks (by simp [hi]) ⟨hit', st.2.1.extBut hs'.extBut hne, ?_⟩ fun b o hb e => hs'.extBut b o (fun h => hb (by simp [h])) e
    obtain ⟨o, vs, e, d, c⟩ := st.2.2
    exact ⟨o, vs, hs'.extBut x1 o hn1 e, d, c⟩
  done := fun s Q E st hQ => next_end_hot hh st.2.2 hn1 st.1 st.2.1 (by simp) fun h' he' => hQ h' s.toks fun b o hb e => he' b o (fun h => hb (by simp [h])) e
  self := fun _ _ _ _ st hQ => wpAny_pyIter_listiter st.1 hQ
/-- sum of a list of ints -/
theorem sum_hot {x1 l : Addr} {xs : Array (Int × Tok)} {Q : Value → Shared → Prop} (hh : A.handled = some (.ref x1)) (hp : Plain0 x1 s.heap) (hl : s.heap.IsList l (intItems xs))
    (h : ∀ h' tk t', (∀ b o, s.heap.get? b = some o → h'.get? b = some o) → Q (.int (preSum (numAt xs) xs.size) t') { s with heap := h', toks := tk }) : wpAny (model prog w) A (call (.builtin "sum") [.ref l]) Q E s := by
  refine call_sum_walkG (iter_intList hl fun s2 e st hfp hlI => ?_)
  subst e
  obtain ⟨o1, vs1, h1, d1, c1⟩ := hp
  have hx1 : x1 < s.heap.objs.size := Heap.lt_size h1
  refine ⟨_, _, _, _, _, _, numAt xs, rfl, walks_hot (A := A.in1) hh _ l hlI (Nat.ne_of_lt hx1) (intItems xs), ⟨st.1, st.2, o1, vs1, Heap.get?_push_of_some _ h1, d1, c1⟩, fun b hb => ?_, (fun _ _ => intItems_at), fun h' tk t' hk => ?_⟩
  · rcases List.mem_cons.mp hb with e | hb
    · exact hfp b (by simp [e])
    · rcases List.mem_cons.mp hb with e | hb
      · exact hfp b (by simp [e])
      · have e : b = x1 := by simpa using hb
        rw [e]
        show x1 < (s.heap.push _).objs.size
        rw [Heap.size_push]
        exact Nat.lt_succ_of_lt hx1
  · have := h h' tk t' (old_kept hk)
    simpa [intItems] using this
end
end Dn


set_option Elab.async false
set_option linter.all false
set_option maxRecDepth 100000
set_option maxHeartbeats 4000000
namespace Dn
open PySem PySem.Spec PyProof.Rows L2
/-! ### list.index -/
def flatD : D → Bool
  | .non => true
  | .bl _ => true
  | .int _ => true
  | .str _ => true
  | _ => false
def eqFD : D → D → Bool
  | .non, .non => true
  | .bl a, .bl b => a == b
  | .bl a, .int b => (if a then 1 else 0) == b
  | .int a, .bl b => a == (if b then 1 else 0)
  | .int a, .int b => a == b
  | .str a, .str b => a == b
  | _, _ => false
def idxD (ds : List D) (y : D) : Res D := if flatD y = true ∧ ds.all flatD = true then (match ds.findIdx? (fun z => eqFD z y) with
  | some j => .ok (.int (j : Nat))
  | none => .stuck) else .stuck
def binL (g : List D → D → Res D) (fa fb : Sto → Res D) : Sto → Res D := fun δ => (fa δ).bind fun x => match x with
  | .lst l => (fb δ).bind (g l)
  | _ => .stuck
section
variable {T : List (Addr × Str)} {X : Cx} {W : Wi} {K : PySem.W.Frag} {mg : Str → Option Value}
theorem flat_rp {F : Hp} {v : V} {d : D} (r : Rp K mg F v d) : flatD d = true → flatV v = true := by
  cases r <;> intro h <;> first | rfl | cases h
theorem eqF_rp {F : Hp} {v u : V} {d e : D} (r : Rp K mg F v d) (q : Rp K mg F u e) (hd : flatD d = true) (he : flatD e = true) : eqV v u = eqFD d e := by
  cases r with
  | non => cases q <;> first | rfl | cases he
  | bl b => cases q <;> first | rfl | cases he
  | int i => cases q <;> first | rfl | cases he
  | @str x l h =>
    cases q with
    | @str y m h' =>
      subst h h'
      show (x == y) = (TL.tl x == TL.tl y)
      by_cases e : x = y
      · subst e; simp
      · have : ¬ TL.tl x = TL.tl y := fun z => e (TL.ext_tl z)
        rw [beq_eq_false_iff_ne.mpr e, beq_eq_false_iff_ne.mpr this]
    | _ => first | rfl | cases he
  | _ => cases hd
theorem all_flat {F : Hp} : ∀ {vs : List V} {ds : List D}, RpL K mg F vs ds → ds.all flatD = true → vs.all flatV = true
  | _, _, .nil, _ => rfl
  | _, _, .cons r t, h => by
    rw [List.all_cons, Bool.and_eq_true] at h ⊢
    exact ⟨flat_rp r h.1, all_flat t h.2⟩
theorem de_index {o e : Expr} {fo fe : Sto → Res D} {apos cpos : Pos} (ho : DE T X W o fo) (he : DE T X W e fe) (hbase : attributeBase o "index" X.env (eval o X.env) = eval o X.env := by rfl)
    (hfew : ((backTo cpos (starEach (e :: []) X.env)).all (fun x => !x.1) && (backToKw cpos (keywordEach [] X.env)).all (fun x => x.1.isSome) && decide ((e :: []).length + ([] : List Keyword).length + (if ([] : List Keyword).isEmpty then 0 else 1) < 30)) = true := by rfl)
    (hline : (apos.endLine == cpos.line) = true := by rfl) (hse : starEach (e :: []) X.env = (false, eval e X.env) :: starEach [] X.env := by rfl) (hplain : (backTo cpos (starEach [] X.env)).any (·.1) = false := by rfl) :
    DE T X W (.Call (.Attribute o "index" apos) [e] [] cpos) (binL idxD fo fe) :=
  weakE (pe_bm PySem.F.plainAttrs_list PySem.F.slot_list_index PySem.F.type_list_index mt_index ho (pa_cons he pa_nil hse) hbase hfew hline hse hplain) fun σ H Q ⟨F, δ, L, h⟩ => bindE ppE L h fun x v F1 H1 s1 L1 r1 h1 => by
    cases x with
    | lst ds =>
      obtain ⟨p, us, rfl, e1, q⟩ := r1.lst_inv
      refine ⟨.inl ⟨rfl, us, .of (L1.sub _ _ e1)⟩, bindE ppE L1 h1 fun y u F2 H2 s2 L2 r2 h2 => ?_⟩
      unfold idxD at h2
      obtain ⟨⟨hf, ha⟩, h2'⟩ := PostE.ite h2
      clear h2
      split at h2'
      · rename_i j ej
        have e2 := s2.r.lst e1
        have q2 := q.mono s2.r
        have hj : j < ds.length := List.findIdx?_eq_some_iff_findIdx_eq.mp ej |>.1
        obtain ⟨w, ew, rw'⟩ := q2.get1 (List.getElem?_eq_getElem hj)
        have fl : ∀ {m : Nat} {d : D}, ds[m]? = some d → flatD d = true := fun {m d} z => List.all_eq_true.mp ha d (List.mem_of_getElem? z)
        obtain ⟨hjl, hjt, hjn⟩ := List.findIdx?_eq_some_iff_getElem.mp ej
        refine ⟨p, us, u, j, w, rfl, rfl, .of (L2.sub _ _ e2), flat_rp r2 hf, all_flat q2 ha, ew, ?_, fun m z' hm hz => ?_, h2'.here L2.gd (.int _)⟩
        · rw [eqF_rp rw' r2 (fl (List.getElem?_eq_getElem hj)) hf]
          exact hjt
        · have hml : m < ds.length := by omega
          have rz := q2.get hz (List.getElem?_eq_getElem hml)
          rw [eqF_rp rz r2 (fl (List.getElem?_eq_getElem hml)) hf]
          have := hjn m hm
          simpa using this
      · exact h2'.elim
    | _ => exact (show False from h1).elim
/-! ### while an error is handled -/
structure HotE (X : Cx) (a C : Addr) (oe : Obj) : Prop where
  hd : X.A.handled = some (.ref a)
  pin : (a, oe) ∈ X.pn
  zn : L2N.Zn (.ref C) none oe
  fld : ∃ vs, oe.data = .fields vs
variable {a C : Addr} {oe : Obj}
theorem HotE.get (h : HotE X a C oe) {pins : List (Addr × Obj)} {σ : L2.St} {H : Hp} {s : Shared} (I : Inv X pins σ H s) : s.heap.get? a = some oe := (I.pin (a, oe) (List.mem_append_left _ h.pin)).1
theorem HotE.plain (h : HotE X a C oe) {pins : List (Addr × Obj)} {σ : L2.St} {H : Hp} {s : Shared} (I : Inv X pins σ H s) : Plain0 a s.heap := by
  obtain ⟨vs, e⟩ := h.fld
  exact ⟨oe, vs, h.get I, e, h.zn.2.2 vs e⟩
theorem call_isH (hx : HotE X a C oe) (c : ExcC X.K C) : CallR X (.builtin "isinstance") (rIsE X.K C a) := by
  intro pins s σ H xs us Q I r h
  obtain ⟨v, cv, b, rfl, hcv, e, q⟩ := h
  obtain ⟨u1, u2, rfl, r1, r2⟩ := vals2 r
  cases r1
  have ec := hcv _ r2
  subst ec
  obtain ⟨vs, hv⟩ := hx.fld
  have J : PySem.W.InstAt s.heap a oe C none := by
    have hg := hx.get I
    have h1 := hx.zn.1
    have h2 := hx.zn.2.1
    clear hx
    obtain ⟨oc, od, oda, osl⟩ := oe
    dsimp only at h1 h2 hv
    subst h1 h2 hv
    exact ⟨hg, rfl, rfl, trivial⟩
  exact PySem.W.kia_one (PySem.W.handS_kitx_exc c.hg c.hk c.hs c.hd c.ha c.hn c.ht c.hm) I.kIn J e (fun z => nomatch z) fun tk => ⟨.bl b, H, I.kept (t' := tk) fun _ _ z => z, rfl, q⟩
theorem cr_sumH (hx : HotE X a C oe) : CallR X (.builtin "sum") (rSum X.K) := by
  intro pins s σ H vs us Q I r h
  obtain ⟨l, ns, rfl, hs, q⟩ := h
  obtain ⟨its, rv, hl, _⟩ := I.list hs
  have e := Vals.ref1 r
  subst e
  have hi : IntsAre its ns := intsAre_of rv
  obtain ⟨xs, e⟩ := hi.allInts.items
  have hn : numsOf (intItems xs).toList = ns := by rw [← e]; exact hi.numsOf
  rw [nums_intItems] at hn
  have hl' : s.heap.IsList l (intItems xs) := by rw [← e]; exact hl.isList
  refine sum_hot hx.hd (hx.plain I) hl' fun h' tk t' hk => ?_
  rw [preSum_eq, List.take_of_length_le (by simp), hn]
  exact ⟨.int ns.sum, H, I.kept hk, ⟨t', rfl⟩, q⟩
def isH (i : Nat) (a : Addr) (b : Bool) : Sto → Res D := fun δ => match δ[i]? with
  | some (.val (.opq a')) => if a' = a then .ok (.bl b) else .stuck
  | _ => .stuck
theorem isH_read {i : Nat} {b : Bool} {v : V} {cv : Value} {σ : L2.St} {H : Hp} {Q : VK} (hcv : ∀ u, RelV v u → u = cv) (e : PySem.W.kitOne K (.ref C) cv = some b) (h : tD K mg T W (isH i a b) σ H Q) : tCB (rIsE K C a) (tCons (tVar i) (tCons (tC v) tNil)) σ H Q := by
  obtain ⟨F, δ, L, h⟩ := h
  unfold isH at h
  split at h
  · rename_i a' ea
    obtain ⟨hc, h'⟩ := PostE.ite h
    clear h
    obtain ⟨ov, q, w, rfl, r⟩ := L.slot i _ ea
    cases r
    subst hc
    exact ⟨_, q, v, cv, b, rfl, hcv, e, h'.here L.gd (.bl b)⟩
  · exact h.elim
/-- isinstance(e, C2), C2 a class of the module's -/
theorem de_isO {x y : Str} {i : Nat} {b : Bool} {C2 : Addr} {p p1 p2 pos : Pos} (hx : HotE X a C oe) (c : ExcC X.K C) (hm : X.mg "isinstance" = none) (hy : X.mg y = some (.ref C2)) (e : PySem.W.kitOne X.K (.ref C) (.ref C2) = some b)
    (hN : X.N[i]? = some x := by rfl) (hv : Vis X.env.scope x := by first | exact Or.inl rfl | exact Or.inr (Or.inl rfl) | exact Or.inr (Or.inr rfl)) (hg : Gl X "isinstance" := by rfl) (hgy : Gl X y := by rfl) (hd : (x == ("__debug__" : Str)) = false := by decide) (hcd : (x == ("__classdict__" : Str)) = false := by decide) (hdy : (y == ("__debug__" : Str)) = false := by decide) :
    DE T X W (.Call (.Name "isinstance" p) [.Name x p1, .Name y p2] [] pos) (isH i a b) :=
  weakE (pe_callB (call_isH hx c) hg hm (by decide +kernel) (pa_cons (pe_var (i := i) hN hv hd hcd) (pa_cons (pe_glob (v := .ref C2) hgy hy rfl hdy) pa_nil))) fun σ H Q h => isH_read (cv := .ref C2) (fun u r => r) e h
/-- isinstance(e, T), T a built-in class -/
theorem de_isB {x y : Str} {i : Nat} {b : Bool} {n : String} {p p1 p2 pos : Pos} (hx : HotE X a C oe) (c : ExcC X.K C) (hm : X.mg "isinstance" = none) (hy : X.mg y = none) (hb : bootBuiltins y = some (.type n)) (e : PySem.W.kitOne X.K (.ref C) (.type n) = some b)
    (hN : X.N[i]? = some x := by rfl) (hv : Vis X.env.scope x := by first | exact Or.inl rfl | exact Or.inr (Or.inl rfl) | exact Or.inr (Or.inr rfl)) (hg : Gl X "isinstance" := by rfl) (hgy : Gl X y := by rfl) (hd : (x == ("__debug__" : Str)) = false := by decide) (hcd : (x == ("__classdict__" : Str)) = false := by decide) (hdy : (y == ("__debug__" : Str)) = false := by decide) (hny : y ≠ "__name__" := by decide) :
    DE T X W (.Call (.Name "isinstance" p) [.Name x p1, .Name y p2] [] pos) (isH i a b) :=
  weakE (pe_callB (call_isH hx c) hg hm (by decide +kernel) (pa_cons (pe_var (i := i) hN hv hd hcd) (pa_cons (pe_bltn (v := .ty n) hgy hy hb rfl hny hdy) pa_nil))) fun σ H Q h => isH_read (cv := .type n) (fun u r => r) e h
/-- a new object, its place free -/
theorem inv_laid {pins : List (Addr × Obj)} {σ : L2.St} {H : Hp} {s : Shared} {h' : Heap} {p : Addr} {o : HO} {t' : Nat} (I : Inv X pins σ H s) (k : ∀ b u, s.heap.get? b = some u → h'.get? b = some u) (hp : s.heap.get? p = none) (new : ObjOk X.prog X.w (upd H p o) h' p o) : Inv X pins σ (upd H p o) { s with heap := h', toks := t' } := by
  have hn : H p = none := I.hok.gone hp
  have ne : ∀ b u, s.heap.get? b = some u → b ≠ p := fun b u e z => by rw [z, hp] at e; cases e
  refine I.un ⟨fun b u q _ _ _ => k b u q, fun b u q _ _ _ => ⟨u.slots, k b u q⟩, fun b u q n _ => by rw [upd_ne (ne b u q)]; exact n, fun b u q _ => ⟨u, k b u q⟩, fun b xs q => by rw [upd_ne (ne_of_none q hn)]; exact q, fun b u xs q => by rw [upd_ne (ne_of_none q hn)]; exact q, fun b ps q => ⟨#[], by rw [upd_ne (ne_of_none q hn), q]; simp⟩⟩ fun b u e => ?_
  by_cases hb : b = p
  · subst hb; rw [upd_same] at e; cases e; exact new
  · rw [upd_ne hb] at e
    exact (I.hok b u e).stay (fun c v _ q => k c v q) (fun c q => by rw [upd_ne (ne_of_none q hn)]; exact q) fun c xs q => by rw [upd_ne (ne_of_none q hn)]; exact q
def bI (b : Bool) : Int := if b then 1 else 0
def lcH (fi : Sto → Res D) : Sto → Res (List D) := fun δ => (fi δ).bind fun d => match d with
  | .lst ds => (match boolsO ds with
    | some bs => if bs.length ≤ line then .ok (bs.map fun b => .int (bI b)) else .stuck
    | none => .stuck)
  | _ => .stuck
theorem paired_bools {bs : List Bool} {ys : List Value} (h : Paired (fun (v : Value) (y : Value) => ∃ b t, v = .bool b ∧ y = .int (bI b) t) (bs.map Value.bool) ys) : Vals (bs.map fun b => V.int (bI b)) ys := by
  induction bs generalizing ys with
  | nil => cases h; exact .nil
  | cons b bs ih =>
    cases h with
    | cons h t =>
      obtain ⟨b', tk, e1, e2⟩ := h
      cases e1
      exact .cons ⟨tk, e2⟩ (ih t)
theorem rpl_ints {F : Hp} : ∀ ns : List Int, RpL K mg F (ns.map V.int) (ns.map D.int)
  | [] => .nil
  | n :: ns => .cons (.int n) (rpl_ints ns)
/-- [int(x) for x in flags], flags a list of bools -/
theorem dl_lcH {x : Str} {iter : Expr} {scope : Scope} {fi : Sto → Res D} {p1 p2 p3 p4 pos : Pos} (hx : HotE X a C oe) (hm : X.mg "int" = none) (hi : DE T X W iter fi)
    (hfree : ∀ y ∈ scope.names, y.2 ≠ .free) (hcell : ∀ y ∈ scope.names, y.2 ≠ .cell) (hkind : scope.kind = .function) (hnames : ∀ y ∈ scope.names, y.2 = .local → scope.names.lookup y.1 = some .local) (hxl : scope.names.lookup x = some .local) (hgl : scope.names.lookup ("int" : Str) = some .globalImplicit) (hd : (x == ("__debug__" : Str)) = false)
    (hs : ∀ x, foldedSetIterable iter X.env x = pure x := by intro _; rfl) :
    DL T X W (.ListComp (.Call (.Name "int" p1) [.Name x p2] [] p3) [⟨.Name x p4, iter, [], 0⟩] scope pos) (lcH fi) := by
  refine ⟨fun pins s σ H Q I h => ?_⟩
  obtain ⟨F, δ, L, h⟩ := h
  unfold lcH at h
  refine wpAny_ListComp_walk (fun _ => true) (fun v y => ∃ b t, v = .bool b ∧ y = .int (bI b) t) hfree hcell hkind hnames hxl (thn (hi.run pins s σ H _ I (bindE ppL L h (Q' := fun v H1 => ∃ (F1 : Hp) (l : Addr) (bs : List Bool), v = .ref l ∧ Step T F H F1 H1 ∧ Lcl X.K X.mg T F1 H1 σ δ ∧ F1 l = some (.lst (bs.map V.bl)) ∧ bs.length ≤ line ∧ PostL X.K X.mg T F1 H1 W Q (.ok (bs.map fun b => .int (bI b)))) fun d v F1 H1 s1 L1 r1 h1 => ?_)) fun u s1 hh => ?_) hs
  · cases d with
    | lst ds =>
      dsimp only at h1
      split at h1
      · rename_i bs eb
        obtain ⟨l, us, rfl, e1, q⟩ := r1.lst_inv
        rw [bools_eq eb] at q
        have eu := q.bls
        subst eu
        by_cases hl : bs.length ≤ line
        · rw [if_pos hl] at h1
          exact ⟨F1, l, bs, rfl, s1, L1, e1, hl, h1⟩
        · rw [if_neg hl] at h1; exact h1.elim
      · exact h1.elim
    | _ => exact (show False from h1).elim
  · obtain ⟨v, H1, I1, rv, F1, l, bs, rfl, st1, L1, e1, hl, h1⟩ := hh
    obtain rfl : u = Value.ref l := rv
    obtain ⟨its, vr, pl, _⟩ := I1.list (SqL.of (L1.sub _ _ e1))
    have ei := Vals.bls vr
    subst ei
    refine wpAny_pyIter_list pl.isList ?_
    have hp := hx.plain I1
    obtain ⟨o1, vs1, g1, d1, c1⟩ := id hp
    have ha : a < s1.heap.objs.size := Heap.lt_size g1
    have hll : l < s1.heap.objs.size := by
      obtain ⟨o, n, e, _⟩ := pl
      exact Heap.lt_size e
    have old : ∀ b o, s1.heap.get? b = some o → b ∉ [s1.heap.objs.size] := fun b o e z => by
      have z' : b = s1.heap.objs.size := by simpa using z
      rw [z'] at e
      exact Nat.lt_irrefl _ (Heap.lt_size e)
    refine ⟨_, _, _, _, _, _, rfl, walks_hot hx.hd s1.heap.objs.size l (Nat.ne_of_lt hll) (Nat.ne_of_lt ha) (bs.map Value.bool).toArray, ?_, ⟨⟨_, Heap.get?_push_size _ rfl, rfl, rfl⟩, pl.isList.push _, o1, vs1, Heap.get?_push_of_some _ g1, d1, c1⟩, fun b hb => ?_, ⟨fun C' i v s3 m3 E' _ _ _ _ _ => ?_, fun C' i v s3 m3 E' hv _ hn hmx hk _ => ?_⟩, fun D' h' tk ys vs hD _ hpl hlen hP hF hk => ?_⟩
    · simp only [List.size_toArray, List.length_map]
      exact Nat.le_trans hl line_le
    · show b < (s1.heap.push _).objs.size
      rw [Heap.size_push]
      rcases List.mem_cons.mp hb with e | hb
      · rw [e]; exact Nat.lt_succ_self _
      · rcases List.mem_cons.mp hb with e | hb
        · rw [e]; exact Nat.lt_succ_of_lt hll
        · have e : b = a := by simpa using hb
          rw [e]; exact Nat.lt_succ_of_lt ha
    · show wpAny _ _ (pure true) _ _ _
      exact wpAny_pure ⟨rfl, _, _, rfl, fun _ _ e => e⟩
    · -- int(x)
      obtain ⟨b, rfl⟩ : ∃ b, v = Value.bool b := by
        have hv' : ((bs.map Value.bool).toArray)[i]? = some v := hv
        rw [List.getElem?_toArray, List.getElem?_map] at hv'
        cases e : bs[i]? with
        | none => rw [e] at hv'; cases hv'
        | some b => rw [e] at hv'; cases hv'; exact ⟨b, rfl⟩
      have keep : ∀ c o, s1.heap.get? c = some o → s3.heap.get? c = some o := fun c o e => hk c o (old c o e) (Heap.get?_push_of_some _ e)
      obtain ⟨mb, hb1, hb2⟩ := I1.mod.blt
      have kx : (compEnv scope C' X.env).scope.kind = .function := hkind
      refine Call_ (Calls.Name_function_global kx hgl (Calls.loadGlobal_builtin (v := .type "int") (mg := X.mg) (mb := mb) ?_ hm ?_ ?_ ?_) (by decide))
      · show s3.heap.Ns X.env.globals X.mg
        rw [I1.ok.glob]
        exact I1.mod.glob.keeps fun c o e => keep c o (I1.bk c o e)
      · show s3.heap.Ns X.env.builtins mb
        rw [I1.ok.blt]
        exact hb1.keeps fun c o e => keep c o (I1.bk c o e)
      · exact (hb2 "int" (by decide)).trans boot_int
      · refine PyProof.Rows.callWith_type1 (Calls.spliced_cons (wpAny_Name (wpAny_loadName_local kx hxl hn hmx (Calls.spliced_nil ?_)) hd)) rfl rfl
        exact call_int_bool ⟨⟨b, _, rfl, rfl⟩, _, _, rfl, fun _ _ e => e⟩
    · have hD1 : s1.heap.get? D' = none := by
        cases e : s1.heap.get? D' with
        | none => rfl
        | some o => rw [Heap.get?_push_of_some _ e] at hD; cases hD
      have ev : vs = bs.map Value.bool := by
        refine List.ext_getElem? fun i => ?_
        by_cases hi : i < vs.length
        · have z := hP i vs[i] (List.getElem?_eq_getElem hi)
          rw [List.getElem?_toArray] at z
          rw [z, List.getElem?_eq_getElem hi]
        · rw [List.getElem?_eq_none (by omega), List.getElem?_eq_none]
          simp only [List.size_toArray] at hlen
          omega
      subst ev
      rw [List.filter_eq_self.mpr (fun _ _ => rfl)] at hF
      have hv := paired_bools hF
      have kk : ∀ b u, s1.heap.get? b = some u → h'.get? b = some u := fun b u e => hk b u (old b u e) (Heap.get?_push_of_some _ e)
      have lz : (bs.map fun b => V.int (bI b)).length ≤ sizeLine := by rw [List.length_map]; exact Nat.le_trans hl line_le
      have J := inv_laid (p := D') (o := .lst (bs.map fun b => V.int (bI b))) (t' := tk) (h' := h') I1 kk hD1 ⟨lz, ys.toList, hpl.choose, hv, by simpa using hpl.choose_spec⟩
      have hHD : H1 D' = none := I1.hok.gone hD1
      refine ⟨.ref D', _, J, rfl, h1 D' (bs.map fun b => V.int (bI b)) F1 _ (.of hHD) (Step.junk L1.gd hHD) (L1.sub.none hHD) upd_same ?_⟩
      have e2 : (bs.map fun b => V.int (bI b)) = (bs.map bI).map V.int := by simp
      have e3 : (bs.map fun b => D.int (bI b)) = (bs.map bI).map D.int := by simp
      rw [e2, e3]
      exact rpl_ints _
end
end Dn


set_option Elab.async false
set_option linter.all false
set_option maxRecDepth 100000
set_option maxHeartbeats 4000000
namespace Dn
open PySem PySem.Spec PyProof.Rows L2
/-! ### the program's errors -/
structure ExcOk (K : PySem.W.Frag) (mg : Str → Option Value) (CT : Addr) (x : Str) (C : Addr) : Prop where
  g : mg x = some (.ref C)
  xin : PySem.W.excIn K C [.type "ValueError", .type "Exception", .type "BaseException", .type "object"] "ValueError.__new__" = true
  kp : PySem.W.keepIn K (.ref C) = true
  sb : PySem.W.subIn K (.ref C) (.type "BaseException") = some true
  ty : PySem.W.typeIn K (.ref C) = some (.type "type")
  c : ExcC K C
  ve : PySem.W.kitOne K (.ref C) (.type "ValueError") = some true
  te : PySem.W.exmOne K (.ref C) (.ref CT) = some true
def exc7 : List Str := ["BadNumber", "BadBits", "BadPlace", "BadText", "BadCode", "BadTree", "TooMany"]
structure ExcTab (K : PySem.W.Frag) (mg : Str → Option Value) (CT : Addr) (cs : List Addr) : Prop where
  gT : mg "TerseError" = some (.ref CT)
  len : cs.length = 7
  each : ∀ (i : Nat) x C, exc7[i]? = some x → cs[i]? = some C → ExcOk K mg CT x C
  kit : ∀ (i j : Nat) C C', cs[i]? = some C → cs[j]? = some C' → PySem.W.kitOne K (.ref C) (.ref C') = some (i == j)
/-! ### the law's own word for an error -/
/-- ints alone -/
def neI : D → D → Res D
  | .int i, .int j => .ok (.bl (!decide (i = j)))
  | _, _ => .stuck
theorem r_neI {K : PySem.W.Frag} {mg : Str → Option Value} {T : List (Addr × Str)} : R2D K mg T rNe neI := by
  intro F H v u x y W Q gd r1 r2 h
  cases r1 <;> cases r2 <;> first | exact (show False from h).elim | skip
  rename_i i j
  have e : decide (V.int i = V.int j) = decide (i = j) := by
    by_cases hh : i = j
    · rw [hh, decide_eq_true rfl, decide_eq_true rfl]
    · rw [decide_eq_false hh, decide_eq_false (fun z => hh (V.int.inj z))]
  refine ⟨rfl, ?_⟩
  rw [e]
  exact PostE.here h gd (.bl _)
def wordD (a : Addr) (b : Nat → Bool) (bv : Bool) : Sto → Out :=
  seqS (asg 1 (app mkL (consA (isH 0 a (b 0)) (consA (isH 0 a (b 1)) (consA (isH 0 a (b 2)) nilA)))))
  (seqS (asg 1 (bin addD (vr 1) (app mkL (consA (isH 0 a (b 3)) nilA))))
  (seqS (asg 1 (bin addD (vr 1) (app mkL (consA (isH 0 a (b 4)) (consA (isH 0 a (b 5)) (consA (isH 0 a (b 6)) nilA))))))
  (seqS (ifS (orT (tst (bin neI (app sumD (consA (lstE (lcH (vr 1))) nilA)) (cst (.int 1)))) (notT (tst (isH 0 a bv)))) (retS (cst (.str [111, 116, 104, 101, 114]))) nopS)
  (retS (bin ixD (app mkL (consA (cst (.str (TL.tl "BadNumber"))) (consA (cst (.str (TL.tl "BadBits"))) (consA (cst (.str (TL.tl "BadPlace"))) (consA (cst (.str (TL.tl "BadText"))) (consA (cst (.str (TL.tl "BadCode"))) (consA (cst (.str (TL.tl "BadTree"))) (consA (cst (.str (TL.tl "TooMany"))) nilA))))))))
    (binL idxD (vr 1) (cst (.bl true))))))))
theorem word_is (a : Addr) (j : Nat) (x : Str) (h : exc7[j]? = some x) : wordD a (fun i => j == i) true [.val (.opq a), .no] = .rt (.str (TL.tl x)) := by
  have hj : j < 7 := (List.getElem?_eq_some_iff.mp h).1
  have isv : ∀ (δ : Sto) b, δ[0]? = some (.val (.opq a)) → isH 0 a b δ = .ok (.bl b) := fun δ b e => by
    unfold isH
    rw [e]
    exact if_pos rfl
  rcases (show j = 0 ∨ j = 1 ∨ j = 2 ∨ j = 3 ∨ j = 4 ∨ j = 5 ∨ j = 6 by omega) with rfl | rfl | rfl | rfl | rfl | rfl | rfl <;> cases h <;>
    simp [wordD, seqS, asg, app, consA, nilA, isv, mkL, bin, vr, addD, ifS, orT, tst, lstE, lcH, boolsO, bI, sumD, intsO, cst, neI, notD, asB, notT, nopS, retS, binL, idxD, flatD, eqFD, ixD, atI, ixN, List.findIdx?, List.findIdx?.go, line]
section
variable {P : Program} {w : World} {K : PySem.W.Frag} {mg : Str → Option Value} {base : Heap} {stW : Stmt} {fW : Addr} {fdW : FuncData}
/-- _law_word called on the handled error -/
theorem word_run {A : Around} {outer : List Env} {s : Shared} {H F : Hp} {p : Addr × Obj} {Q : VK} {E : XK} {k : Nat} {fb : Sto → Out} {l : List Nat} {x q : Str} (Fn : Fun K x q stW fW fdW) (S : FnScope ["e", "flags"] ["e"] (defScope stW)) (hb : Binds K fdW ["e"] [])
    (hW : ∀ (cdv : Value), DSs [] (L2H.cxH (L2N.CX P w) P w K mg base ["e", "flags"] q (defScope stW) fW cdv A outer s H E p) WF (defBody stW) fb)
    (hr : L2H.RoomH (k + 1) A) (hpin : L2H.PinOk outer H s p) (e0 : Env0 P w K mg base A outer s H) (gd : Gd [] F H) (hf : fb [.val (.opq p.1), .no] = .rt (.str l)) (hq : ∀ v F' H', Step [] F H F' H' → Rp K mg F' v (.str l) → Q v H') :
    codeAny (model P w) A (.call (.ref fW) ⟨[.ref p.1], []⟩) (CR (L2N.CX P w) outer P w H s Q E) s := by
  obtain ⟨oc, od, kV, doc, pm, an, cdv, ct, osl, rfl, lk, hcd⟩ := Fn.ex
  have KX : K.In s.heap := e0.mod.kin.keeps fun b o e => (e0.bs b o e).1
  have lim : s.heap.NoLimit := e0.mod.nolimit.keeps fun b o e => (e0.bs b o e).1
  have hbd := hb s [.ref p.1] KX rfl
  have hkind : ∀ y ∈ (["e"] : List Str).zip [Value.ref p.1], (defScope stW).names.lookup y.1 = some .local ∨ ((defScope stW).names.lookup y.1 = some .cell ∧ ((cellsFrom (s.heap.objs.size + 1) (defScope stW).names []).lookup y.1).isSome = true) := fun ⟨n, v⟩ hy => by
    rcases S.par n (List.of_mem_zip hy).1 with z | z
    · exact .inl z
    · exact .inr ⟨z, PySem.W.cellsFrom_some _ _ _ (.inl z)⟩
  refine codeAny_call_function hr.depth (KX _ _ lk) rfl S.co S.gen rfl (PySem.W.codeRec_of KX hcd) (hbd _ _ _ _ ?_)
  refine wpAny_newFunctionEnv_cells S.kind hkind fun env he s1 y => ?_
  subst he
  refine ⟨lim.keeps y.toInCall.keep, codeAny_func ?_⟩
  have I := L2H.inv_startH (CX := L2N.CX P w) (E := E) (us := [.ref p.1]) (vs := [.ref p.1]) S hpin e0 rfl (.cons rfl .nil) y
  have st0 : StR K mg [] F (H, 0) F H (L2.start ["e", "flags"] [.ref p.1]) [.val (.opq p.1), .no] := start_slots (N := ["e", "flags"]) (ds := [.opq p.1]) (.cons (.opq _) .nil) gd (n := 1) (m := 1) rfl rfl
  refine wpAny_mono ((hW cdv).run [] s1 (L2.start ["e", "flags"] [.ref p.1]) H { nx := fun _ H' => Q .non H', rt := Q } I ⟨F, (H, 0), F, _, st0, by rw [hf]; exact hq⟩) (fun fl s' hs => ?_) fun e s' hs => hs
  have fin : ∀ {σ' : L2.St} {H' : Hp} {v : V} {u : Value}, Inv (L2H.cxH (L2N.CX P w) P w K mg base ["e", "flags"] q (defScope stW) fW cdv A outer s H E p) [] σ' H' s' → RelV v u → Q v H' → CE outer P w H s Q u s' := fun {σ' H' v u} J rv z => ⟨v, H', J.os, J.bare, J.base, J.hok, rv, z⟩
  cases fl with
  | ret u =>
    obtain ⟨v, σ', H', J, rv, z⟩ := hs
    exact fin J rv z
  | next =>
    obtain ⟨σ', H', J, z⟩ := hs
    exact fin (v := V.non) (u := Value.none) J rfl z
  | brk => obtain ⟨_, _, _, z⟩ := hs; exact z.elim
  | cont => obtain ⟨_, _, _, z⟩ := hs; exact z.elim
end
/-- what the suite's word asks -/
def tWord (i : Nat) (a : Addr) (K : PySem.W.Frag) (mg : Str → Option Value) (l : List Nat) : TE := fun σ H Q => σ[i]? = some (some (.ref a)) ∧ ∃ F, Gd [] F H ∧ ∀ v F' H', Step [] F H F' H' → Rp K mg F' v (.str l) → Q v H'
section
variable {X : Cx} {stW : Stmt} {fW : Addr} {fdW : FuncData}
theorem pe_word {x y q : Str} {a C : Addr} {oe : Obj} {pn : List (Addr × Obj)} {i k : Nat} {p1 p2 pos : Pos} {l : List Nat} {fb : Sto → Out} (hz : L2N.Zn (.ref C) none oe) (hfd : ∃ vs, oe.data = .fields vs) (Fn : Fun X.K x q stW fW fdW) (S : FnScope ["e", "flags"] ["e"] (defScope stW)) (hb : Binds X.K fdW ["e"] [])
    (hW : ∀ (cdv : Value) (A : Around) (outer : List Env) (s : Shared) (H : Hp) (E : XK), HotE (L2H.cxH (L2N.CX X.prog X.w) X.prog X.w X.K X.mg X.base ["e", "flags"] q (defScope stW) fW cdv A outer s H E (a, oe)) a C oe →
      DSs [] (L2H.cxH (L2N.CX X.prog X.w) X.prog X.w X.K X.mg X.base ["e", "flags"] q (defScope stW) fW cdv A outer s H E (a, oe)) WF (defBody stW) fb)
    (hf : fb [.val (.opq a), .no] = .rt (.str l)) (hr : L2H.RoomH (k + 1) (X.suite a ((a, oe) :: pn)).A) (hm : X.mg x = some (.ref fW)) (hN : X.N[i]? = some y) (hv : Vis X.env.scope y) (hg : Gl X x := by rfl) (hdb : (x == ("__debug__" : Str)) = false := by decide) (hd : (y == ("__debug__" : Str)) = false := by decide) (hcd : (y == ("__classdict__" : Str)) = false := by decide) :
    PE (X.suite a ((a, oe) :: pn)) (.Call (.Name x p1) [.Name y p2] [] pos) (tWord i a X.K X.mg l) := by
  refine ⟨fun pins s σ H Q I h => ?_⟩
  obtain ⟨hs, F, gd, hq⟩ := h
  refine wpAny_Call_Name_kw (ld_glob (X := X.suite a ((a, oe) :: pn)) I hg hm ?_ hdb)
  have ha : PA (X.suite a ((a, oe) :: pn)) [.Name y p2] (tCons (tVar i) tNil) := pa_cons (pe_var (i := i) hN hv hd hcd) pa_nil
  refine PySem.W.callWith_K (h₀ := X.base) I.ok.mod.kin Fn.kp (thn (ha.run pos pins s σ H (fun vs H1 => vs = [V.ref a] ∧ H1 = H) I ⟨_, hs, rfl, rfl⟩) fun us s1 ⟨vs, H1, I1, r, ev, eH⟩ => ⟨I1.kIn, ?_⟩) rfl rfl
  subst ev
  subst eH
  have eu := Vals.ref1 r
  subst eu
  have P1 := I1.pin (a, oe) (List.mem_append_left _ List.mem_cons_self)
  have hpin : L2H.PinOk X.stack H1 s1 (a, oe) := ⟨P1.1, P1.2.1, fun hm => (List.mem_cons.mp (I1.stkSub a hm)).elim P1.2.2.1 P1.2.2.2.1, P1.2.2.2.2⟩
  have hot : (X.suite a ((a, oe) :: pn)).A.handled = some (.ref a) := rfl
  refine wpAny_call (codeAny_mono (word_run (base := X.base) (p := (a, oe)) (E := fun _ _ _ => False) Fn S hb (fun cdv => hW cdv _ _ _ _ _ ⟨hot, List.mem_cons_self, hz, hfd⟩) hr hpin I1.env0 gd hf hq) fun rr s' hh => ?_)
  cases rr with
  | error e =>
    obtain ⟨_, _, _, _, _, _, _, _, _, _, _, _, z⟩ := hh
    exact z.elim
  | ok fl =>
    cases fl with
    | ret u => exact I1.after hh
    | next => exact False.elim hh
    | brk => exact False.elim hh
    | cont => exact False.elim hh
end
/-! ### told: a lambda handed to the law's own catcher -/
/-- the lambda's body, entered from told -/
abbrev lamN (X : Cx) (A : Around) (outer : List Env) (s : Shared) (H : Hp) (E : XK) (scope : Scope) (f c' : Addr) : Cx :=
  (LamX.lamCx X A outer s H E scope f c').wish fun e s' => wpAny (model X.prog X.w) (A.deeper (LamX.lamEnv X scope s.heap.objs.size f c')) (leaving (LamX.lamEnv X scope s.heap.objs.size f c') e) (fun _ s'' => L2N.CX X.prog X.w outer H s E e s'') (fun e' s'' => L2N.CX X.prog X.w outer H s E e' s'') s'
section
variable {X : Cx} {pins : List (Addr × Obj)} {σ : L2.St} {H : Hp} {s : Shared}
/-- the catcher's context -/
abbrev cxT (X : Cx) (Ng : List Str) (x : Str) (sg : Scope) (g : Addr) (cdg : Value) (s : Shared) (H : Hp) : Cx := (cxOf L2.CX0 X.prog X.w X.K X.mg X.base Ng x sg g cdg X.A X.stack s H L2.E0).nox
/-- deed(), in the catcher -/
theorem pe_deed {Ng : List Str} {qg : Str} {sg : Scope} {g f c' : Addr} {cdg pm ctv : Value} {params : Arguments} {body : Expr} {scope : Scope} {k i : Nat} {a : Str} {pn : List (Addr × Obj)} {xe : Value → Shared → Prop} {W : WX} {E : XK} {tb : TE} {p1 p2 : Pos}
    (I : Inv X pins σ H s) (Ls : LamX.LamS X.env.scope scope) (hf : s.heap.get? f = some (PySem.W.kla_obj "<lambda>" (X.env.qual ++ "<lambda>") params body scope (cloFrom X.env.cells scope.names []) pm c' ctv)) (hfn : H f = none) (hfr : f ∉ frs X.stack)
    (hbind : bindArgs (PySem.W.kla_fn "<lambda>" (X.env.qual ++ "<lambda>") params body scope (cloFrom X.env.cells scope.names []) pm (.ref c') ctv) ⟨[], []⟩ = pure [])
    (tk : L2N.Takes ((cxT X Ng qg sg g cdg s H).tr pn xe) W) (hW : ∀ cls d (σ' : L2.St) H', σ'.length = Ng.length → E cls d H' → W cls d σ' H') (hr : Room (k + 1) (X.A.deeper (envOfC qg sg s.heap.objs.size g cdg)))
    (hbody : ∀ (A : Around) (outer : List Env) (s : Shared) (H : Hp), Room k (A.deeper (LamX.lamEnv X scope s.heap.objs.size f c')) → PE (lamN X A outer s H E scope f c') body tb)
    (hN : Ng[i]? = some a) (hv : Vis sg a) (hd : (a == ("__debug__" : Str)) = false := by decide) (hcd : (a == ("__classdict__" : Str)) = false := by decide) :
    PE ((cxT X Ng qg sg g cdg s H).tr pn xe) (.Call (.Name a p1) [] [] p2) (fun σZ HZ Q => σZ[i]? = some (some (.ref f)) ∧ HZ c' = some (LamX.CodeO c' (X.env.qual ++ "<lambda>")) ∧ tb σ HZ Q) := by
  refine ⟨fun pinsZ sZ σZ HZ Q IZ h => ?_⟩
  obtain ⟨hs, hc, ht⟩ := h
  refine wpAny_Call_Name_kw (thn ((pe_var (pos := p1) (i := i) hN hv hd hcd).run pinsZ sZ σZ HZ (fun v H1 => v = .ref f ∧ H1 = HZ) IZ ⟨.ref f, hs, rfl, rfl⟩) fun u s1 ⟨v, H1, I1, r1, ev, eH⟩ => ?_)
  subst ev
  rw [eH] at I1
  obtain rfl : u = Value.ref f := r1
  have of1 := I1.base.keep f _ hf hfn hfr (fun z => nomatch (show f ∈ ([] : List Addr) from z))
  refine PySem.W.callWith_F0 ⟨_, _, _, _, of1⟩ ?_
  have un : Un (frs X.stack) [] H HZ s.heap s1.heap := I1.base
  obtain ⟨⟨oc, vs, t, hoc, hdc, hvc⟩, _, _⟩ := I1.hok c' _ hc
  have rc : codeAny (model X.prog X.w) (X.A.deeper (envOfC qg sg s.heap.objs.size g cdg)) (.call (.ref f) ⟨[], []⟩) (CR (L2N.CX X.prog X.w) (envOfC qg sg s.heap.objs.size g cdg :: X.stack) X.prog X.w HZ s1 Q E) s1 := by
    refine PySem.W.kla_callFunE hr.depth of1 rfl Ls.co Ls.gen rfl ⟨c', oc, vs, t, rfl, hoc, hdc, hvc⟩ ?_
    rw [hbind]
    refine wpAny_pure (wpAny_newFunctionEnv (fun y hy => (Ls.own y hy).2) (fun y hy => absurd hy (by simp)) (fun h1 hns hsb => ⟨I1.nolimit.fresh _ hsb, ?_⟩) Ls.kind)
    have kp : ∀ b o, s1.heap.get? b = some o → h1.get? b = some o := fun b o e => hsb.extBut b o (Nat.ne_of_lt (Heap.lt_size e)) (Heap.get?_push_of_some _ e)
    have J := (LamX.lam_start2 (tk := s1.toks + ([] : List (Str × Value)).length) (E := E) (f := f) (c' := c') I Ls I1.env0 hr.hd un hns kp).wish (fun e s' => wpAny (model X.prog X.w) ((X.A.deeper (envOfC qg sg s.heap.objs.size g cdg)).deeper (LamX.lamEnv X scope s1.heap.objs.size f c')) (leaving (LamX.lamEnv X scope s1.heap.objs.size f c') e) (fun _ s'' => L2N.CX X.prog X.w (envOfC qg sg s.heap.objs.size g cdg :: X.stack) HZ s1 E e s'') (fun e' s'' => L2N.CX X.prog X.w (envOfC qg sg s.heap.objs.size g cdg :: X.stack) HZ s1 E e' s'') s')
    refine PySem.W.kla_codeExpr (wpAny_mono ((hbody _ _ s1 HZ (hr.deeper _)).run [] _ _ HZ Q J ht) (fun v s' hq => ?_) fun e s' hq => hq)
    obtain ⟨w', H', J', rv, q⟩ := hq
    exact ⟨w', H', J'.os, J'.bare, J'.base, J'.hok, rv, q⟩
  refine wpAny_call (codeAny_mono rc fun r s' hq => ?_)
  cases r with
  | error e => exact tk e s' (L2N.XE.of_call I1 (fun cls d H' z => hW cls d σZ H' I1.len z) hq)
  | ok fl =>
    cases fl with
    | ret u => exact I1.after hq
    | next => exact False.elim hq
    | brk => exact False.elim hq
    | cont => exact False.elim hq
end
/-- the answer, or the refusal's name -/
def told (f : Sto → Res D) : Sto → Res D := fun δ => match f δ with
  | .ok d => .ok d
  | .rs c => if c ∈ exc7 then .ok (.str (TL.tl c)) else .stuck
  | .stuck => .stuck
section
variable {T : List (Addr × Str)} {X : Cx} {W : Wi} {stT stW : Stmt} {fT fW CT : Addr} {fdT fdW : FuncData} {cs : List Addr}
/-- what is known of the law's catcher and its word -/
structure ToldOk (P : Program) (w : World) (K : PySem.W.Frag) (mg : Str → Option Value) (base : Heap) (stT stW : Stmt) (fT fW CT : Addr) (fdT fdW : FuncData) (cs : List Addr) : Prop where
  tab : ExcTab K mg CT cs
  FT : Fun K "_law_told" "_law_told" stT fT fdT
  ST : FnScope ["deed", "e"] ["deed"] (defScope stT)
  bT : L2.Binds K fdT ["deed"] []
  gT : mg "_law_told" = some (.ref fT)
  FW : Fun K "_law_word" "_law_word" stW fW fdW
  SW : FnScope ["e", "flags"] ["e"] (defScope stW)
  bW : L2.Binds K fdW ["e"] []
  gW : mg "_law_word" = some (.ref fW)
  body : ∃ p1 p2 p3 p4 p5 p6 p7 p8 p9 p10, defBody stT = [.Try [.Return (some (.Call (.Name "deed" p1) [] [] p2)) p3] [.ExceptHandler (some (.Name "TerseError" p4)) (some "e") [.Return (some (.Call (.Name "_law_word" p5) [.Name "e" p6] [] p7)) p8] p9] [] [] p10]
  scp : (defScope stT).names.lookup ("TerseError" : Str) = some .globalImplicit ∧ (defScope stT).names.lookup ("_law_word" : Str) = some .globalImplicit ∧ (defScope stT).names.lookup ("e" : Str) = some .local ∧ (defScope stT).names.lookup ("deed" : Str) = some .local
  word : ∀ (cdv : Value) (A : Around) (outer : List Env) (s : Shared) (H : Hp) (E : XK) (a : Addr) (oe : Obj) (j : Nat) (C : Addr), cs[j]? = some C → HotE (L2H.cxH (L2N.CX P w) P w K mg base ["e", "flags"] "_law_word" (defScope stW) fW cdv A outer s H E (a, oe)) a C oe →
    DSs [] (L2H.cxH (L2N.CX P w) P w K mg base ["e", "flags"] "_law_word" (defScope stW) fW cdv A outer s H E (a, oe)) WF (defBody stW) (wordD a (fun i => j == i) true)
theorem de_told {k : Nat} {c P' : Addr} {params : Arguments} {body : Expr} {scope : Scope} {fb : Sto → Res D} {p lpos pos : Pos} (O : ToldOk X.prog X.w X.K X.mg X.base stT stW fT fW CT fdT fdW cs)
    (TB : LamX.TabB X.base X.mg c P') (hcode : X.env.code = .ref c) (hmT : (P', X.env.qual ++ "<lambda>") ∈ T) (hu : ∀ p ∈ T, p.1 = P' → p.2 = X.env.qual ++ "<lambda>") (hr : Room (k + 2) X.A) (Ls : LamX.LamS X.env.scope scope)
    (hbody : ∀ (A : Around) (outer : List Env) (s : Shared) (H : Hp) (E : XK) (f c' : Addr), Room k (A.deeper (LamX.lamEnv X scope s.heap.objs.size f c')) → DE T (lamN X A outer s H E scope f c') (fun c H => E (clsOf X.mg c) none H) body fb)
    (hdef : defaultsOf params X.env = ([], []) := by rfl) (hbind : ∀ (q : Str) (cl : List (Str × Addr)) (pm cv ctv : Value), bindArgs (PySem.W.kla_fn "<lambda>" q params body scope cl pm cv ctv) ⟨[], []⟩ = pure [] := by intros; rfl) (hg : Gl X "_law_told" := by rfl) :
    DE T X W (.Call (.Name "_law_told" p) [.Lambda params body scope lpos] [] pos) (told fb) := by
  refine ⟨fun pins s σ H Q I h => ?_⟩
  obtain ⟨F, δ, L, h⟩ := h
  refine wpAny_Call_Name_kw (ld_glob I hg O.gT ?_)
  refine PySem.W.callWith_K (h₀ := X.base) I.ok.mod.kin O.FT.kp ?_ (by rfl) (by rfl)
  show wpAny _ _ (spliced ((false, eval (.Lambda params body scope lpos) X.env) :: backTo pos (starEach [] X.env))) _ _ s
  refine Calls.spliced_cons (LamX.lam_make2 I TB hcode hmT hu L.tabs hdef (Ls.has I.ok) fun f c' pm' ctv H1 s' I1 eN T1 hf hfn hfr hco => ?_)
  refine Calls.spliced_nil ⟨I1.kIn, ?_⟩
  have hT0 : T ≠ [] := fun z => by rw [z] at hmT; cases hmT
  have st1 : Step T F H F H1 := by
    refine ⟨.refl F, ⟨fun a o e => eN a o (L.sub a o e) fun ps z => L.gd.ntb a ps (by rw [← z]; exact e), T1, L.gd.ntb⟩, fun a o n e c => eN a o e (c.resolve_left hT0), fun a o n e v => ⟨n, ?_⟩⟩
    rcases v with v | v | ⟨q, v⟩
    · exact (hT0 v).elim
    · exact ⟨o, eN a o e v, .inr (.inl v)⟩
    · obtain ⟨ps, e1, _⟩ := T1 _ v
      exact ⟨_, e1, .inr (.inr ⟨q, v⟩)⟩
  have L1 := L.step st1
  have h1 := PostE.shift h st1
  obtain ⟨oc, od, kV, doc, pm, an, cdv, ct, osl, efd, lk, hcd⟩ := O.FT.ex
  have bT := O.bT
  subst efd
  obtain ⟨q1, q2, q3, q4, q5, q6, q7, q8, q9, q10, hbd⟩ := O.body
  obtain ⟨sc1, sc2, sc3, sc4⟩ := O.scp
  have rc : codeAny (model X.prog X.w) X.A (.call (.ref fT) ⟨[.ref f], []⟩) (CR L2.CX0 X.stack X.prog X.w H1 s' Q L2.E0) s' := by
    refine LamX.run_ofS (N := ["deed", "e"]) (ps := ["deed"]) (us := [.ref f]) (vs := [.ref f]) lk hcd O.ST hr I1.env0 (bT s' [.ref f] I1.kIn rfl) (.cons rfl .nil) rfl fun hr' => ?_
    -- what the body wants
    let E : XK := fun cls d H' => d = none ∧ ∃ c, cls = clsOf X.mg c ∧ c ∈ exc7 ∧ ∃ F', Step T F H1 F' H' ∧ ∀ v F2 H2, Step [] F' H' F2 H2 → Rp X.K X.mg F2 v (.str (TL.tl c)) → Q v H2
    have hb1 : tD X.K X.mg T (fun c H => E (clsOf X.mg c) none H) fb σ H1 Q := by
      refine ⟨F, δ, L1, ?_⟩
      unfold told at h1
      cases e : fb δ with
      | ok d => rw [e] at h1; exact h1
      | stuck => rw [e] at h1; exact h1
      | rs c =>
        rw [e] at h1
        obtain ⟨hc, h2⟩ := PostE.ite h1
        exact fun F' H' st' => ⟨rfl, c, rfl, hc, F', st', fun v F2 H2 s2 rv => h2 v F2 H2 (st'.trans (s2.lift st'.gd)) rv⟩
    refine ⟨fun D' σ' H' => ∃ a2, σ' = [some (V.ref f), a2] ∧ H' = H1 ∧ D'.rt = Q, PSs.nox (X := cxOf L2.CX0 X.prog X.w X.K X.mg X.base ["deed", "e"] "_law_told" (defScope stT) fT cdv X.A X.stack s' H1 L2.E0) ?_, ⟨none, rfl, rfl, rfl⟩⟩
    rw [hbd]
    have ptry := L2N.ps_try_as (X := cxT X ["deed", "e"] "_law_told" (defScope stT) fT cdv s' H1) (x := "TerseError") (n := "e") (c := .ref CT) (i := 1) (np := q4) (pos := q10) (pos' := q9) (b₀ := .Return (some (.Call (.Name "_law_word" q5) [.Name "e" q6] [] q7)) q8) (suite := [])
      (body := [.Return (some (.Call (.Name "deed" q1) [] [] q2)) q3])
      (tb := fun W D' σ2 H2 => (∀ cls d (σ' : L2.St) H', σ'.length = 2 → E cls d H' → W cls d σ' H') ∧ σ2[0]? = some (some (.ref f)) ∧ D'.rt = Q ∧ H2 = H1)
      (ts := fun a cls d D' σ2 H2 => ∃ (j : Nat) (C : Addr) (x : Str), cls = .ref C ∧ d = none ∧ cs[j]? = some C ∧ exc7[j]? = some x ∧ tWord 1 a X.K X.mg (TL.tl x) σ2 H2 D'.rt)
      (Wout := fun _ _ _ _ => False) rfl rfl O.ST.nd rfl sc3 ⟨sc1, by decide, .inl O.tab.gT⟩ (fun _ _ x => by
        obtain ⟨_, _, _, _, _, _, _, _, _, _, _, _, _, _, _, _, z⟩ := x
        exact z.elim) (fun W pn xe tk _ => ?_) (fun a oe cls d pn hz hfd => ?_)
    · refine pss_one ⟨fun pins2 s2 σ2 H2 D2 I2 hh => ?_⟩
      obtain ⟨a2, rfl, rfl, hD2⟩ := hh
      refine ptry.run pins2 s2 _ _ D2 I2 ⟨?_, rfl, hD2, rfl⟩
      intro cls d σ' H' hlen hE
      obtain ⟨rfl, c, rfl, hc, F', st', hq⟩ := hE
      obtain ⟨j, hj⟩ := List.mem_iff_getElem?.mp hc
      have hj7 : j < 7 := (List.getElem?_eq_some_iff.mp hj).1
      have hjc : j < cs.length := by rw [O.tab.len]; exact hj7
      have K1 := O.tab.each j c cs[j] hj (List.getElem?_eq_getElem hjc)
      have ec : clsOf X.mg c = .ref cs[j] := by unfold clsOf; rw [K1.g]; rfl
      refine ⟨true, by rw [ec]; exact K1.te, fun _ a ha => ⟨j, cs[j], c, ec, rfl, List.getElem?_eq_getElem hjc, hj, ?_, F', ⟨st'.sub, (fun p hp => by cases hp), st'.gd.ntb⟩, fun v F2 H3 s3 rv => ?_⟩, fun z => by cases z⟩
      · exact List.getElem?_set_self (by rw [hlen]; decide)
      · show D2.rt v H3
        rw [hD2]
        exact hq v F2 H3 s3 rv
    · refine ⟨fun pins3 s3 σ3 H3 D3 I3 hh => ?_⟩
      obtain ⟨hW, hs0, hD, rfl⟩ := hh
      have hp := pe_deed (tb := tD X.K X.mg T (fun c H => E (clsOf X.mg c) none H) fb) (p1 := q1) (p2 := q2) (i := 0) (E := E) I1 Ls hf hfn hfr (hbind _ _ _ _ _) tk hW hr' (fun A outer s H hr2 => hbody A outer s H E f c' hr2) rfl (.inl sc4)
      refine (pss_one (ps_ret (pos := q3) hp)).run pins3 s3 σ3 _ D3 I3 ⟨hs0, hco, ?_⟩
      rw [hD]
      exact hb1
    · refine ⟨fun pins3 s3 σ3 H3 D3 I3 hh => ?_⟩
      obtain ⟨j, C, x, rfl, rfl, hcj, hxj, hw⟩ := hh
      exact (pss_one (ps_ret (pos := q8) (pe_word (X := cxT X ["deed", "e"] "_law_told" (defScope stT) fT cdv s' H1) (i := 1) (k := k) hz hfd O.FW O.SW O.bW (fun cdv A outer s H E hx => O.word cdv A outer s H E a oe j C hcj hx) (word_is a j x hxj) ⟨hr'.dp, hr'.un⟩ O.gW rfl (.inl sc3) sc2))).run pins3 s3 σ3 H3 D3 I3 hw
  refine wpAny_call (codeAny_mono rc fun r s2 hq => ?_)
  cases r with
  | error e => exact (show False from hq).elim
  | ok fl =>
    cases fl with
    | ret u => exact I1.after hq
    | next => exact False.elim hq
    | brk => exact False.elim hq
    | cont => exact False.elim hq
end
end Dn


set_option Elab.async false
set_option linter.all false
set_option maxRecDepth 100000
set_option maxHeartbeats 4000000
namespace Dn
open PySem PySem.Spec PyProof.Rows L2
/-! ### defs by their names -/
def FnT (K : PySem.W.Frag) (mg : Str → Option Value) (x : Str) (st : Stmt) (ps : List Str) : Prop := ∃ f fd, Fun K x x st f fd ∧ L2.Binds K fd ps [] ∧ mg x = some (.ref f)
def FnP (P : Program) (w : World) (K : PySem.W.Frag) (mg : Str → Option Value) (base : Heap) (k : Nat) (x : Str) (ps : List Str) (g : List D → Res D) : Prop :=
  ∃ f fd, FnOk P w K mg base (L2N.CX P w) k f fd ps (spD K mg g) ∧ PySem.W.keepIn K (.ref f) = true ∧ L2.Binds K fd ps [] ∧ mg x = some (.ref f)
section
variable {P : Program} {w : World} {K : PySem.W.Frag} {mg : Str → Option Value} {base : Heap}
theorem fnP {x : Str} {st : Stmt} {N ps : List Str} {k : Nat} {fb : Sto → Out} (n m : Nat) (Fn : FnT K mg x st ps) (S : FnScope N ps (defScope st)) (hps : ps.length = n) (hN : N.length = n + m)
    (hbody : ∀ (f : Addr) (cdv : Value) (A : Around) (outer : List Env) (s : Shared) (H : Hp) (E : XK), Room k (A.deeper (envOfC x (defScope st) s.heap.objs.size f cdv)) →
      DSs [] (cxOf (L2N.CX P w) P w K mg base N x (defScope st) f cdv A outer s H E) (fun c H => E (clsOf mg c) none H) (defBody st) fb) : FnP P w K mg base (k + 1) x ps (runF n m fb) := by
  obtain ⟨f, fd, F, b, g⟩ := Fn
  exact ⟨f, fd, fnD n m F S hps hN (hbody f), F.kp, b, g⟩
theorem FnP.mono {j k : Nat} {x : Str} {ps : List Str} {g : List D → Res D} (h : FnP P w K mg base j x ps g) (hj : j ≤ k) : FnP P w K mg base k x ps g := by
  obtain ⟨f, fd, F, r⟩ := h
  exact ⟨f, fd, F.mono hj, r⟩
end
section
variable {T : List (Addr × Str)} {X : Cx} {W : Wi}
theorem de_callP {k : Nat} {ps : List Str} {g : List D → Res D} {x : Str} {e : Expr} {es : List Expr} {p pos : Pos} {fa : Sto → Res (List D)} (G : FnP X.prog X.w X.K X.mg X.base k x ps g) (hr : Room k X.A) (tk : L2N.Takes X (wx X.mg W)) (ha : DA T X W (e :: es) fa)
    (hg : Gl X x := by rfl) (hdb : (x == ("__debug__" : Str)) = false := by decide) (he : starEach (e :: es) X.env = (false, eval e X.env) :: starEach es X.env := by rfl) (hpl : (backTo pos (starEach es X.env)).any (·.1) = false := by rfl) :
    DE T X W (.Call (.Name x p) (e :: es) [] pos) (app g fa) := by
  obtain ⟨f, fd, F, kp, b, m⟩ := G
  exact de_call F hr m kp b tk ha hg hdb he hpl
theorem de_gintE {x : Str} {i : Int} {pos : Pos} (hm : ∃ t, X.mg x = some (.int i t)) (hg : Gl X x := by rfl) (hd : (x == ("__debug__" : Str)) = false := by decide) : DE T X W (.Name x pos) (cst (.int i)) := by
  obtain ⟨t, hm⟩ := hm
  exact de_gint hm hg hd
theorem de_gstrE {x s : Str} {l : List Nat} {pos : Pos} (hm : ∃ t, X.mg x = some (.str s t)) (h : TL.tl s = l := by rfl) (hg : Gl X x := by rfl) (hd : (x == ("__debug__" : Str)) = false := by decide) : DE T X W (.Name x pos) (cst (.str l)) := by
  obtain ⟨t, hm⟩ := hm
  exact de_gstr hm h hg hd
/-- raise of one of the program's errors -/
theorem ds_raiseT {x m : Str} {CT : Addr} {cs : List Addr} {i j : Nat} {p p2 p3 pos : Pos} (tab : ExcTab X.K X.mg CT cs) (hi : exc7[i]? = some x) (hc : X.calm = true) (tk : L2N.Takes X (wx X.mg W)) (hg : Gl X x := by rfl) (hdb : (x == ("__debug__" : Str)) = false := by decide) :
    DS T X W (.Raise (some (.Call (.Name x p) [.Constant (.str m) j p2] [] p3)) none pos) (rais x) := by
  have h7 : i < 7 := (List.getElem?_eq_some_iff.mp hi).1
  have hl : i < cs.length := by rw [tab.len]; exact h7
  have E := tab.each i x cs[i] hi (List.getElem?_eq_getElem hl)
  exact ds_raise hc tk PySem.F.excBase_ValueError E.xin E.g E.kp E.sb E.ty hg hdb
/-- isinstance(x, list) -/
def isLD : D → Res D
  | .lst _ => .ok (.bl true)
  | .str _ => .ok (.bl false)
  | .int _ => .ok (.bl false)
  | .non => .ok (.bl false)
  | _ => .stuck
theorem isL_read {K : PySem.W.Frag} {mg : Str → Option Value} {fe : Sto → Res D} {σ : L2.St} {H : Hp} {Q : VK} (h : tD K mg T W (un isLD fe) σ H Q) : tCB (rIsi K) (tCons (tD K mg T W fe) (tCons (tC (.ty "list")) tNil)) σ H Q := by
  obtain ⟨F, δ, L, h⟩ := h
  refine bindE ppE L h fun d v F1 H1 s1 L1 r1 h1 => ?_
  cases r1 with
  | lst e hl he => exact ⟨_, _, _, _, true, rfl, .ty "list", .base (.lst (L1.sub _ _ e)), kit_ty (by decide +kernel), PostE.here h1 L1.gd (.bl true)⟩
  | str e => exact ⟨_, _, _, _, false, rfl, .ty "list", .base (.str _), kit_ty (by decide +kernel), PostE.here h1 L1.gd (.bl false)⟩
  | int e => exact ⟨_, _, _, _, false, rfl, .ty "list", .base (.int _), kit_ty (by decide +kernel), PostE.here h1 L1.gd (.bl false)⟩
  | non => exact ⟨_, _, _, _, false, rfl, .ty "list", .base .non, kit_ty (by decide +kernel), PostE.here h1 L1.gd (.bl false)⟩
  | _ => exact (show False from h1).elim
theorem de_isL {e : Expr} {fe : Sto → Res D} {p p2 pos : Pos} (he : DE T X W e fe) (hm : X.mg "isinstance" = none) (hl : X.mg "list" = none) (hse : starEach (e :: [.Name "list" p2]) X.env = (false, eval e X.env) :: starEach [.Name "list" p2] X.env := by rfl) (hg : Gl X "isinstance" := by rfl) (hgl : Gl X "list" := by rfl) :
    DE T X W (.Call (.Name "isinstance" p) [e, .Name "list" p2] [] pos) (un isLD fe) :=
  weakE (pe_callB call_isi hg hm (by decide +kernel) (pa_cons he (pa_cons (pe_bltn (v := .ty "list") hgl hl (by decide +kernel) rfl) pa_nil) hse) (by decide) (by decide) hse) fun σ H Q h => isL_read h
/-! ### reads of a list of one's own -/
def lenO (i : Nat) : Sto → Res D := fun δ => match δ[i]? with
  | some (.own ds) => .ok (.int ds.length)
  | _ => .stuck
theorem de_lenO {x : Str} {p p2 pos : Pos} (i : Nat) (hm : X.mg "len" = none) (hN : X.N[i]? = some x := by rfl) (hv : Vis X.env.scope x := by first | exact Or.inl rfl | exact Or.inr (Or.inl rfl) | exact Or.inr (Or.inr rfl)) (hd : (x == ("__debug__" : Str)) = false := by decide) (hcd : (x == ("__classdict__" : Str)) = false := by decide) (hg : Gl X "len" := by rfl) :
    DE T X W (.Call (.Name "len" p) [.Name x p2] [] pos) (lenO i) :=
  weakE (pe_callB call_len hg hm PySem.boot_len (pa_cons (pe_var (i := i) hN hv hd hcd) pa_nil)) fun σ H Q ⟨F, δ, L, h⟩ => by
    unfold lenO at h
    split at h
    · rename_i ds e
      obtain ⟨ov, q, p, vs, rfl, nF, hH, rv⟩ := L.slot i _ e
      refine ⟨.ref p, q, _, vs.length, rfl, .inl ⟨vs, .of hH, rfl⟩, h.here L.gd ?_⟩
      rw [rv.length]
      exact .int _
    · exact h.elim
end
/-! ### the law's own def -/
section
variable {P : Program} {w : World} {K : PySem.W.Frag} {mg : Str → Option Value} {base : Heap} {T : List (Addr × Str)}
/-- the law's promise: it answers True -/
def spL (K : PySem.W.Frag) (mg : Str → Option Value) (T : List (Addr × Str)) (f : List D → Res D) : Sp := fun vs H Q _ => ∃ F ds, Gd T F H ∧ RpL K mg F vs ds ∧ ∃ d, f ds = .ok d ∧ ∀ v F' H', Step T F H F' H' → Rp K mg F' v d → Q v H'
theorem start_T {N : List Str} {vs : List V} {ds : List D} {F H : Hp} (r : RpL K mg F vs ds) (gd : Gd T F H) {n m : Nat} (hn : ds.length = n) (hN : N.length = n + m) : StR K mg T F (H, 0) F H (L2.start N vs) (ds.map Slot.val ++ List.replicate m .no) := by
  have gd0 : Gd [] F H := ⟨gd.sub, (fun p hp => by cases hp), gd.ntb⟩
  have S := start_slots (N := N) r gd0 hn hN
  exact ⟨gd.sub, .refl gd, ⟨gd, S.loc.len, S.loc.slot, S.loc.apart⟩, fun i s a e o q => by
    have no : s.owned = false := by
      by_cases hi : i < (ds.map Slot.val).length
      · rw [List.getElem?_append_left hi, List.getElem?_map] at e
        cases z : ds[i]? with
        | none => rw [z] at e; cases e
        | some d => rw [z] at e; cases e; rfl
      · rw [List.getElem?_append_right (by omega)] at e
        rw [(List.mem_replicate.mp (List.mem_of_getElem? e)).2]
        rfl
    rw [no] at o; cases o⟩
theorem fnL {st : Stmt} {x : Str} {N ps : List Str} {k : Nat} {fb : Sto → Out} {f : Addr} {oc : Value} {od an : Option Addr} {osl : Array (Option Value)} {kV doc pm cdv ct : Value} (n m : Nat)
    (lk : K.lookup f = some ⟨oc, od, .func (PySem.W.fnOf x x (defArgs st) (defBody st) (defScope st) .none kV doc pm an cdv ct), osl⟩) (hcd : PySem.W.codeIn K cdv x = true) (S : FnScope N ps (defScope st)) (hps : ps.length = n) (hN : N.length = n + m)
    (hbody : ∀ (A : Around) (outer : List Env) (s : Shared) (H : Hp) (E : XK), Room k (A.deeper (envOfC x (defScope st) s.heap.objs.size f cdv)) →
      DSs T (cxOf (L2N.CX P w) P w K mg base N x (defScope st) f cdv A outer s H E) (fun c H => E (clsOf mg c) none H) (defBody st) fb) :
    FnOk P w K mg base (L2N.CX P w) (k + 1) f (PySem.W.fnOf x x (defArgs st) (defBody st) (defScope st) .none kV doc pm an cdv ct) ps (spL K mg T (runF n m fb)) := by
  refine fn_of lk hcd S (fun vs H Q E h => ?_) (fun A outer s H vs Q E hr h => ⟨_, hbody A outer s H E hr, ?_⟩)
  · obtain ⟨F, ds, gd, r, d, h, _⟩ := h
    unfold runF at h
    by_cases hl : ds.length = n
    · rw [hps, r.length, hl]
    · rw [if_neg hl] at h; cases h
  · obtain ⟨F, ds, gd, r, d, h, hq⟩ := h
    unfold runF at h
    by_cases hl : ds.length = n
    · rw [if_pos hl] at h
      refine ⟨F, (H, 0), F, _, start_T r gd hl hN, ?_⟩
      cases e : fb (ds.map Slot.val ++ List.replicate m .no) with
      | nx δ => rw [e] at h; cases h; exact fun σ F' H' _ S' => hq .non F' H' S'.st .non
      | rt d => rw [e] at h; cases h; exact hq
      | rs c => rw [e] at h; cases h
      | bk δ => rw [e] at h; cases h
      | ct δ => rw [e] at h; cases h
      | stuck => rw [e] at h; cases h
    · rw [if_neg hl] at h; cases h
theorem law_start {H : Hp} {a : Addr} {ns : List Int} {f : List D → Res D} (hT : ∀ p ∈ T, H p.1 = some (.tbl #[])) (hS : SqL K H a (ns.map V.int)) (hf : f [.scr ns] = .ok (.bl true)) : spL K mg T f [.ref a] H (fun v _ => v = .bl true) fun _ _ _ => False := by
  have one : ∀ o : HO, H a = some o → (∀ ps, o ≠ .tbl ps) → Sub (upd (fun _ => none) a o) H ∧ ∀ b ps, upd (fun _ => none) a o b ≠ some (.tbl ps) := fun o h n => by
    refine ⟨fun b u e => ?_, fun b ps e => ?_⟩
    · by_cases z : b = a
      · subst z; rw [upd_same] at e; cases e; exact h
      · rw [upd_ne z] at e; cases e
    · by_cases z : b = a
      · subst z; rw [upd_same] at e; exact n ps (Option.some.inj e)
      · rw [upd_ne z] at e; cases e
  have hF : ∃ F : Hp, Sub F H ∧ (∀ b ps, F b ≠ some (.tbl ps)) ∧ SqL K F a (ns.map V.int) := by
    rcases hS with (h | ⟨o, h⟩) | h
    · obtain ⟨h1, h2⟩ := one _ h (fun _ z => by cases z)
      exact ⟨_, h1, h2, .inl (.inl upd_same)⟩
    · obtain ⟨h1, h2⟩ := one _ h (fun _ z => by cases z)
      exact ⟨_, h1, h2, .inl (.inr ⟨o, upd_same⟩)⟩
    · exact ⟨fun _ => none, (fun _ _ e => by cases e), (fun _ _ e => by cases e), .inr h⟩
  obtain ⟨F, sb, nt, hq⟩ := hF
  exact ⟨F, [.scr ns], ⟨sb, fun p hp => LamX.TabS.nil (hT p hp), nt⟩, .cons (.scr hq) .nil, .bl true, hf, fun v F' H' _ r => by cases r; rfl⟩
end
end Dn


set_option Elab.async false
set_option linter.all false
set_option maxRecDepth 100000
set_option maxHeartbeats 4000000
namespace Dn
open PySem PySem.Spec PyProof.Rows L2
/-! ### facts of a written top -/
section
variable {K : PySem.W.Frag} {h : Heap} {mg : Str → Option Value}
def excB (K : PySem.W.Frag) (CT C : Addr) : Bool :=
  PySem.W.excIn K C [.type "ValueError", .type "Exception", .type "BaseException", .type "object"] "ValueError.__new__" && (PySem.W.keepIn K (.ref C) && (PySem.W.subIn K (.ref C) (.type "BaseException") == some true && (PySem.W.typeIn K (.ref C) == some (.type "type") &&
  (PySem.W.findIn K (.ref C) "__getattribute__" == some (some (.builtin "BaseException.__getattribute__")) && (PySem.W.findIn K (.ref C) "__getattr__" == some none && (PySem.W.hasDictIn K C && (PySem.W.findIn K (.ref C) "__class__" == some (some (.builtin "object.__class__")) &&
  (PySem.W.specialIn K (.builtin "object.__class__") "__get__" == some (some (.builtin "getset_descriptor.__get__")) && (PySem.W.takesIn K (.builtin "object.__class__") == some true && (PySem.W.mroIn K C (.type "object") == some true &&
  (PySem.W.kitOne K (.ref C) (.type "ValueError") == some true && PySem.W.exmOne K (.ref C) (.ref CT) == some true)))))))))))
theorem exc_mk {CT C : Addr} {x : Str} (X : K.In h) (G : h.Ns mainGlobals mg) (a : PySem.W.nsIn K mainGlobals x = some (some (.ref C))) (e : excB K CT C = true) : ExcOk K mg CT x C := by
  unfold excB at e
  simp only [Bool.and_eq_true, beq_iff_eq] at e
  obtain ⟨e1, e2, e3, e4, e5, e6, e7, e8, e9, e10, e11, e12, e13⟩ := e
  exact ⟨PySem.W.mg_of X G a, e1, e2, e3, e4, ⟨e5, e6, e3, e7, e8, e9, e10, e11⟩, e12, e13⟩
def kitB (K : PySem.W.Frag) (cs : List Addr) : Bool := (List.range 7).all fun i => (List.range 7).all fun j => PySem.W.kitOne K (.ref (cs.getD i 0)) (.ref (cs.getD j 0)) == some (i == j)
theorem tab_mk {CT c0 c1 c2 c3 c4 c5 c6 : Addr} (X : K.In h) (G : h.Ns mainGlobals mg) (aT : PySem.W.nsIn K mainGlobals "TerseError" = some (some (.ref CT))) (a0 : PySem.W.nsIn K mainGlobals "BadNumber" = some (some (.ref c0))) (a1 : PySem.W.nsIn K mainGlobals "BadBits" = some (some (.ref c1)))
    (a2 : PySem.W.nsIn K mainGlobals "BadPlace" = some (some (.ref c2))) (a3 : PySem.W.nsIn K mainGlobals "BadText" = some (some (.ref c3))) (a4 : PySem.W.nsIn K mainGlobals "BadCode" = some (some (.ref c4))) (a5 : PySem.W.nsIn K mainGlobals "BadTree" = some (some (.ref c5))) (a6 : PySem.W.nsIn K mainGlobals "TooMany" = some (some (.ref c6)))
    (e : [c0, c1, c2, c3, c4, c5, c6].all (excB K CT) = true) (ek : kitB K [c0, c1, c2, c3, c4, c5, c6] = true) : ExcTab K mg CT [c0, c1, c2, c3, c4, c5, c6] := by
  have e' := List.all_eq_true.mp e
  refine ⟨PySem.W.mg_of X G aT, rfl, fun i x C hx hC => ?_, fun i j C C' hi hj => ?_⟩
  · have hb := e' C (List.mem_of_getElem? hC)
    have h7 : i < 7 := (List.getElem?_eq_some_iff.mp hC).1
    rcases (show i = 0 ∨ i = 1 ∨ i = 2 ∨ i = 3 ∨ i = 4 ∨ i = 5 ∨ i = 6 by omega) with rfl | rfl | rfl | rfl | rfl | rfl | rfl <;> cases hx <;> cases hC
    · exact exc_mk X G a0 hb
    · exact exc_mk X G a1 hb
    · exact exc_mk X G a2 hb
    · exact exc_mk X G a3 hb
    · exact exc_mk X G a4 hb
    · exact exc_mk X G a5 hb
    · exact exc_mk X G a6 hb
  · have i7 : i < 7 := (List.getElem?_eq_some_iff.mp hi).1
    have j7 : j < 7 := (List.getElem?_eq_some_iff.mp hj).1
    have q := List.all_eq_true.mp (List.all_eq_true.mp ek i (List.mem_range.mpr i7)) j (List.mem_range.mpr j7)
    rw [List.getD_eq_getElem?_getD, List.getD_eq_getElem?_getD, hi, hj] at q
    exact beq_iff_eq.mp q
theorem fnT_mk {x : Str} {st : Stmt} {ps : List Str} {f : Addr} {oc : Value} {od an : Option Addr} {osl : Array (Option Value)} {kV doc pm cdv ct : Value} (X : K.In h) (G : h.Ns mainGlobals mg) (a : PySem.W.nsIn K mainGlobals x = some (some (.ref f)))
    (l : K.lookup f = some ⟨oc, od, .func (PySem.W.fnOf x x (defArgs st) (defBody st) (defScope st) .none kV doc pm an cdv ct), osl⟩) (c : PySem.W.codeIn K cdv x = true) (k : PySem.W.keepIn K (.ref f) = true)
    (hb : ∀ fd, Fun K x x st f fd → L2.Binds K fd ps []) : FnT K mg x st ps :=
  ⟨f, _, fun_mk l c k, hb _ (fun_mk l c k), PySem.W.mg_of X G a⟩
end
theorem law_at {l : PySem.W.OpenLaw} {w : World} {K : PySem.W.Frag} {k : Nat} {mg : Str → Option Value} {fa f : Addr} {h : Heap} {st : Stmt} {c P' : Addr} {oc : Value} {od an : Option Addr} {osl : Array (Option Value)} {kV doc pm ct : Value} {e : Value} {dd : Option Addr} {vs : Array Value} {sl : Array (Option Value)} {d : List D → Res D} {q : Str}
    (X : K.In h) (G : h.Ns mainGlobals mg) (own : LamX.OwnTab K fa h) (hfa : mg "law" = some (.ref fa)) (a : PySem.W.nsIn K mainGlobals "law" = some (some (.ref f)))
    (lk : K.lookup f = some ⟨oc, od, .func (PySem.W.fnOf "law" "law" (defArgs st) (defBody st) (defScope st) .none kV doc pm an (.ref c) ct), osl⟩) (lc : K.lookup c = some ⟨e, dd, .fields vs, sl⟩) (h11 : vs[11]? = some (.ref P')) (hd : PySem.W.codeHdIn K c P' = true) (np : K.lookup P' = none)
    (hb : ∀ (s : Shared) (u : Value), BindsTo s (PySem.W.fnOf "law" "law" (defArgs st) (defBody st) (defScope st) .none kV doc pm an (.ref c) ct) ⟨[u], []⟩ [("script", u)])
    (hm : ∀ ns : List Int, ns.length ≤ 63 → (∀ z ∈ ns, Builtin.Int.intBits z ≤ 1048576) → d [.scr ns] = .ok (.bl true))
    (hF : ∀ base : Heap, K.In base → base.Ns mainGlobals mg → LamX.TabB base mg c P' → FnOk l.prog w K mg base (L2N.CX l.prog w) k f (PySem.W.fnOf "law" "law" (defArgs st) (defBody st) (defScope st) .none kV doc pm an (.ref c) ct) ["script"] (spL K mg [(P', q)] d)) :
    LamX.LawAtS l w K (L2N.CX l.prog w) k 63 "script" mg fa h := by
  have e := hfa.symm.trans (PySem.W.mg_of X G a)
  cases e
  refine ⟨_, [(c, P')], spL K mg [(P', q)] d, fun p hp => ?_, fun p hp => ?_, fun p hp => ?_, hb, fun H a ns hl hbits hH hS => ?_, fun base KX G' TB => hF base KX G' (TB _ List.mem_cons_self)⟩
  · cases List.mem_singleton.mp hp
    exact own c P' _ _ _ _ _ _ lk rfl rfl lc h11
  · cases List.mem_singleton.mp hp
    exact np
  · cases List.mem_singleton.mp hp
    exact PySem.W.codeHd_of_K X hd
  · refine law_start (fun p hp => ?_) hS (hm ns hl hbits)
    cases List.mem_singleton.mp hp
    exact hH _ List.mem_cons_self
end Dn


set_option Elab.async false
set_option linter.all false
set_option maxRecDepth 100000
set_option maxHeartbeats 4000000
namespace Dn
open PySem PySem.Spec PyProof.Rows L2
/-! ### working out -/
section
variable {α : Type} {δ : Sto} {f g : Sto → Out} {fe fa fb : Sto → Res D} {ft fu : Sto → Res Bool}
def Out.seq : Out → (Sto → Out) → Out
  | .nx δ, g => g δ
  | .rt d, _ => .rt d
  | .rs c, _ => .rs c
  | .bk δ, _ => .bk δ
  | .ct δ, _ => .ct δ
  | .stuck, _ => .stuck
@[simp] theorem seq_nx : (Out.nx δ).seq g = g δ := nrfl rfl
@[simp] theorem seq_rt {d : D} : (Out.rt d).seq g = .rt d := nrfl rfl
@[simp] theorem seq_rs {c : Str} : (Out.rs c).seq g = .rs c := nrfl rfl
@[simp] theorem seq_bk : (Out.bk δ).seq g = .bk δ := nrfl rfl
@[simp] theorem seq_ct : (Out.ct δ).seq g = .ct δ := nrfl rfl
@[simp] theorem seq_stuck : Out.stuck.seq g = .stuck := nrfl rfl
@[simp] theorem seqS_eq : seqS f g δ = (f δ).seq g := by unfold seqS; cases f δ <;> rfl
theorem seq_to {δ' : Sto} (h : f δ = .nx δ') : seqS f g δ = g δ' := by rw [seqS_eq, h]; rfl
@[simp] theorem nopS_eq : nopS δ = .nx δ := nrfl rfl
@[simp] theorem asg_eq {i : Nat} : asg i fe δ = (fe δ).out fun d => .nx (δ.set i (.val d)) := nrfl rfl
@[simp] theorem asgN_eq {i : Nat} {fl : Sto → Res (List D)} : asgN i fl δ = (fl δ).out fun d => .nx (δ.set i (.own d)) := nrfl rfl
@[simp] theorem drp_eq : drp fe δ = (fe δ).out fun _ => .nx δ := nrfl rfl
@[simp] theorem retS_eq : retS fe δ = (fe δ).out .rt := nrfl rfl
@[simp] theorem retN_eq : retN δ = .rt .non := nrfl rfl
@[simp] theorem rais_eq {c : Str} : rais c δ = .rs c := nrfl rfl
@[simp] theorem ifS_eq : ifS ft f g δ = (ft δ).out fun b => if b = true then f δ else g δ := nrfl rfl
@[simp] theorem forF_eq {fi : Sto → Res (List D)} {gt : D → Sto → Option Sto} : forF fi gt f δ = (fi δ).out fun xs => forS gt f xs δ := nrfl rfl
@[simp] theorem vr_eq {i : Nat} : vr i δ = (match δ[i]? with | some (.val d) => .ok d | _ => .stuck) := nrfl rfl
@[simp] theorem cst_eq {d : D} : cst d δ = .ok d := nrfl rfl
@[simp] theorem bin_eq {h : D → D → Res D} : bin h fa fb δ = (fa δ).bind fun x => (fb δ).bind fun y => h x y := nrfl rfl
@[simp] theorem un_eq {h : D → Res D} : un h fa δ = (fa δ).bind h := nrfl rfl
@[simp] theorem nilA_eq : nilA δ = .ok [] := nrfl rfl
@[simp] theorem consA_eq {fr : Sto → Res (List D)} : consA fa fr δ = (fa δ).bind fun x => (fr δ).bind fun xs => .ok (x :: xs) := nrfl rfl
@[simp] theorem app_eq {h : List D → Res D} {fr : Sto → Res (List D)} : app h fr δ = (fr δ).bind h := nrfl rfl
@[simp] theorem tst_eq : tst fa δ = (fa δ).bind asB := nrfl rfl
@[simp] theorem asB_bl {b : Bool} : asB (.bl b) = .ok b := nrfl rfl
@[simp] theorem andT_eq : andT ft fu δ = (ft δ).bind fun b => if b = true then fu δ else .ok false := nrfl rfl
@[simp] theorem orT_eq : orT ft fu δ = (ft δ).bind fun b => if b = true then .ok true else fu δ := nrfl rfl
@[simp] theorem notT_eq : notT ft δ = (ft δ).bind fun b => .ok (!b) := nrfl rfl
@[simp] theorem notD_bl {b : Bool} : notD (.bl b) = .ok (.bl (!b)) := nrfl rfl
@[simp] theorem ifE_eq : ifE ft fa fb δ = (ft δ).bind fun b => if b = true then fa δ else fb δ := nrfl rfl
@[simp] theorem newA_eq {fr : Sto → Res (List D)} : newA fr δ = (fr δ).bind mkN := nrfl rfl
@[simp] theorem lstE_eq {fr : Sto → Res (List D)} : lstE fr δ = (fr δ).bind fun xs => .ok (.lst xs) := nrfl rfl
@[simp] theorem itS_eq : itS fe δ = (fe δ).bind asSeq := nrfl rfl
@[simp] theorem rngA_eq {h : List D → Res (List D)} {fr : Sto → Res (List D)} : rngA h fr δ = (fr δ).bind h := nrfl rfl
@[simp] theorem noP_eq : noP δ = .ok none := nrfl rfl
@[simp] theorem part_eq : part fe δ = (fe δ).bind asP := nrfl rfl
@[simp] theorem asP_int {i : Int} : asP (.int i) = .ok (some i) := nrfl rfl
@[simp] theorem slc_eq {fl fh : Sto → Res (Option Int)} : slc fa fl fh δ = (fa δ).bind fun x => (fl δ).bind fun lo => (fh δ).bind fun hi => slD x lo hi := nrfl rfl
@[simp] theorem binS_eq {h : List Nat → D → Res D} : binS h fa fb δ = (fa δ).bind fun x => (match x with | .str s => (fb δ).bind (h s) | _ => .stuck) := nrfl rfl
@[simp] theorem yes_eq : yes δ = .ok true := nrfl rfl
@[simp] theorem told_eq : told fe δ = (match fe δ with | .ok d => .ok d | .rs c => if c ∈ exc7 then .ok (.str (TL.tl c)) else .stuck | .stuck => .stuck) := nrfl rfl
@[simp] theorem tgN_eq {i : Nat} {d : D} : tgN i d δ = some (δ.set i (.val d)) := nrfl rfl
@[simp] theorem addD_int {i j : Int} : addD (.int i) (.int j) = .ok (.int (i + j)) := nrfl rfl
@[simp] theorem subD_int {i j : Int} : subD (.int i) (.int j) = .ok (.int (i - j)) := nrfl rfl
@[simp] theorem negD_int {i : Int} : negD (.int i) = .ok (.int (-i)) := nrfl rfl
theorem addD_str {a b : List Nat} (h : a.length + b.length ≤ line) : addD (.str a) (.str b) = .ok (.str (a ++ b)) := if_pos h
theorem addD_lst {a b : List D} (h : a.length + b.length ≤ line) : addD (.lst a) (.lst b) = .ok (.lst (a ++ b)) := if_pos h
theorem mulD_int {i j : Int} (h : mulOk i j = true) : mulD (.int i) (.int j) = .ok (.int (i * j)) := if_pos h
theorem fdivD_int {i j : Int} (h : 0 < j ∧ j < 2 ^ 200) : fdivD (.int i) (.int j) = .ok (.int (i / j)) := if_pos h
theorem modD_int {i j : Int} (h : 0 < j) : modD (.int i) (.int j) = .ok (.int (i % j)) := if_pos h
@[simp] theorem ltD_int {i j : Int} : ltD (.int i) (.int j) = .ok (.bl (decide (i < j))) := nrfl rfl
@[simp] theorem leD_int {i j : Int} : leD (.int i) (.int j) = .ok (.bl (decide (i ≤ j))) := nrfl rfl
@[simp] theorem gtD_int {i j : Int} : gtD (.int i) (.int j) = .ok (.bl (decide (j < i))) := nrfl rfl
@[simp] theorem geD_int {i j : Int} : geD (.int i) (.int j) = .ok (.bl (decide (j ≤ i))) := nrfl rfl
@[simp] theorem eqD_int {i j : Int} : eqD (.int i) (.int j) = .ok (.bl (decide (i = j))) := by unfold eqD; rfl
@[simp] theorem eqD_str {i j : List Nat} : eqD (.str i) (.str j) = .ok (.bl (decide (i = j))) := by unfold eqD; rfl
@[simp] theorem neD_int {i j : Int} : neD (.int i) (.int j) = .ok (.bl (!decide (i = j))) := by unfold neD; rw [eqD_int]; rfl
@[simp] theorem neD_str {i j : List Nat} : neD (.str i) (.str j) = .ok (.bl (!decide (i = j))) := by unfold neD; rw [eqD_str]; rfl
@[simp] theorem lenD_lst {a : List D} : lenD [.lst a] = .ok (.int a.length) := nrfl rfl
@[simp] theorem lenD_tup {a : List D} : lenD [.tup a] = .ok (.int a.length) := nrfl rfl
@[simp] theorem lenD_scr {a : List Int} : lenD [.scr a] = .ok (.int a.length) := nrfl rfl
theorem lenD_str {a : List Nat} (h : a.length ≤ line) : lenD [.str a] = .ok (.int a.length) := if_pos h
@[simp] theorem max2D_int {i j : Int} : max2D [.int i, .int j] = .ok (.int (max i j)) := nrfl rfl
@[simp] theorem min2D_int {i j : Int} : min2D [.int i, .int j] = .ok (.int (min i j)) := nrfl rfl
@[simp] theorem asSeq_lst {a : List D} : asSeq (.lst a) = .ok a := nrfl rfl
@[simp] theorem asSeq_tup {a : List D} : asSeq (.tup a) = .ok a := nrfl rfl
@[simp] theorem asSeq_str {a : List Nat} : asSeq (.str a) = .ok (a.map fun c => .str [c]) := nrfl rfl
theorem rng1 {j : Int} (h : okI j) : asRng1 [.int j] = .ok (upTo 0 j.toNat) := if_pos h
theorem rng2 {i j : Int} (h : okI i ∧ okI j) : asRng2 [.int i, .int j] = .ok (upTo i (j - i).toNat) := if_pos h
theorem mkL_ok {xs : List D} (h : xs.length ≤ line) : mkL xs = .ok (.lst xs) := if_pos h
def Out.fin : Out → Res D
  | .nx _ => .ok .non
  | .rt d => .ok d
  | .rs c => .rs c
  | _ => .stuck
@[simp] theorem fin_nx : (Out.nx δ).fin = .ok .non := nrfl rfl
@[simp] theorem fin_rt {d : D} : (Out.rt d).fin = .ok d := nrfl rfl
@[simp] theorem fin_rs {c : Str} : (Out.rs c).fin = .rs c := nrfl rfl
@[simp] theorem fin_stuck : Out.stuck.fin = .stuck := nrfl rfl
theorem run_eq {n m : Nat} {ds : List D} (h : ds.length = n) : runF n m f ds = (f (ds.map Slot.val ++ List.replicate m .no)).fin := by
  unfold runF
  rw [if_pos h]
  cases f (ds.map Slot.val ++ List.replicate m .no) <;> rfl
theorem okI_of {j : Int} (h0 : 0 ≤ j) (h1 : j ≤ 1000000000000) : okI j := ⟨by omega, by omega⟩
end
/-! ### loops -/
section
variable {t : Sto → Res Bool} {b : Sto → Out} {δ δ' : Sto} {n : Nat}
theorem wh_step (ht : t δ = .ok true) (hb : b δ = .nx δ') : whS t b (n + 1) δ = whS t b n δ' := by
  rw [whS, ht, out_ok, if_pos rfl, hb]
theorem wh_end (ht : t δ = .ok false) : whS t b (n + 1) δ = .nx δ := by
  rw [whS, ht]; rfl
variable {g : D → Sto → Option Sto} {x : D} {xs : List D} {δ1 : Sto}
@[simp] theorem for_nil : forS g b [] δ = .nx δ := nrfl rfl
theorem for_step (hg : g x δ = some δ1) (hb : b δ1 = .nx δ') : forS g b (x :: xs) δ = forS g b xs δ' := by
  rw [forS, hg]; show (match b δ1 with | .nx δ' => forS g b xs δ' | .ct δ' => forS g b xs δ' | .bk δ' => .nx δ' | o => o) = _; rw [hb]
theorem for_rt {d : D} (hg : g x δ = some δ1) (hb : b δ1 = .rt d) : forS g b (x :: xs) δ = .rt d := by
  rw [forS, hg]; show (match b δ1 with | .nx δ' => forS g b xs δ' | .ct δ' => forS g b xs δ' | .bk δ' => .nx δ' | o => o) = _; rw [hb]
theorem for_rs {c : Str} (hg : g x δ = some δ1) (hb : b δ1 = .rs c) : forS g b (x :: xs) δ = .rs c := by
  rw [forS, hg]; show (match b δ1 with | .nx δ' => forS g b xs δ' | .ct δ' => forS g b xs δ' | .bk δ' => .nx δ' | o => o) = _; rw [hb]
/-- a loop that keeps what is to be kept -/
theorem for_inv {I : Nat → Sto → Prop} : ∀ {xs : List D} {δ : Sto} (k : Nat), I k δ → (∀ (i : Nat) x δ, xs[i]? = some x → I (k + i) δ → ∃ δ1 δ2, g x δ = some δ1 ∧ b δ1 = .nx δ2 ∧ I (k + i + 1) δ2) → ∃ δ', forS g b xs δ = .nx δ' ∧ I (k + xs.length) δ'
  | [], δ, k, h0, _ => ⟨δ, rfl, h0⟩
  | x :: xs, δ, k, h0, hs => by
    obtain ⟨δ1, δ2, e1, e2, h2⟩ := hs 0 x δ rfl h0
    obtain ⟨δ', e3, h3⟩ := for_inv (xs := xs) (k + 1) h2 fun i y δ hy hi => by
      have := hs (i + 1) y δ hy (by rw [show k + (i + 1) = k + 1 + i by omega]; exact hi)
      rw [show k + (i + 1) = k + 1 + i by omega] at this
      exact this
    exact ⟨δ', by rw [for_step e1 e2, e3], by rw [List.length_cons, show k + (xs.length + 1) = k + 1 + xs.length by omega]; exact h3⟩
/-! ### comprehensions -/
variable {gt : D → Sto → Option Sto} {vs : List Nat} {ft : Sto → Res Bool} {fe : Sto → Res D}
theorem lcS_map {f : D → D} : ∀ {xs : List D}, (∀ x ∈ xs, ∃ δ', gt x (wipeS δ vs) = some δ' ∧ ft δ' = .ok true ∧ fe δ' = .ok (f x)) → lcS gt vs ft fe xs δ = .ok (xs.map f)
  | [], _ => rfl
  | x :: xs, h => by
    obtain ⟨δ', e1, e2, e3⟩ := h x List.mem_cons_self
    have ih := lcS_map (xs := xs) fun y hy => h y (List.mem_cons_of_mem _ hy)
    rw [lcS, e1]
    dsimp only
    rw [e2]
    simp [e3, ih]
theorem lcF_map {fi : Sto → Res (List D)} {f : D → D} {xs : List D} (hi : fi δ = .ok xs) (hl : xs.length ≤ line) (h : ∀ x ∈ xs, ∃ δ', gt x (wipeS δ vs) = some δ' ∧ ft δ' = .ok true ∧ fe δ' = .ok (f x)) : lcF fi gt vs ft fe δ = .ok (xs.map f) := by
  unfold lcF
  rw [hi]
  rw [bind_ok, if_pos hl]
  exact lcS_map h
theorem lcN_map {fi : Sto → Res (List D)} {f : D → D} {xs : List D} {j : Nat} (hi : fi δ = .ok xs) (hl : xs.length ≤ line) (h : ∀ x ∈ xs, fe ((wipeS δ vs).set j (.val x)) = .ok (f x)) : lcF fi (tgN j) vs yes fe δ = .ok (xs.map f) :=
  lcF_map hi hl fun x hx => ⟨_, rfl, rfl, h x hx⟩
end
/-! ### equal data -/
mutual
theorem eqv_self : ∀ d : PyData, d.canLay0 = true → PyData.eqv d d = true
  | .none, _ => by rw [PyData.eqv]
  | .bool b, _ => by rw [PyData.eqv]; exact beq_self_eq_true b
  | .int b, _ => by rw [PyData.eqv]; exact beq_self_eq_true b
  | .str b, _ => by rw [PyData.eqv]; exact beq_self_eq_true b
  | .list xs, h => by rw [PyData.eqv]; exact eqvAll_self xs (by rw [PyData.canLay0] at h; exact h)
  | .tuple xs, h => by rw [PyData.eqv]; exact eqvAll_self xs (by rw [PyData.canLay0] at h; exact h)
  | .dict xs, h => by rw [PyData.canLay0] at h; cases h
theorem eqvAll_self : ∀ xs : List PyData, PyData.canLayAll0 xs = true → PyData.eqvAll xs xs = true
  | [], _ => by rw [PyData.eqvAll]
  | x :: xs, h => by
    rw [PyData.canLayAll0, Bool.and_eq_true] at h
    rw [PyData.eqvAll, eqv_self x h.1, eqvAll_self xs h.2]; rfl
end
theorem pl_can {d : D} (h : pl d = true) : (toPy d).canLay0 = true := SeqAt.canLay_of_shaped h
theorem eqD_self {d : D} (h : pl d = true) : eqD d d = .ok (.bl true) := by
  have e : (if (pl d && pl d) = true then (Res.ok (D.bl (PyData.eqv (toPy d) (toPy d)))) else .stuck) = .ok (.bl true) := by
    rw [h]
    show Res.ok (D.bl (PyData.eqv (toPy d) (toPy d))) = _
    rw [eqv_self _ (pl_can h)]
  cases d with
  | int i => rw [eqD_int, decide_eq_true rfl]
  | str i => rw [eqD_str, decide_eq_true rfl]
  | bl b => show Res.ok (D.bl (decide (b = b))) = _; rw [decide_eq_true rfl]
  | non => unfold eqD; rfl
  | _ => unfold eqD; exact e
theorem neD_self {d : D} (h : pl d = true) : neD d d = .ok (.bl false) := by
  unfold neD; rw [eqD_self h]; rfl
/-- data that can be compared, of depth n at most -/
def shD (n : Nat) (d : D) : Prop := (toPy d).canLay0 = true ∧ (toPy d).depth ≤ n
theorem pl_of {d : D} (h : shD 64 d) : pl d = true := by
  unfold pl SeqAt.shaped
  rw [h.1, decide_eq_true h.2]; rfl
theorem shD.mono {n m : Nat} {d : D} (h : shD n d) (hm : n ≤ m) : shD m d := ⟨h.1, Nat.le_trans h.2 hm⟩
theorem sh_int {n : Nat} {i : Int} : shD n (.int i) := ⟨by rw [toPy, PyData.canLay0], by rw [toPy, PyData.depth]; exact Nat.zero_le _⟩
theorem sh_bl {n : Nat} {i : Bool} : shD n (.bl i) := ⟨by rw [toPy, PyData.canLay0], by rw [toPy, PyData.depth]; exact Nat.zero_le _⟩
theorem sh_non {n : Nat} : shD n .non := ⟨by rw [toPy, PyData.canLay0], by rw [toPy, PyData.depth]; exact Nat.zero_le _⟩
theorem sh_all {n : Nat} : ∀ {xs : List D}, (∀ x ∈ xs, shD n x) → PyData.canLayAll0 (toPys xs) = true ∧ PyData.depthAll (toPys xs) ≤ n
  | [], _ => by rw [toPys, PyData.canLayAll0, PyData.depthAll]; exact ⟨rfl, Nat.zero_le _⟩
  | x :: xs, h => by
    obtain ⟨h1, h2⟩ := sh_all (xs := xs) fun y hy => h y (List.mem_cons_of_mem _ hy)
    obtain ⟨g1, g2⟩ := h x List.mem_cons_self
    rw [toPys, PyData.canLayAll0, PyData.depthAll, g1, h1]
    exact ⟨rfl, Nat.max_le.mpr ⟨g2, h2⟩⟩
theorem sh_lst {n : Nat} {xs : List D} (h : ∀ x ∈ xs, shD n x) : shD (n + 1) (.lst xs) := by
  obtain ⟨h1, h2⟩ := sh_all h
  exact ⟨by rw [toPy, PyData.canLay0]; exact h1, by rw [toPy, PyData.depth]; omega⟩
theorem sh_tup {n : Nat} {xs : List D} (h : ∀ x ∈ xs, shD n x) : shD (n + 1) (.tup xs) := by
  obtain ⟨h1, h2⟩ := sh_all h
  exact ⟨by rw [toPy, PyData.canLay0]; exact h1, by rw [toPy, PyData.depth]; omega⟩
theorem sh_str {n : Nat} {l : List Nat} (h : ∀ c ∈ l, c < 1114112) : shD n (.str l) := ⟨by
  rw [toPy, PyData.canLay0]
  simp only [PySem.PyData.strOk, Array.all_eq_true']
  intro c hc
  exact decide_eq_true (h c (by simpa using hc)), by rw [toPy, PyData.depth]; exact Nat.zero_le _⟩
theorem pl_ints {ns : List Int} : pl (.lst (ns.map .int)) = true := pl_of ((sh_lst (n := 0) fun x hx => by
  obtain ⟨i, _, rfl⟩ := List.mem_map.mp hx
  exact sh_int).mono (by decide))
theorem joinL_nil : ∀ ls : List (List Nat), TL.joinL [] ls = ls.flatten
  | [] => rfl
  | [x] => by simp [TL.joinL]
  | x :: y :: r => by rw [TL.joinL, joinL_nil (y :: r)]; simp
theorem sum_lens : ∀ ls : List (List Nat), (ls.map List.length).sum = ls.flatten.length
  | [] => rfl
  | x :: r => by rw [List.map_cons, List.sum_cons, sum_lens r, List.flatten_cons, List.length_append]
theorem join_is {ls : List (List Nat)} (h : ls.flatten.length ≤ line) : joinD [] (.lst (ls.map .str)) = .ok (.str ls.flatten) := by
  have e : joinD [] (.lst (ls.map .str)) = (match textsO (ls.map .str) with | some ls => if (ls.map List.length).sum + ls.length * ([] : List Nat).length ≤ line then .ok (.str (TL.joinL [] ls)) else .stuck | none => .stuck) := rfl
  rw [e, texts_map]
  show (if (ls.map List.length).sum + ls.length * ([] : List Nat).length ≤ line then _ else _) = _
  rw [if_pos (by rw [sum_lens]; simpa using h), joinL_nil]
theorem told_of {x : Str} {l : List Nat} {fe : Sto → Res D} {δ : Sto} (hx : x ∈ exc7) (hl : TL.tl x = l) (h : fe δ = .rs x) : told fe δ = .ok (.str l) := by
  unfold told
  rw [h]
  show (if x ∈ exc7 then _ else _) = _
  rw [if_pos hx, hl]
theorem told_ok' {d : D} {fe : Sto → Res D} {δ : Sto} (h : fe δ = .ok d) : told fe δ = .ok d := by
  unfold told
  rw [h]
theorem told_BadNumber {fe : Sto → Res D} {δ : Sto} (h : fe δ = .rs "BadNumber") : told fe δ = .ok (.str [66, 97, 100, 78, 117, 109, 98, 101, 114]) := told_of (by decide +kernel) rfl h
theorem told_BadBits {fe : Sto → Res D} {δ : Sto} (h : fe δ = .rs "BadBits") : told fe δ = .ok (.str [66, 97, 100, 66, 105, 116, 115]) := told_of (by decide +kernel) rfl h
theorem told_BadPlace {fe : Sto → Res D} {δ : Sto} (h : fe δ = .rs "BadPlace") : told fe δ = .ok (.str [66, 97, 100, 80, 108, 97, 99, 101]) := told_of (by decide +kernel) rfl h
theorem told_BadText {fe : Sto → Res D} {δ : Sto} (h : fe δ = .rs "BadText") : told fe δ = .ok (.str [66, 97, 100, 84, 101, 120, 116]) := told_of (by decide +kernel) rfl h
theorem told_BadCode {fe : Sto → Res D} {δ : Sto} (h : fe δ = .rs "BadCode") : told fe δ = .ok (.str [66, 97, 100, 67, 111, 100, 101]) := told_of (by decide +kernel) rfl h
theorem told_BadTree {fe : Sto → Res D} {δ : Sto} (h : fe δ = .rs "BadTree") : told fe δ = .ok (.str [66, 97, 100, 84, 114, 101, 101]) := told_of (by decide +kernel) rfl h
theorem told_TooMany {fe : Sto → Res D} {δ : Sto} (h : fe δ = .rs "TooMany") : told fe δ = .ok (.str [84, 111, 111, 77, 97, 110, 121]) := told_of (by decide +kernel) rfl h
theorem pl_texts {ts : List (List Nat)} (h : ∀ t ∈ ts, ∀ c ∈ t, c < 1114112) : pl (.lst (ts.map .str)) = true := pl_of ((sh_lst (n := 0) fun x hx => by
  obtain ⟨t, ht, rfl⟩ := List.mem_map.mp hx
  exact sh_str (h t ht)).mono (by decide))
theorem toPys_len : ∀ xs : List D, (toPys xs).length = xs.length
  | [] => by rw [toPys]; rfl
  | x :: xs => by rw [toPys, List.length_cons, List.length_cons, toPys_len xs]
theorem script_nil (ns : List Int) : eqD (.scr ns) (.lst []) = .ok (.bl (decide (ns = []))) := by
  have p1 : pl (.scr ns) = true := pl_of (by
    refine ⟨?_, ?_⟩
    · rw [toPy, PyData.canLay0]
      induction ns with
      | nil => rw [List.map_nil, PyData.canLayAll0]
      | cons n ns ih => rw [List.map_cons, PyData.canLayAll0, ih, PyData.canLay0]; rfl
    · rw [toPy, PyData.depth]
      have : PyData.depthAll (ns.map PyData.int) = 0 := by
        induction ns with
        | nil => rw [List.map_nil, PyData.depthAll]
        | cons n ns ih => rw [List.map_cons, PyData.depthAll, ih, PyData.depth]; rfl
      omega)
  have p2 : pl (.lst []) = true := pl_of (sh_lst (n := 63) fun x hx => by cases hx)
  unfold eqD
  show (if (pl (.scr ns) && pl (.lst [])) = true then (Res.ok (D.bl (PyData.eqv (toPy (.scr ns)) (toPy (.lst []))))) else .stuck) = _
  rw [p1, p2]
  show Res.ok (D.bl (PyData.eqv (toPy (.scr ns)) (toPy (.lst [])))) = _
  rw [toPy, toPy, toPys, PyData.eqv]
  cases ns with
  | nil => rw [List.map_nil, PyData.eqvAll]; rfl
  | cons n ns => rw [List.map_cons, PyData.eqvAll]; rfl
end Dn


set_option Elab.async false
set_option linter.all false
set_option maxRecDepth 100000
set_option maxHeartbeats 4000000
namespace Dn
open PySem PySem.Spec PyProof.Rows L2
/-! ### more methods of texts -/
def metS (g : List Nat → List D → Res D) (fo : Sto → Res D) (fa : Sto → Res (List D)) : Sto → Res D := fun δ => (fo δ).bind fun x => match x with
  | .str l => (fa δ).bind (g l)
  | _ => .stuck
/-- the place of the first c from i on -/
def fnd (c i : Nat) (l : List Nat) : Int := match (l.drop i).findIdx? (fun d => d == c) with
  | some j => ((i + j : Nat) : Int)
  | none => -1
def findD (l : List Nat) : List D → Res D
  | [.str [c], .int i] => if 0 ≤ i then .ok (.int (fnd c i.toNat l)) else .stuck
  | _ => .stuck
theorem getD_tl (x : Str) (v : Nat) : x.cps.getD v 0 = (TL.tl x).getD v 0 := by
  obtain ⟨⟨l⟩⟩ := x
  show (Array.mk l).getD v 0 = l.getD v 0
  by_cases h : v < l.length
  · simp [Array.getD, h]
  · simp [Array.getD, h]
theorem find_is (x : Str) (c : Nat) (i : Int) (hi : 0 ≤ i) : Txt.find3 x ⟨#[c]⟩ i = fnd c i.toNat (TL.tl x) := by
  have hl : x.length = (TL.tl x).length := TL.len_tl x ▸ rfl
  have e : PySem.fromIndex x.length i = i.toNat := by
    unfold PySem.fromIndex
    omega
  unfold fnd
  rcases StrLaws.find3_spec x c i with ⟨h1, h2⟩ | ⟨k, h1, h2, h3, h4, h5⟩
  · rw [h1]
    have : ((TL.tl x).drop i.toNat).findIdx? (fun d => d == c) = none := by
      rw [List.findIdx?_eq_none_iff]
      intro d hd
      obtain ⟨j, hj⟩ := List.mem_iff_getElem?.mp hd
      rw [List.getElem?_drop] at hj
      have hlt := (List.getElem?_eq_some_iff.mp hj).1
      have := h2 (i.toNat + j) (by omega) (by omega)
      rw [getD_tl, List.getD_eq_getElem?_getD, hj] at this
      simpa using this
    rw [this]
  · rw [h1]
    have : ((TL.tl x).drop i.toNat).findIdx? (fun d => d == c) = some (k - i.toNat) := by
      rw [List.findIdx?_eq_some_iff_getElem]
      refine ⟨by rw [List.length_drop]; omega, ?_, fun j hj => ?_⟩
      · rw [List.getElem_drop]
        rw [getD_tl, List.getD_eq_getElem?_getD, List.getElem?_eq_getElem (by omega)] at h4
        simp only [show i.toNat + (k - i.toNat) = k by omega]
        simpa using h4
      · have := h5 (i.toNat + j) (by omega) (by omega)
        rw [getD_tl, List.getD_eq_getElem?_getD, List.getElem?_eq_getElem (by omega)] at this
        rw [List.getElem_drop]
        simpa using this
    rw [this]
    show (k : Int) = ((i.toNat + (k - i.toNat) : Nat) : Int)
    omega
section
variable {T : List (Addr × Str)} {X : Cx} {W : Wi}
theorem de_find {o e e2 : Expr} {fo : Sto → Res D} {fa : Sto → Res (List D)} {apos pos : Pos} (ho : DE T X W o fo) (ha : DA T X W [e, e2] fa) (hs : starEach [e, e2] X.env = (false, eval e X.env) :: starEach [e2] X.env := by rfl) (hbase : attributeBase o "find" X.env (eval o X.env) = eval o X.env := by rfl)
    (hfew : ((backTo pos (starEach [e, e2] X.env)).all (fun x => !x.1) && (backToKw pos (keywordEach [] X.env)).all (fun x => x.1.isSome) && decide ([e, e2].length + ([] : List Keyword).length + (if ([] : List Keyword).isEmpty then 0 else 1) < 30)) = true := by rfl)
    (hline : (apos.endLine == pos.line) = true := by rfl) (hplain : (backTo pos (starEach [e2] X.env)).any (·.1) = false := by rfl) :
    DE T X W (.Call (.Attribute o "find" apos) [e, e2] [] pos) (metS findD fo fa) :=
  weakE (pe_bm PySem.F.plainAttrs_str PySem.F.slot_str_find PySem.F.type_str_find mt_find3 ho ha hbase hfew hline hs hplain) fun σ H Q ⟨F, δ, L, h⟩ => bindE ppE L h fun x v F1 H1 s1 L1 r1 h1 => by
    cases r1 with
    | @str a l e0 =>
      refine ⟨rfl, bindA ppE L1 h1 fun ys us F2 H2 s2 L2 r2 h2 => ?_⟩
      unfold findD at h2
      split at h2
      · rename_i c i
        obtain ⟨u, v, rfl, r3, r4⟩ := RpL.two r2
        cases r4
        cases r3 with
        | str e1 =>
          have e2 := one_sign e1
          subst e2 e0
          obtain ⟨hi, h3⟩ := PostE.ite h2
          refine ⟨a, _, i, rfl, rfl, h3.here L2.gd ?_⟩
          rw [find_is a c i hi]
          exact .int _
      · exact h2.elim
    | _ => exact (show False from h1).elim
@[simp] theorem metS_eq {g : List Nat → List D → Res D} {fo : Sto → Res D} {fa : Sto → Res (List D)} {δ : Sto} : metS g fo fa δ = (fo δ).bind fun x => (match x with | .str l => (fa δ).bind (g l) | _ => .stuck) := nrfl rfl
end
end Dn


set_option Elab.async false
set_option linter.all false
set_option maxRecDepth 100000
set_option maxHeartbeats 4000000
namespace Dn
open PySem PySem.Spec PyProof.Rows L2
/-! ### numbers and their bits -/
def nb (n : Nat) : Nat := if h : n = 0 then 0 else nb (n / 2) + 1
decreasing_by omega
theorem nb_zero : nb 0 = 0 := by rw [nb]; rfl
theorem nb_pos {n : Nat} (h : n ≠ 0) : nb n = nb (n / 2) + 1 := by rw [nb, dif_neg h]
theorem nb_le : ∀ (w n : Nat), nb n ≤ w ↔ n < 2 ^ w
  | 0, n => by
    by_cases h : n = 0
    · subst h; rw [nb_zero]; simp
    · rw [nb_pos h]; simp; omega
  | w + 1, n => by
    by_cases h : n = 0
    · subst h; rw [nb_zero]; exact ⟨fun _ => Nat.two_pow_pos _, fun _ => Nat.zero_le _⟩
    · rw [nb_pos h]
      have ih := nb_le w (n / 2)
      rw [Nat.pow_succ]
      constructor
      · intro q
        have := ih.mp (by omega)
        omega
      · intro q
        have := ih.mpr (by omega)
        omega
/-- the w low bits of a number, as a text of noughts and ones -/
def tb : Nat → Int → List Nat
  | 0, _ => []
  | w + 1, n => tb w (n / 2) ++ [48 + (n % 2).toNat]
theorem tb_len : ∀ (w : Nat) (n : Int), (tb w n).length = w
  | 0, _ => rfl
  | w + 1, n => by rw [tb, List.length_append, tb_len w]; rfl
def isBit (c : Nat) : Prop := c = 48 ∨ c = 49
instance (c : Nat) : Decidable (isBit c) := inferInstanceAs (Decidable (c = 48 ∨ c = 49))
theorem bit_lt {c : Nat} (h : isBit c) : c < 1114112 := by rcases h with rfl | rfl <;> decide
theorem tb_bit : ∀ (w : Nat) (n : Int), ∀ c ∈ tb w n, isBit c
  | 0, _, c, h => by cases h
  | w + 1, n, c, h => by
    rw [tb, List.mem_append] at h
    rcases h with h | h
    · exact tb_bit w _ c h
    · rw [List.mem_singleton] at h
      have : n % 2 = 0 ∨ n % 2 = 1 := by omega
      subst h
      rcases this with e | e <;> rw [e]
      · exact .inl rfl
      · exact .inr rfl
/-- the number that a text of bits tells, behind a -/
def vl (a : Int) (l : List Nat) : Int := l.foldl (fun a c => 2 * a + ((c - 48 : Nat) : Int)) a
theorem vl_app (a : Int) (l m : List Nat) : vl a (l ++ m) = vl (vl a l) m := List.foldl_append
theorem vl_tb : ∀ (w : Nat) (n : Int), 0 ≤ n → n < 2 ^ w → vl 0 (tb w n) = n
  | 0, n, h0, h1 => by
    have : n = 0 := by simpa using (show n = 0 by have : n < 1 := h1; omega)
    rw [this]; rfl
  | w + 1, n, h0, h1 => by
    rw [tb, vl_app, vl_tb w (n / 2) (by omega) (by rw [Int.pow_succ] at h1; omega)]
    show 2 * (n / 2) + (((48 + (n % 2).toNat) - 48 : Nat) : Int) = n
    omega
theorem tb_nat (w : Nat) (n : Int) (h : 0 ≤ n) : nb n.toNat ≤ w ↔ n < 2 ^ w := by
  rw [nb_le]
  have e : ((2 ^ w : Nat) : Int) = 2 ^ w := by norm_cast
  omega
/-! ### cutting -/
theorem sIx_nat {n d k : Nat} : HT.sIx n d (some (k : Int)) = min k n := HT.sIx_nat n d k
theorem cut_mid {α : Type} {a b c : List α} {i j : Int} (hi : i = (a.length : Nat)) (hj : j = ((a.length + b.length : Nat) : Int)) : cutL (a ++ b ++ c) (some i) (some j) = b := by
  unfold cutL
  rw [hi, hj, sIx_nat, sIx_nat]
  have l1 : (a ++ b ++ c).length = a.length + b.length + c.length := by simp [Nat.add_assoc]
  rw [l1, Nat.min_eq_left (by omega), Nat.min_eq_left (by omega), List.append_assoc, List.drop_left]
  rw [show a.length + b.length - a.length = b.length by omega, List.take_left]
theorem cut_all {α : Type} {a : List α} {j : Int} (hj : j = ((a.length : Nat) : Int)) : cutL a none (some j) = a := by
  unfold cutL
  rw [hj, sIx_nat, HT.sIx_none, Nat.min_self, List.drop_zero, Nat.sub_zero, List.take_length]
theorem cut_none {α : Type} {a : List α} : cutL a none (some 0) = [] := by
  unfold cutL
  rw [show (0 : Int) = ((0 : Nat) : Int) from rfl, sIx_nat, HT.sIx_none, Nat.zero_min]
  simp
/-- a list of pieces of one length -/
theorem flat_split {α : Type} {w : Nat} : ∀ {ls : List (List α)} {i : Nat} {l : List α}, (∀ x ∈ ls, x.length = w) → ls[i]? = some l → ∃ a c, ls.flatten = a ++ l ++ c ∧ a.length = i * w
  | [], _, _, _, h => by cases h
  | x :: ls, 0, l, hw, h => by
    cases h
    exact ⟨[], ls.flatten, by simp, by simp⟩
  | x :: ls, i + 1, l, hw, h => by
    obtain ⟨a, c, e, ea⟩ := flat_split (i := i) (fun y hy => hw y (List.mem_cons_of_mem _ hy)) (by simpa using h)
    refine ⟨x ++ a, c, by rw [List.flatten_cons, e]; simp, ?_⟩
    rw [List.length_append, hw x List.mem_cons_self, ea, Nat.succ_mul]; omega
theorem flat_len {α : Type} {w : Nat} : ∀ {ls : List (List α)}, (∀ x ∈ ls, x.length = w) → ls.flatten.length = ls.length * w
  | [], _ => by simp
  | x :: ls, hw => by
    rw [List.flatten_cons, List.length_append, hw x List.mem_cons_self, flat_len fun y hy => hw y (List.mem_cons_of_mem _ hy), List.length_cons, Nat.succ_mul]; omega
end Dn


set_option Elab.async false
set_option linter.all false
set_option maxRecDepth 100000
set_option maxHeartbeats 4000000
namespace Dn
open PySem PySem.Spec PyProof.Rows L2
/-! ### objects: what is read -/
def fldD (c f : Str) : D → Res D
  | .obj c' fs => if c' = c then (match fs.lookup f with
    | some d => .ok d
    | none => .stuck) else .stuck
  | _ => .stuck
def fldO (i : Nat) (c f : Str) : Sto → Res D := fun δ => match δ[i]? with
  | some (.ins c' fs) => if c' = c then (match fs.lookup f with
    | some d => .ok d
    | none => .stuck) else .stuck
  | _ => .stuck
def FldP (K : PySem.W.Frag) (mg : Str → Option Value) (c f : Str) : Prop := ∃ C, mg c = some (.ref C) ∧ Cls K C ∧ NoAttr K C f
section
variable {K : PySem.W.Frag} {mg : Str → Option Value} {F : Hp}
theorem Flds.look : ∀ {gs : List (Str × V)} {fs : List (Str × D)} {f : Str} {d : D}, Flds K mg F gs fs → fs.lookup f = some d → ∃ v, gs.lookup f = some v ∧ Rp K mg F v d
  | _, _, _, _, .nil, e => by cases e
  | (g, v) :: gs, (g', d') :: fs, f, d, .cons ⟨e1, r⟩ t, e => by
    have e1 : g = g' := e1
    subst e1
    by_cases h : f = g
    · subst h
      rw [List.lookup_cons_self] at e
      cases e
      exact ⟨v, List.lookup_cons_self, r⟩
    · have hb : (f == g) = false := beq_eq_false_iff_ne.mpr h
      rw [List.lookup_cons, hb] at e
      obtain ⟨w, h1, h2⟩ := Flds.look (gs := gs) t e
      exact ⟨w, by rw [List.lookup_cons, hb]; exact h1, h2⟩
theorem Flds.back : ∀ {gs : List (Str × V)} {fs : List (Str × D)} {f : Str} {v : V}, Flds K mg F gs fs → gs.lookup f = some v → ∃ d, fs.lookup f = some d ∧ Rp K mg F v d
  | _, _, _, _, .nil, e => by cases e
  | (g, v) :: gs, (g', d') :: fs, f, d, .cons ⟨e1, r⟩ t, e => by
    have e1 : g = g' := e1
    subst e1
    by_cases h : f = g
    · subst h
      rw [List.lookup_cons_self] at e
      cases e
      exact ⟨d', List.lookup_cons_self, r⟩
    · have hb : (f == g) = false := beq_eq_false_iff_ne.mpr h
      rw [List.lookup_cons, hb] at e
      obtain ⟨w, h1, h2⟩ := Flds.back (gs := gs) t e
      exact ⟨w, by rw [List.lookup_cons, hb]; exact h1, h2⟩
def putD (f : Str) (d : D) : List (Str × D) → List (Str × D)
  | [] => [(f, d)]
  | (g, x) :: r => if g = f then (g, d) :: r else (g, x) :: putD f d r
theorem Flds.put {f : Str} {v : V} {d : D} (rv : Rp K mg F v d) : ∀ {gs : List (Str × V)} {fs : List (Str × D)}, Flds K mg F gs fs → Flds K mg F (putF f v gs) (putD f d fs)
  | _, _, .nil => .cons ⟨rfl, rv⟩ .nil
  | (g, u) :: gs, (g', d') :: fs, .cons ⟨e1, r⟩ t => by
    have e1 : g = g' := e1
    subst e1
    unfold putF putD
    by_cases h : g = f
    · rw [if_pos h, if_pos h]; exact .cons ⟨rfl, rv⟩ t
    · rw [if_neg h, if_neg h]; exact .cons ⟨rfl, r⟩ (Flds.put rv t)
end
section
variable {T : List (Addr × Str)} {X : Cx} {W : Wi} {c f : Str} {pos p : Pos}
theorem de_fld {o : Expr} {fo : Sto → Res D} (P : FldP X.K X.mg c f) (ho : DE T X W o fo) (hb : attributeBase o f X.env (eval o X.env) = eval o X.env := by rfl) : DE T X W (.Attribute o f pos) (un (fldD c f) fo) :=
  weakE (pe_fld ho hb) fun σ H Q ⟨F, δ, L, h⟩ => bindE ppE L h fun x v F1 H1 s1 L1 r1 h1 => by
    unfold fldD at h1
    split at h1
    · rename_i c' fs
      obtain ⟨hc, h2⟩ := PostE.ite h1
      subst hc
      split at h2
      · rename_i d e
        obtain ⟨C, hm, cl, na⟩ := P
        cases r1 with
        | obj vf hm' hF h0 g1 g2 g3 g4 g5 =>
          rw [hm] at hm'; cases hm'
          exact ⟨_, C, _, _, vf f, rfl, L1.sub _ _ hF, cl, na, g1 f d e, h2.here L1.gd (g2 f d e)⟩
      · exact h2.elim
    · exact h1.elim
theorem de_fldO {x : Str} (i : Nat) (P : FldP X.K X.mg c f) (hN : X.N[i]? = some x := by rfl) (hv : Vis X.env.scope x := by first | exact Or.inl rfl | exact Or.inr (Or.inl rfl) | exact Or.inr (Or.inr rfl)) (hd : (x == ("__debug__" : Str)) = false := by decide) (hcd : (x == ("__classdict__" : Str)) = false := by decide)
    (hb : attributeBase (.Name x p) f X.env (eval (.Name x p) X.env) = eval (.Name x p) X.env := by rfl) : DE T X W (.Attribute (.Name x p) f pos) (fldO i c f) :=
  weakE (pe_fld (pe_var (i := i) hN hv hd hcd) hb) fun σ H Q ⟨F, δ, L, h⟩ => by
    unfold fldO at h
    split at h
    · rename_i c' fs e
      obtain ⟨hc, h2⟩ := PostE.ite h
      subst hc
      split at h2
      · rename_i d ed
        obtain ⟨C, hm, cl, na⟩ := P
        obtain ⟨ov, q, a, C', dx, gs, rfl, n1, n2, hm', hH, hdx, fl⟩ := L.slot i _ e
        rw [hm] at hm'; cases hm'
        obtain ⟨v, lv, rv⟩ := fl.look ed
        exact ⟨_, q, a, C, dx, gs, v, rfl, hH, cl, na, lv, h2.here L.gd rv⟩
      · exact h2.elim
    · exact h.elim
/-! ### objects: what is written -/
/-- an own instance is turned -/
theorem StR.turnI {K : PySem.W.Frag} {mg : Str → Option Value} {F0 : Hp} {H0 : Hp × Addr} {F H : Hp} {σ : L2.St} {δ : Sto} (S : StR K mg T F0 H0 F H σ δ) {i : Nat} {c : Str} {fs fs' : List (Str × D)} {a C dx : Addr} {gs gs' : List (Str × V)} (e : δ[i]? = some (.ins c fs)) (q : σ[i]? = some (some (.ref a))) (hm : mg c = some (.ref C)) (hH : H a = some (.ins C dx gs)) (r : Flds K mg F gs' fs') :
    StR K mg T F0 H0 F (upd H a (.ins C dx gs')) σ (δ.set i (.ins c fs')) := by
  obtain ⟨ov, q1, a', C', dx', gs1, rfl, nF, nD, hm', hH', hD, rv⟩ := S.loc.slot i _ e
  rw [q] at q1; cases q1
  rw [hH] at hH'; cases hH'
  obtain ⟨n0, n1⟩ := S.fresh i _ a e rfl q
  have hda : dx ≠ a := fun z => by rw [z, hH] at hD; cases hD
  have st : Step T F0 H0.1 F (upd H a (.ins C dx gs')) := S.st.turn n0 nF (fun ps z => by rw [hH] at z; cases z) (fun φ z => by rw [hH] at z; cases z)
  refine ⟨S.sub0, st, ⟨st.gd, by rw [List.length_set]; exact S.loc.len, fun j s z => ?_, fun j k s1 s2 b hjk e1 e2 o1 o2 q1 q2 => ?_⟩, fun j s b z o q' => ?_⟩
  · rcases set_cases z with ⟨rfl, rfl, _⟩ | ⟨hj, z⟩
    · exact ⟨_, q, a, C, dx, gs', rfl, nF, nD, hm, upd_same, by rw [upd_ne hda]; exact hD, r⟩
    · obtain ⟨ov, q', ok⟩ := S.loc.slot j s z
      refine ⟨ov, q', ?_⟩
      cases s with
      | no => trivial
      | val d => exact ok
      | own es =>
        obtain ⟨b, us, rfl, n, h, r⟩ := ok
        have hb : b ≠ a := fun zz => S.loc.apart j i _ _ b hj z e rfl rfl q' (by rw [zz]; exact q)
        exact ⟨b, us, rfl, n, by rw [upd_ne hb]; exact h, r⟩
      | ins c2 fs2 =>
        obtain ⟨b, C2, dx2, gs2, rfl, n, n', hm2, h, h', r⟩ := ok
        have hb : b ≠ a := fun zz => S.loc.apart j i _ _ b hj z e rfl rfl q' (by rw [zz]; exact q)
        have hd : dx2 ≠ a := fun zz => by rw [zz, hH] at h'; cases h'
        exact ⟨b, C2, dx2, gs2, rfl, n, n', hm2, by rw [upd_ne hb]; exact h, by rw [upd_ne hd]; exact h', r⟩
  · have own : ∀ {j : Nat} {s : Slot}, (δ.set i (.ins c fs'))[j]? = some s → s.owned = true → ∃ s' : Slot, δ[j]? = some s' ∧ s'.owned = true := fun {j s} z o => by
      rcases set_cases z with ⟨rfl, rfl, _⟩ | ⟨_, z⟩
      · exact ⟨_, e, rfl⟩
      · exact ⟨s, z, o⟩
    obtain ⟨t1, f1, g1⟩ := own e1 o1
    obtain ⟨t2, f2, g2⟩ := own e2 o2
    exact S.loc.apart j k t1 t2 b hjk f1 f2 g1 g2 q1 q2
  · rcases set_cases z with ⟨rfl, rfl, _⟩ | ⟨hj, z⟩
    · rw [q] at q'; cases q'
      refine ⟨n0, fun C2 dx2 gs2 zz => ?_⟩
      rw [upd_same] at zz; cases zz
      exact n1 _ _ _ hH
    · obtain ⟨h1, h2⟩ := S.fresh j s b z o q'
      have hb : b ≠ a := fun zz => S.loc.apart j i _ _ b hj z e o rfl q' (by rw [zz]; exact q)
      exact ⟨h1, fun C dx gs zz => h2 C dx gs (by rw [upd_ne hb] at zz; exact zz)⟩
def fstS (i : Nat) (c f : Str) (fe : Sto → Res D) : Sto → Out := fun δ => (fe δ).out fun d => match δ[i]? with
  | some (.ins c' fs) => if c' = c ∧ fs.length < 100 then .nx (δ.set i (.ins c (putD f d fs))) else .stuck
  | _ => .stuck
theorem Flds.len {K : PySem.W.Frag} {mg : Str → Option Value} {F : Hp} {gs : List (Str × V)} {fs : List (Str × D)} (h : Flds K mg F gs fs) : gs.length = fs.length := Paired.length h
theorem ds_fst {x : Str} {e : Expr} {fe : Sto → Res D} {pos' : Pos} (i : Nat) (P : FldP X.K X.mg c f) (he : DE T X W e fe) (hN : X.N[i]? = some x := by rfl) (hv : Vis X.env.scope x := by first | exact Or.inl rfl | exact Or.inr (Or.inl rfl) | exact Or.inr (Or.inr rfl)) (hd : (x == ("__debug__" : Str)) = false := by decide) (hcd : (x == ("__classdict__" : Str)) = false := by decide)
    (hs : swapsWith e (some (.Attribute (.Name x p) f pos')) pos.line X.env = pure false := by rfl) : DS T X W (.Assign [.Attribute (.Name x p) f pos'] e pos) (fstS i c f fe) :=
  weakS (ps_fld (pe_var (i := i) hN hv hd hcd) he hs) fun D' σ H ⟨F0, H0, F, δ, S, h⟩ => outE S h fun d v F1 H1 r1 S1 rv h1 => by
    split at h1
    · rename_i c' fs e1
      by_cases hc : c' = c ∧ fs.length < 100
      · rw [if_pos hc] at h1
        obtain ⟨rfl, hl⟩ := hc
        obtain ⟨C, hm, cl, na⟩ := P
        obtain ⟨ov, q, a, C', dx, gs, rfl, n1, n2, hm', hH, hdx, fl⟩ := S1.loc.slot i _ e1
        rw [hm] at hm'; cases hm'
        refine ⟨_, q, a, C, dx, gs, rfl, hH, cl, na, by rw [fl.len]; omega, ?_⟩
        exact h1 σ F1 _ (.refl F1) (S1.turnI e1 q hm hH (fl.put rv))
      · rw [if_neg hc] at h1; exact h1.elim
    · exact h1.elim
end
end Dn


set_option Elab.async false
set_option linter.all false
set_option maxRecDepth 100000
set_option maxHeartbeats 4000000
namespace Dn
open PySem PySem.Spec PyProof.Rows L2
/-! ### the counter of looks -/
theorem Step.bump {T : List (Addr × Str)} {F H : Hp} {a C dx : Addr} {gs gs' : List (Str × V)} (g : Gd T F H) (h : F a = some (.ins C dx gs)) (c : Chg (.ins C dx gs) (.ins C dx gs')) : Step T F H (upd F a (.ins C dx gs')) (upd H a (.ins C dx gs')) := by
  have hH := g.sub a _ h
  refine ⟨fun b u e => ?_, ⟨fun b u e => ?_, fun x hx => ?_, fun b ps e => ?_⟩, fun b u n e _ => ?_, fun b u n e v => ?_⟩
  · by_cases z : b = a
    · subst z
      rw [h] at e; cases e
      exact ⟨_, upd_same, c⟩
    · exact ⟨u, by rw [upd_ne z]; exact e, .refl u⟩
  · by_cases z : b = a
    · subst z; rw [upd_same] at e ⊢; exact e
    · rw [upd_ne z] at e ⊢; exact g.sub b u e
  · obtain ⟨ps, e1, e2, e3⟩ := g.tabs x hx
    refine ⟨ps, ?_, e2, fun pos cv hc => ?_⟩
    · rw [upd_ne (fun z => by rw [z, hH] at e1; cases e1)]; exact e1
    · obtain ⟨d, h1, h2⟩ := e3 pos cv hc
      exact ⟨d, h1, by rw [upd_ne (fun z => by rw [z, hH] at h2; cases h2)]; exact h2⟩
  · by_cases z : b = a
    · subst z; rw [upd_same] at e; cases e
    · rw [upd_ne z] at e; exact g.ntb b ps e
  · have z : b ≠ a := fun z => by rw [z, h] at n; cases n
    rw [upd_ne z]; exact e
  · have z : b ≠ a := fun z => by rw [z, h] at n; cases n
    exact ⟨by rw [upd_ne z]; exact n, u, by rw [upd_ne z]; exact e, v⟩
theorem put_len {f : Str} {v u : V} : ∀ {gs : List (Str × V)}, gs.lookup f = some u → (putF f v gs).length = gs.length
  | [], e => by cases e
  | (g, w) :: gs, e => by
    unfold putF
    by_cases h : g = f
    · rw [if_pos h]; rfl
    · rw [if_neg h]
      have hb : (f == g) = false := beq_eq_false_iff_ne.mpr (Ne.symm h)
      rw [List.lookup_cons, hb] at e
      rw [List.length_cons, List.length_cons, put_len e]
def bmpS (i : Nat) : Sto → Out := fun δ => match δ[i]? with
  | some (.val (.obj c fs)) => if c = ("Row" : Str) then .nx δ else .stuck
  | _ => .stuck
section
variable {T : List (Addr × Str)} {X : Cx} {W : Wi} {p p2 p3 p4 p5 pos pos' : Pos}
/-- x.seen = x.seen + 1 -/
theorem ds_bump {x : Str} {j : Nat} (i : Nat) (P : FldP X.K X.mg "Row" "seen") (hN : X.N[i]? = some x := by rfl) (hv : Vis X.env.scope x := by first | exact Or.inl rfl | exact Or.inr (Or.inl rfl) | exact Or.inr (Or.inr rfl)) (hd : (x == ("__debug__" : Str)) = false := by decide) (hcd : (x == ("__classdict__" : Str)) = false := by decide)
    (hb : attributeBase (.Name x p2) "seen" X.env (eval (.Name x p2) X.env) = eval (.Name x p2) X.env := by rfl)
    (hs : swapsWith (.BinOp (.Attribute (.Name x p2) "seen" p3) .Add (.Constant (.int 1) j p4) p5) (some (.Attribute (.Name x p) "seen" pos')) pos.line X.env = pure false := by rfl) :
    DS T X W (.Assign [.Attribute (.Name x p) "seen" pos'] (.BinOp (.Attribute (.Name x p2) "seen" p3) .Add (.Constant (.int 1) j p4) p5) pos) (bmpS i) :=
  weakS (ps_fld (pe_var (i := i) hN hv hd hcd) (pe_op op_add (pe_fld (pe_var (i := i) hN hv hd hcd) hb) pe_int) hs) fun D' σ H ⟨F0, H0, F, δ, S, h⟩ => by
    unfold bmpS at h
    split at h
    · rename_i c fs e
      by_cases hc : c = ("Row" : Str)
      · rw [if_pos hc] at h
        subst hc
        obtain ⟨C, hm, cl, na⟩ := P
        obtain ⟨ov, q, v, rfl, r⟩ := S.loc.slot i _ e
        cases r with
        | @obj a C' dx gs _ _ vf hm' hF h0 g1 g2 g3 g4 g5 =>
          rw [hm] at hm'; cases hm'
          obtain ⟨n, hn⟩ := g4 rfl
          have hH := S.loc.sub _ _ hF
          refine ⟨_, q, a, C, dx, gs, .int n, rfl, hH, cl, na, hn, n, 1, rfl, rfl, _, q, a, C, dx, gs, rfl, hH, cl, na, ?_, ?_⟩
          · omega
          · have ch : Chg (.ins C dx gs) (.ins C dx (putF "seen" (.int (n + 1)) gs)) := .inr ⟨C, dx, gs, _, rfl, rfl, fun m hm => by rw [lookup_putF, if_neg hm], (fun _ _ => ⟨n + 1, by rw [lookup_putF, if_pos rfl]⟩), put_len hn⟩
            have st := Step.bump S.loc.gd hF ch
            exact h σ _ _ st.r (S.step st)
      · rw [if_neg hc] at h; exact h.elim
    · exact h.elim
end
end Dn


set_option Elab.async false
set_option linter.all false
set_option maxRecDepth 100000
set_option maxHeartbeats 4000000
namespace Dn
open PySem PySem.Spec PyProof.Rows L2
/-! ### methods -/
def tMethN (C : Addr) (m : Str) (sp : Sp) (E : L2.St → XK) (ta : TE) (t : TA) : TE := fun σ H Q => ta σ H fun x H1 => ∃ a dx fs, x = .ref a ∧ H1 a = some (.ins C dx fs) ∧ fs.lookup m = none ∧ t σ H1 fun vs H2 => sp (x :: vs) H2 Q (E σ)
section
variable {T : List (Addr × Str)} {X : Cx} {W : Wi} {o e : Expr} {es : List Expr} {ta : TE} {t : TA} {C f : Addr} {m : Str} {CX : CXT} {k : Nat} {fd : FuncData} {ps : List Str} {sp : Sp} {E : L2.St → XK} {apos pos : Pos} {pl : Sem Bool}
theorem pe_mthN (he : PE X o ta) (c : Cls X.K C) (hm : Meth X.K C m f) (Fn : FnOk X.prog X.w X.K X.mg X.base CX k f fd ps sp) (hr : Room k X.A) (hb : Binds X.K fd ps []) (hx : ∀ σ, PassesAt CX X σ (E σ)) (ha : PA X (e :: es) t)
    (hst : starEach (e :: es) X.env = (false, eval e X.env) :: starEach es X.env) (hpl : (backTo pos (starEach es X.env)).any (·.1) = false)
    (ht : eval (.Call (.Attribute o m apos) (e :: es) [] pos) X.env = (do let ov ← eval o X.env; standAt apos.atName; let (f, first) ← holding [ov] (getMethod ov m pl); callWith pos f first (backTo pos (starEach (e :: es) X.env)) (backToKw pos (keywordEach [] X.env)))) :
    PE X (.Call (.Attribute o m apos) (e :: es) [] pos) (tMethN C m sp E ta t) := by
  refine ⟨fun pins s σ H Q I h => PySem.W.methodCall_KW (pl := pl) (thn (he.run pins s σ H _ I h) fun u s1 ⟨x, H1, I1, rx, a, dx, fs, ex, ea, l, q⟩ => ?_) ht⟩
  subst ex
  obtain rfl : u = Value.ref a := rx
  refine getmeth_ok I1 ea c hm l (PySem.W.callWith_K (first := [.ref a]) (h₀ := X.base) I.ok.mod.kin hm.kp (thn (ha.run pos pins s1 σ H1 _ I1 q) fun us s2 ⟨vs, H2, I2, r, q2⟩ => ⟨I2.kIn, ?_⟩) hst hpl)
  exact run_fnS (us := .ref a :: us) (vs := .ref a :: vs) Fn hr hb (hx σ) I2 (.cons rfl r) q2
theorem pe_mthN0 (he : PE X o ta) (c : Cls X.K C) (hm : Meth X.K C m f) (Fn : FnOk X.prog X.w X.K X.mg X.base CX k f fd ps sp) (hr : Room k X.A) (hb : Binds X.K fd ps []) (hx : ∀ σ, PassesAt CX X σ (E σ))
    (ht : eval (.Call (.Attribute o m apos) [] [] pos) X.env = (do let ov ← eval o X.env; standAt apos.atName; let (f, first) ← holding [ov] (getMethod ov m pl); callWith pos f first (backTo pos (starEach [] X.env)) (backToKw pos (keywordEach [] X.env)))) :
    PE X (.Call (.Attribute o m apos) [] [] pos) (tMethN C m sp E ta tNil) := by
  refine ⟨fun pins s σ H Q I h => PySem.W.methodCall_KW (pl := pl) (thn (he.run pins s σ H _ I h) fun u s1 ⟨x, H1, I1, rx, a, dx, fs, ex, ea, l, q⟩ => ?_) ht⟩
  subst ex
  obtain rfl : u = Value.ref a := rx
  exact getmeth_ok I1 ea c hm l (PySem.W.callWith_K0 (first := [.ref a]) I1.kIn hm.kp (run_fnS (us := [.ref a]) (vs := [.ref a]) Fn hr hb (hx σ) I1 (.cons rfl .nil) q))
end
/-- a method that keeps its promise -/
def MtP (P : Program) (w : World) (K : PySem.W.Frag) (mg : Str → Option Value) (base : Heap) (k : Nat) (c m : Str) (ps : List Str) (g : List D → Res D) : Prop :=
  ∃ C f fd, mg c = some (.ref C) ∧ Cls K C ∧ Meth K C m f ∧ FnOk P w K mg base (L2N.CX P w) k f fd ps (spD K mg g) ∧ L2.Binds K fd ps []
def MtT (K : PySem.W.Frag) (mg : Str → Option Value) (c m qual : Str) (st : Stmt) (ps : List Str) : Prop := ∃ C f fd, mg c = some (.ref C) ∧ Cls K C ∧ Meth K C m f ∧ Fun K m qual st f fd ∧ L2.Binds K fd ps []
def mth (c m : Str) (g : List D → Res D) (fo : Sto → Res D) (fa : Sto → Res (List D)) : Sto → Res D := fun δ => (fo δ).bind fun x => match x with
  | .obj c' fs => if c' = c ∧ fs.lookup m = none ∧ m ≠ ("seen" : Str) then (fa δ).bind fun xs => g (.obj c' fs :: xs) else .stuck
  | _ => .stuck
section
variable {P : Program} {w : World} {K : PySem.W.Frag} {mg : Str → Option Value} {base : Heap}
theorem mtP {c m qual : Str} {st : Stmt} {N ps : List Str} {k : Nat} {fb : Sto → Out} (n r : Nat) (Fn : MtT K mg c m qual st ps) (S : FnScope N ps (defScope st)) (hps : ps.length = n) (hN : N.length = n + r)
    (hbody : ∀ (f : Addr) (cdv : Value) (A : Around) (outer : List Env) (s : Shared) (H : Hp) (E : XK), Room k (A.deeper (envOfC qual (defScope st) s.heap.objs.size f cdv)) →
      DSs [] (cxOf (L2N.CX P w) P w K mg base N qual (defScope st) f cdv A outer s H E) (fun c H => E (clsOf mg c) none H) (defBody st) fb) : MtP P w K mg base (k + 1) c m ps (runF n r fb) := by
  obtain ⟨C, f, fd, hm, cl, me, F, b⟩ := Fn
  exact ⟨C, f, fd, hm, cl, me, fnD n r F S hps hN (hbody f), b⟩
theorem MtP.mono {j k : Nat} {c m : Str} {ps : List Str} {g : List D → Res D} (h : MtP P w K mg base j c m ps g) (hj : j ≤ k) : MtP P w K mg base k c m ps g := by
  obtain ⟨C, f, fd, h1, h2, h3, F, r⟩ := h
  exact ⟨C, f, fd, h1, h2, h3, F.mono hj, r⟩
end
section
variable {T : List (Addr × Str)} {X : Cx} {W : Wi} {o e : Expr} {es : List Expr} {fo : Sto → Res D} {fa : Sto → Res (List D)} {c m : Str} {k : Nat} {ps : List Str} {g : List D → Res D} {apos pos : Pos} {pl : Sem Bool}
theorem mth_read {C : Addr} {σ : L2.St} {H : Hp} {Q : VK} {ta : TA} (hm : X.mg c = some (.ref C)) (hta : ∀ σ H Q', tDA X.K X.mg T W fa σ H Q' → ta σ H Q') (h : tD X.K X.mg T W (mth c m g fo fa) σ H Q) : tMethN C m (spD X.K X.mg g) (fun σ => WE (wx X.mg W) σ) (tD X.K X.mg T W fo) ta σ H Q := by
  obtain ⟨F, δ, L, h⟩ := h
  refine bindE ppE L h fun x v F1 H1 s1 L1 r1 h1 => ?_
  split at h1
  · rename_i c' fs
    obtain ⟨⟨hc, hl, hs⟩, h2⟩ := PostE.ite h1
    subst hc
    cases r1 with
    | @obj a C' dx gs _ _ vf hm' hF h0 g1 g2 g3 g4 g5 =>
      rw [hm] at hm'; cases hm'
      have r1 : Rp X.K X.mg F1 (.ref a) (.obj c' fs) := .obj vf hm hF h0 g1 g2 g3 g4 g5
      have ln : gs.lookup m = none := by
        cases z : gs.lookup m with
        | none => rfl
        | some v => exact (g3 m v z).elim (fun q => by rw [hl] at q; cases q) (fun q => (hs q).elim)
      exact ⟨a, dx, gs, rfl, L1.sub _ _ hF, ln, hta _ _ _ (bindA ppE L1 h2 fun ds vs F2 H2 s2 L2 r2 h3 => spD_call L2.gd (.cons (r1.mono s2.r) r2) h3)⟩
  · exact h1.elim
theorem de_mth (G : MtP X.prog X.w X.K X.mg X.base k c m ps g) (hr : Room k X.A) (tk : L2N.Takes X (wx X.mg W)) (ho : DE T X W o fo) (ha : DA T X W (e :: es) fa)
    (hst : starEach (e :: es) X.env = (false, eval e X.env) :: starEach es X.env := by rfl) (hpl : (backTo pos (starEach es X.env)).any (·.1) = false := by rfl)
    (ht : eval (.Call (.Attribute o m apos) (e :: es) [] pos) X.env = (do let ov ← eval o X.env; standAt apos.atName; let (f, first) ← holding [ov] (getMethod ov m pl); callWith pos f first (backTo pos (starEach (e :: es) X.env)) (backToKw pos (keywordEach [] X.env))) := by rfl) :
    DE T X W (.Call (.Attribute o m apos) (e :: es) [] pos) (mth c m g fo fa) := by
  obtain ⟨C, f, fd, hm, cl, me, F, b⟩ := G
  exact weakE (pe_mthN ho cl me F hr b (fun σ => L2N.passAt tk σ) ha hst hpl ht) fun σ H Q h => mth_read hm (fun _ _ _ z => z) h
theorem de_mth0 (G : MtP X.prog X.w X.K X.mg X.base k c m ps g) (hr : Room k X.A) (tk : L2N.Takes X (wx X.mg W)) (ho : DE T X W o fo)
    (ht : eval (.Call (.Attribute o m apos) [] [] pos) X.env = (do let ov ← eval o X.env; standAt apos.atName; let (f, first) ← holding [ov] (getMethod ov m pl); callWith pos f first (backTo pos (starEach [] X.env)) (backToKw pos (keywordEach [] X.env))) := by rfl) :
    DE T X W (.Call (.Attribute o m apos) [] [] pos) (mth c m g fo nilA) := by
  obtain ⟨C, f, fd, hm, cl, me, F, b⟩ := G
  exact weakE (pe_mthN0 ho cl me F hr b (fun σ => L2N.passAt tk σ) ht) fun σ H Q h => mth_read hm (fun σ H Q' ⟨F, δ, L, q⟩ => q [] F H L.refl .nil) h
end
/-! ### constructors -/
def objOf (fs : List (Str × D)) : List (Str × D) := fs.filter fun p => !(p.1 == ("seen" : Str))
def seenOk (c : Str) (fs : List (Str × D)) : Bool := !(c == ("Row" : Str)) || (match fs.lookup ("seen" : Str) with | some (.int _) => true | _ => false)
def Out.made (c : Str) : Out → Res D
  | .nx δ => (match (δ[0]? : Option Slot) with
    | some (Slot.ins c' fs) => if c' = c ∧ seenOk c fs = true ∧ fs.length < 200 then .ok (.obj c (objOf fs)) else .stuck
    | _ => .stuck)
  | .rs x => .rs x
  | _ => .stuck
def runI (c : Str) (n m : Nat) (b : Sto → Out) (ds : List D) : Res D := if ds.length = n then (b (.ins c [] :: (ds.map Slot.val ++ List.replicate m .no))).made c else .stuck
def spI (K : PySem.W.Frag) (mg : Str → Option Value) (c : Str) (g : List D → Res D) : Sp := fun vs H Q E => ∃ F ds x C dx H1 us, vs = .ref x :: us ∧ H = upd (upd H1 dx (.own x)) x (.ins C dx []) ∧ H1 x = none ∧ H1 dx = none ∧ dx ≠ x ∧ mg c = some (.ref C) ∧ Gd [] F H1 ∧ RpL K mg F us ds ∧
  (match g ds with
  | .ok d => ∀ F' H', Step [] F H1 F' H' → Rp K mg F' (.ref x) d → Q .non H'
  | .rs e => ∀ F' H', Step [] F H1 F' H' → E (clsOf mg e) none H'
  | .stuck => False)
theorem look_objOf (fs : List (Str × D)) (n : Str) (h : n ≠ "seen") : (objOf fs).lookup n = fs.lookup n := by
  unfold objOf
  induction fs with
  | nil => rfl
  | cons q fs ih =>
    obtain ⟨g, d⟩ := q
    by_cases hg : g = ("seen" : Str)
    · subst hg
      rw [List.filter_cons_of_neg (by simp), ih, List.lookup_cons, beq_eq_false_iff_ne.mpr h]
    · rw [List.filter_cons_of_pos (by simp [hg]), List.lookup_cons, List.lookup_cons, ih]
theorem look_seen (fs : List (Str × D)) : (objOf fs).lookup ("seen" : Str) = none := by
  unfold objOf
  induction fs with
  | nil => rfl
  | cons q fs ih =>
    obtain ⟨g, d⟩ := q
    by_cases hg : g = ("seen" : Str)
    · subst hg
      rw [List.filter_cons_of_neg (by simp), ih]
    · rw [List.filter_cons_of_pos (by simp [hg]), List.lookup_cons, ih, beq_eq_false_iff_ne.mpr (Ne.symm hg)]
/-- an instance as it is left -/
theorem rp_made {K : PySem.W.Frag} {mg : Str → Option Value} {F : Hp} {a C dx : Addr} {gs : List (Str × V)} {c : Str} {fs : List (Str × D)} (hm : mg c = some (.ref C)) (h : F a = some (.ins C dx gs)) (fl : Flds K mg F gs fs) (so : seenOk c fs = true) (hl : fs.length < 200) : Rp K mg F (.ref a) (.obj c (objOf fs)) := by
  have ne : ∀ n d, (objOf fs).lookup n = some d → n ≠ ("seen" : Str) := fun n d e z => by rw [z, look_seen] at e; cases e
  refine .obj (fun n => (gs.lookup n).getD .non) hm h (look_seen fs) (fun n d e => ?_) (fun n d e => ?_) (fun n v e => ?_) (fun hc => ?_) (by rw [fl.len]; exact hl)
  · have e' := e
    rw [look_objOf fs n (ne n d e)] at e'
    obtain ⟨v, lv, _⟩ := fl.look e'
    rw [lv]; rfl
  · have e' := e
    rw [look_objOf fs n (ne n d e)] at e'
    obtain ⟨v, lv, rv⟩ := fl.look e'
    rw [lv]; exact rv
  · by_cases hn : n = ("seen" : Str)
    · exact .inr hn
    · obtain ⟨d, ld, _⟩ := fl.back e
      rw [look_objOf fs n hn, ld]; exact .inl rfl
  · unfold seenOk at so
    rw [hc] at so
    split at so
    · rename_i i e
      obtain ⟨v, lv, rv⟩ := fl.look e
      cases rv
      exact ⟨_, lv⟩
    · simp at so
section
variable {P : Program} {w : World} {K : PySem.W.Frag} {mg : Str → Option Value} {base : Heap}
theorem fnI {x qual c : Str} {st : Stmt} {f : Addr} {fd : FuncData} {N ps : List Str} {k : Nat} {fb : Sto → Out} (n m : Nat) (Fn : Fun K x qual st f fd) (S : FnScope N ps (defScope st)) (hps : ps.length = n + 1) (hN : N.length = n + 1 + m)
    (hbody : ∀ (cdv : Value) (A : Around) (outer : List Env) (s : Shared) (H : Hp) (E : XK), Room k (A.deeper (envOfC qual (defScope st) s.heap.objs.size f cdv)) →
      DSs [] (cxOf (L2N.CX P w) P w K mg base N qual (defScope st) f cdv A outer s H E) (fun c H => E (clsOf mg c) none H) (defBody st) fb) : FnOk P w K mg base (L2N.CX P w) (k + 1) f fd ps (spI K mg c (runI c n m fb)) := by
  obtain ⟨oc, od, kV, doc, pm, an, cdv, ct, osl, rfl, lk, hcd⟩ := Fn.ex
  refine fn_of lk hcd S (fun vs H Q E h => ?_) (fun A outer s H vs Q E hr h => ⟨_, hbody cdv A outer s H E hr, ?_⟩)
  · obtain ⟨F, ds, y, C, dx, H1, us, rfl, _, _, _, _, _, _, r, h⟩ := h
    unfold runI at h
    by_cases hl : ds.length = n
    · rw [List.length_cons, r.length, hl, hps]
    · rw [if_neg hl] at h; exact h.elim
  · obtain ⟨F, ds, y, C, dx, H1, us, rfl, rfl, hy, hdx, hne, hm, gd, r, h⟩ := h
    unfold runI at h
    by_cases hl : ds.length = n
    · rw [if_pos hl] at h
      have g1 : Gd [] F (upd (upd H1 dx (.own y)) y (.ins C dx [])) := by
        have s1 := Step.junk (o := .own y) gd hdx
        exact (Step.junk s1.gd (by rw [upd_ne (Ne.symm hne)]; exact hy)).gd
      have st1 : Step [] F H1 F (upd (upd H1 dx (.own y)) y (.ins C dx [])) := (Step.junk (o := .own y) gd hdx).trans (Step.junk (Step.junk (o := .own y) gd hdx).gd (by rw [upd_ne (Ne.symm hne)]; exact hy))
      have SS := start_slots (N := N) (vs := .ref y :: us) (ds := .opq y :: ds) (.cons (.opq y) r) g1 (n := n + 1) (m := m) (by simp [hl]) hN
      have S0 : StR K mg [] F (H1, y) F (upd (upd H1 dx (.own y)) y (.ins C dx [])) (L2.start N (.ref y :: us)) (.ins c [] :: (ds.map Slot.val ++ List.replicate m .no)) := by
        have e0 : (L2.start N (.ref y :: us))[0]? = some (some (.ref y)) := by
          obtain ⟨ov, q, v, e, rv⟩ := SS.loc.slot 0 (.val (.opq y)) rfl
          subst e
          cases rv
          exact q
        refine ⟨gd.sub, st1, ⟨g1, ?_, fun i s e => ?_, fun i j s s' a hij e1 e2 o1 o2 q1 q2 => ?_⟩, fun i s a e o q => ?_⟩
        · have := SS.loc.len
          simpa using this
        · cases i with
          | zero =>
            cases e
            exact ⟨_, e0, y, C, dx, [], rfl, gd.sub.none hy, gd.sub.none hdx, hm, upd_same, by rw [upd_ne hne, upd_same], .nil⟩
          | succ i => exact SS.loc.slot (i + 1) s (by simpa using e)
        · have vl : ∀ (i : Nat) s, (Slot.ins c [] :: (ds.map Slot.val ++ List.replicate m .no))[i]? = some s → s.owned = true → i = 0 := fun i s e o => by
            cases i with
            | zero => rfl
            | succ i =>
              have e : (ds.map Slot.val ++ List.replicate m .no)[i]? = some s := by simpa using e
              rcases List.mem_append.mp (List.mem_of_getElem? e) with z | z
              · obtain ⟨d, _, rfl⟩ := List.mem_map.mp z
                cases o
              · rw [(List.mem_replicate.mp z).2] at o; cases o
          exact hij ((vl i s e1 o1).trans (vl j s' e2 o2).symm)
        · cases i with
          | zero =>
            rw [e0] at q; cases q
            refine ⟨.of hy, fun C2 dx2 gs2 z => ?_⟩
            rw [upd_same] at z; cases z
            exact ⟨.of hdx, rfl⟩
          | succ i =>
            have e : (ds.map Slot.val ++ List.replicate m .no)[i]? = some s := by simpa using e
            rcases List.mem_append.mp (List.mem_of_getElem? e) with z | z
            · obtain ⟨d, _, rfl⟩ := List.mem_map.mp z
              cases o
            · rw [(List.mem_replicate.mp z).2] at o; cases o
      refine ⟨F, (H1, y), F, _, S0, ?_⟩
      cases e : fb (.ins c [] :: (ds.map Slot.val ++ List.replicate m .no)) with
      | nx δ =>
        rw [e] at h
        intro σ F' H' _ S'
        unfold Out.made at h
        dsimp only at h
        split at h
        · rename_i d ed
          split at ed
          · rename_i c' fs e1
            by_cases hc : c' = c ∧ seenOk c fs = true ∧ fs.length < 200
            · rw [if_pos hc] at ed
              cases ed
              obtain ⟨rfl, so, hlen⟩ := hc
              obtain ⟨ov, q, a, C', dx', gs, rfl, nF, nD, hm', hH, hD, fl⟩ := S'.loc.slot 0 _ e1
              have hm' : mg c' = some (.ref C') := hm'
              rw [hm] at hm'; cases hm'
              obtain ⟨fa, fb'⟩ := S'.fresh 0 _ a e1 rfl q
              obtain ⟨fd', ea⟩ := fb' _ _ _ hH
              have ea : a = y := ea
              subst ea
              have hda : dx' ≠ a := fun z => by rw [z, hH] at hD; cases hD
              have st2 := S'.st.freeze fd' nD hD
              have st3 := st2.freeze fa (by rw [upd_ne (Ne.symm hda)]; exact nF) hH
              have rr : Rel F' (upd (upd F' dx' (.own a)) a (.ins C dx' gs)) := fun b u z => by
                have h1 : b ≠ a := fun zz => by rw [zz, nF] at z; cases z
                have h2 : b ≠ dx' := fun zz => by rw [zz, nD] at z; cases z
                exact ⟨u, by rw [upd_ne h1, upd_ne h2]; exact z, .refl u⟩
              exact h _ _ st3 (rp_made hm upd_same (fl.mono rr) so hlen)
            · rw [if_neg hc] at ed; cases ed
          · cases ed
        · rename_i d ed
          split at ed
          · split at ed <;> cases ed
          · cases ed
        · exact h.elim
      | rt d => rw [e] at h; exact (show False from h).elim
      | rs c => rw [e] at h; exact h
      | bk δ => rw [e] at h; exact (show False from h).elim
      | ct δ => rw [e] at h; exact (show False from h).elim
      | stuck => rw [e] at h; exact h
    · rw [if_neg hl] at h; exact h.elim
end
end Dn


set_option Elab.async false
set_option linter.all false
set_option maxRecDepth 100000
set_option maxHeartbeats 4000000
namespace Dn
open PySem PySem.Spec PyProof.Rows L2
/-! ### constructors, called -/
def tMakeN (C : Addr) (sp : Sp) (E : L2.St → XK) (t : TA) : TE := fun σ H Q => t σ H fun vs H1 => ∀ x dx, H1 x = none → H1 dx = none → dx ≠ x → sp (.ref x :: vs) (upd (upd H1 dx (.own x)) x (.ins C dx [])) (fun v H2 => v = .non ∧ Q (.ref x) H2) (E σ)
section
variable {X : Cx} {CX : CXT} {C f : Addr} {k : Nat} {fd : FuncData} {ps : List Str} {sp : Sp} {E : L2.St → XK} {e : Expr} {es : List Expr} {t : TA} {x : Str} {p pos : Pos}
theorem pe_mkN (M : Mk X.K C f) (Fn : FnOk X.prog X.w X.K X.mg X.base CX k f fd ps sp) (hr : Room (k + 1) X.A) (hg : Gl X x) (hm : X.mg x = some (.ref C)) (hb : Binds X.K fd ps []) (hx : ∀ σ, PassesAt CX X σ (E σ)) (ha : PA X (e :: es) t) (hdb : (x == ("__debug__" : Str)) = false)
    (he : starEach (e :: es) X.env = (false, eval e X.env) :: starEach es X.env) (hpl : (backTo pos (starEach es X.env)).any (·.1) = false) : PE X (.Call (.Name x p) (e :: es) [] pos) (tMakeN C sp E t) := by
  refine ⟨fun pins s σ H Q I h => wpAny_Call_Name_kw (ld_glob I hg hm (PySem.W.callWith_K (h₀ := X.base) I.ok.mod.kin M.kp (thn (ha.run pos pins s σ H _ I h) fun us s1 ⟨vs, H1, I1, r, q⟩ => ⟨I1.kIn, ?_⟩) he hpl) hdb)⟩
  have hq := q (s1.heap.objs.size + 1) s1.heap.objs.size (I1.hok.fresh (Nat.le_succ _)) (I1.hok.fresh (Nat.le_refl _)) (Nat.ne_of_lt (Nat.lt_succ_self _))
  have I2 := Inv.made (C := C) I1
  have r2 : Vals (V.ref (s1.heap.objs.size + 1) :: vs) (Value.ref (s1.heap.objs.size + 1) :: us) := .cons rfl r
  have hl : (Value.ref (s1.heap.objs.size + 1) :: us).length = ps.length := by rw [← r2.length]; exact Fn.len _ _ _ _ hq
  have b := hb _ (Value.ref (s1.heap.objs.size + 1) :: us) I2.kIn (by rw [List.append_nil]; exact hl)
  rw [List.append_nil] at b
  refine wpAny_call (make_map (f := f) I1.kIn M.makes M.init (beq_iff_eq.mp M.fn) (codeAny_mono (Fn.run _ X.stack _ _ _ _ _ _ (E σ) (hr.make C us []) (I2.env0.make C us []) b r2 hq) fun rr s' hq' => ?_))
  cases rr with
  | error e => exact hx σ pins _ _ e s' I2 hq'
  | ok fl =>
    cases fl with
    | ret u =>
      obtain ⟨v, H', I3, rv, ev, q3⟩ := I2.after hq'
      subst ev
      exact ⟨rv, V.ref (s1.heap.objs.size + 1), H', I3, rfl, q3⟩
    | next => exact False.elim hq'
    | brk => exact False.elim hq'
    | cont => exact False.elim hq'
end
def MkP (P : Program) (w : World) (K : PySem.W.Frag) (mg : Str → Option Value) (base : Heap) (k : Nat) (c : Str) (ps : List Str) (g : List D → Res D) : Prop :=
  ∃ C f fd, mg c = some (.ref C) ∧ Mk K C f ∧ FnOk P w K mg base (L2N.CX P w) k f fd ps (spI K mg c g) ∧ L2.Binds K fd ps []
def MkT (K : PySem.W.Frag) (mg : Str → Option Value) (c qual : Str) (st : Stmt) (ps : List Str) : Prop := ∃ C f fd, mg c = some (.ref C) ∧ Mk K C f ∧ Fun K "__init__" qual st f fd ∧ L2.Binds K fd ps []
section
variable {P : Program} {w : World} {K : PySem.W.Frag} {mg : Str → Option Value} {base : Heap}
theorem mkP {c qual : Str} {st : Stmt} {N ps : List Str} {k : Nat} {fb : Sto → Out} (n r : Nat) (Fn : MkT K mg c qual st ps) (S : FnScope N ps (defScope st)) (hps : ps.length = n + 1) (hN : N.length = n + 1 + r)
    (hbody : ∀ (f : Addr) (cdv : Value) (A : Around) (outer : List Env) (s : Shared) (H : Hp) (E : XK), Room k (A.deeper (envOfC qual (defScope st) s.heap.objs.size f cdv)) →
      DSs [] (cxOf (L2N.CX P w) P w K mg base N qual (defScope st) f cdv A outer s H E) (fun c H => E (clsOf mg c) none H) (defBody st) fb) : MkP P w K mg base (k + 1) c ps (runI c n r fb) := by
  obtain ⟨C, f, fd, hm, mk, F, b⟩ := Fn
  exact ⟨C, f, fd, hm, mk, fnI n r F S hps hN (hbody f), b⟩
end
section
variable {T : List (Addr × Str)} {X : Cx} {W : Wi} {e : Expr} {es : List Expr} {fa : Sto → Res (List D)} {c : Str} {k : Nat} {ps : List Str} {g : List D → Res D} {p pos : Pos}
theorem Gd.bare {F H : Hp} (g : Gd T F H) : Gd [] F H := ⟨g.sub, (fun p hp => by cases hp), g.ntb⟩
theorem de_make (G : MkP X.prog X.w X.K X.mg X.base k c ps g) (hr : Room (k + 1) X.A) (tk : L2N.Takes X (wx X.mg W)) (ha : DA T X W (e :: es) fa) (hg : Gl X c := by rfl) (hdb : (c == ("__debug__" : Str)) = false := by decide)
    (he : starEach (e :: es) X.env = (false, eval e X.env) :: starEach es X.env := by rfl) (hpl : (backTo pos (starEach es X.env)).any (·.1) = false := by rfl) : DE T X W (.Call (.Name c p) (e :: es) [] pos) (app g fa) := by
  obtain ⟨C, f, fd, hm, mk, F, b⟩ := G
  refine weakE (pe_mkN mk F hr hg hm b (fun σ => L2N.passAt tk σ) ha hdb he hpl) fun σ H Q ⟨F, δ, L, h⟩ => bindA ppE L h fun ds vs F1 H1 s1 L1 r1 h1 x dx hx hdx hne => ?_
  refine ⟨F1, ds, x, C, dx, H1, vs, rfl, rfl, hx, hdx, hne, hm, L1.gd.bare, r1, ?_⟩
  cases z : g ds with
  | ok d => rw [z] at h1; exact fun F' H' st rv => ⟨rfl, h1 _ F' H' (st.lift L1.gd) rv⟩
  | rs c => rw [z] at h1; exact fun F' H' st => ⟨rfl, c, rfl, h1 F' H' (st.lift L1.gd)⟩
  | stuck => rw [z] at h1; exact h1
end
/-! ### facts of classes -/
section
variable {K : PySem.W.Frag} {h : Heap} {mg : Str → Option Value} {c : Str} {C : Addr}
def clsB (K : PySem.W.Frag) (C : Addr) (fs : List Str) : Bool :=
  PySem.W.plainGet K C Str.empty && (PySem.W.hasDictIn K C && (PySem.W.plainOver K C && (PySem.W.findIn K (.ref C) "__setattr__" == some (some (.builtin "object.__setattr__")) && (PySem.W.makesIn K C && (PySem.W.keepIn K (.ref C) && fs.all fun f => PySem.W.findIn K (.ref C) f == some none)))))
structure ClsOk (K : PySem.W.Frag) (mg : Str → Option Value) (c : Str) (C : Addr) (fs : List Str) : Prop where
  g : mg c = some (.ref C)
  cl : Cls K C
  mks : PySem.W.makesIn K C = true
  kp : PySem.W.keepIn K (.ref C) = true
  na : ∀ f ∈ fs, NoAttr K C f
theorem cls_mk {fs : List Str} (X : K.In h) (G : h.Ns mainGlobals mg) (a : PySem.W.nsIn K mainGlobals c = some (some (.ref C))) (e : clsB K C fs = true) : ClsOk K mg c C fs := by
  unfold clsB at e
  simp only [Bool.and_eq_true, beq_iff_eq, List.all_eq_true] at e
  obtain ⟨e1, e2, e3, e4, e5, e6, e7⟩ := e
  exact ⟨PySem.W.mg_of X G a, ⟨e1, e2, e3, e4⟩, e5, e6, e7⟩
theorem ClsOk.fld {fs : List Str} (o : ClsOk K mg c C fs) {f : Str} (hf : f ∈ fs) : FldP K mg c f := ⟨C, o.g, o.cl, o.na f hf⟩
theorem mtT_mk {m qual : Str} {st : Stmt} {ps fs : List Str} {f : Addr} {oc : Value} {od an : Option Addr} {osl : Array (Option Value)} {kV doc pm cdv ct : Value} (o : ClsOk K mg c C fs) (a : PySem.W.findIn K (.ref C) m = some (some (.ref f))) (fn : PySem.W.isFn K (.ref f) = true)
    (l : K.lookup f = some ⟨oc, od, .func (PySem.W.fnOf m qual (defArgs st) (defBody st) (defScope st) .none kV doc pm an cdv ct), osl⟩) (cd : PySem.W.codeIn K cdv qual = true) (k : PySem.W.keepIn K (.ref f) = true) (hb : ∀ fd, Fun K m qual st f fd → L2.Binds K fd ps []) : MtT K mg c m qual st ps :=
  ⟨C, f, _, o.g, o.cl, ⟨a, fn, k⟩, fun_mk l cd k, hb _ (fun_mk l cd k)⟩
theorem mkT_mk {qual : Str} {st : Stmt} {ps fs : List Str} {f : Addr} {oc : Value} {od an : Option Addr} {osl : Array (Option Value)} {kV doc pm cdv ct : Value} (o : ClsOk K mg c C fs) (a : PySem.W.findIn K (.ref C) "__init__" = some (some (.ref f))) (fn : PySem.W.isFn K (.ref f) = true)
    (l : K.lookup f = some ⟨oc, od, .func (PySem.W.fnOf "__init__" qual (defArgs st) (defBody st) (defScope st) .none kV doc pm an cdv ct), osl⟩) (cd : PySem.W.codeIn K cdv qual = true) (k : PySem.W.keepIn K (.ref f) = true) (hb : ∀ fd, Fun K "__init__" qual st f fd → L2.Binds K fd ps []) : MkT K mg c qual st ps :=
  ⟨C, f, _, o.g, ⟨o.mks, a, fn, o.kp⟩, fun_mk l cd k, hb _ (fun_mk l cd k)⟩
end
/-- the j-th statement of a class -/
def inS (st : Stmt) (j : Nat) : Stmt := match st with
  | .ClassDef _ _ _ b _ _ _ _ _ _ _ => b.getD j (.Pass ⟨0, 0, 0, 0⟩)
  | _ => .Pass ⟨0, 0, 0, 0⟩
end Dn


set_option Elab.async false
set_option linter.all false
set_option maxRecDepth 100000
set_option maxHeartbeats 4000000
namespace Dn
open PySem PySem.Spec PyProof.Rows L2
/-! ### chains of comparisons -/
def lnk (k : Res D) : D → Res D
  | .bl true => k
  | .bl false => .ok (.bl false)
  | _ => .stuck
def chn (g g' : D → D → Res D) (fa fb fc : Sto → Res D) : Sto → Res D := fun δ => (fa δ).bind fun x => (fb δ).bind fun y => (g x y).bind (lnk ((fc δ).bind (g' y)))
section
variable {T : List (Addr × Str)} {X : Cx} {W : Wi} {a b c : Expr} {fa fb fc : Sto → Res D} {pos : Pos} {r r' : R2} {g g' : D → D → Res D} {op op' : CmpOp}
theorem chn_read (hr : R2D X.K X.mg T r g) (hr' : R2D X.K X.mg T r' g') {σ : L2.St} {F H : Hp} {δ : Sto} {Q : VK} (L : Lcl X.K X.mg T F H σ δ) (h : PostE X.K X.mg T F H W Q (chn g g' fa fb fc δ)) : tChain r r' (tD X.K X.mg T W fa) (tD X.K X.mg T W fb) (tD X.K X.mg T W fc) σ H Q :=
  bindE ppE L h fun x v F1 H1 s1 L1 r1 h1 => bindE ppE L1 h1 fun y u F2 H2 s2 L2 r2 h2 => by
    refine hr F2 H2 v u x y W _ L2.gd (r1.mono s2.r) r2 ?_
    cases z : g x y with
    | stuck => rw [z] at h2; exact h2
    | rs c => rw [z] at h2; exact h2
    | ok d =>
      rw [z] at h2
      intro w F3 H3 s3 r3
      have L3 := L2.step s3
      have h3 : PostE X.K X.mg T F3 H3 W Q (lnk ((fc δ).bind (g' y)) d) := PostE.shift h2 s3
      cases r3 with
      | bl k =>
        refine ⟨k, rfl, ?_⟩
        cases k with
        | true =>
          rw [if_pos rfl]
          exact bindE ppE L3 h3 fun e w F4 H4 s4 L4 r4 h4 => hr' F4 H4 u w y e W Q L4.gd ((r2.mono s3.r).mono s4.r) r4 h4
        | false => rw [if_neg Bool.false_ne_true]; exact PostE.here h3 L3.gd (.bl false)
      | _ => exact (show False from h3).elim
theorem de_chn (ho : OpR X (compareOp op) r) (hr : R2D X.K X.mg T r g) (ho' : OpR X (compareOp op') r') (hr' : R2D X.K X.mg T r' g') (ha : DE T X W a fa) (hb : DE T X W b fb) (hc : DE T X W c fc) (hm : lastMarks [op, op'] [b, c] = false := by with_unfolding_all rfl) :
    DE T X W (.Compare a [op, op'] [b, c] pos) (chn g g' fa fb fc) := weakE (pe_chain ho ho' ha hb hc hm) fun σ H Q ⟨F, δ, L, h⟩ => chn_read hr hr' L h
theorem dt_chn (ho : OpR X (compareOp op) r) (hr : R2D X.K X.mg T r g) (ho' : OpR X (compareOp op') r') (hr' : R2D X.K X.mg T r' g') (ha : DE T X W a fa) (hb : DE T X W b fb) (hc : DE T X W c fc) (hm : lastMarks [op, op'] [b, c] = false := by with_unfolding_all rfl) :
    DT T X W (.Compare a [op, op'] [b, c] pos) (tst (chn g g' fa fb fc)) := weakT (pt_chain ho ho' ha hb hc hm) fun σ H Q ⟨F, δ, L, h⟩ => chn_read hr hr' L (PostT.test (X := X) h)
end
@[simp] theorem chn_eq {g g' : D → D → Res D} {fa fb fc : Sto → Res D} {δ : Sto} : chn g g' fa fb fc δ = (fa δ).bind fun x => (fb δ).bind fun y => (g x y).bind (lnk ((fc δ).bind (g' y))) := nrfl rfl
theorem lnk_bl {k : Res D} {b : Bool} : lnk k (.bl b) = if b = true then k else .ok (.bl false) := by cases b <;> rfl
@[simp] theorem mth_eq {c m : Str} {g : List D → Res D} {fo : Sto → Res D} {fa : Sto → Res (List D)} {δ : Sto} : mth c m g fo fa δ = (fo δ).bind fun x => (match x with
  | .obj c' fs => if c' = c ∧ fs.lookup m = none ∧ m ≠ ("seen" : Str) then (fa δ).bind fun xs => g (.obj c' fs :: xs) else .stuck
  | _ => .stuck) := nrfl rfl
end Dn
namespace Dn
open PySem PySem.Spec PyProof.Rows L2
theorem fld_of {K : PySem.W.Frag} {mg : Str → Option Value} {c f : Str} {fs : List Str} (h : ∃ C, ClsOk K mg c C fs) (hf : f ∈ fs) : FldP K mg c f := by
  obtain ⟨C, o⟩ := h
  exact o.fld hf
end Dn
namespace Dn
open PySem PySem.Spec PyProof.Rows L2
/-! ### new lists by + -/
def addN : D → D → Res (List D)
  | .lst a, .lst b => if a.length + b.length ≤ line then .ok (a ++ b) else .stuck
  | _, _ => .stuck
def binN (g : D → D → Res (List D)) (fa fb : Sto → Res D) : Sto → Res (List D) := fun δ => (fa δ).bind fun x => (fb δ).bind fun y => g x y
theorem PostL.ite {K : PySem.W.Frag} {mg : Str → Option Value} {T : List (Addr × Str)} {F H : Hp} {W : Wi} {Q : VK} {c : Prop} [Decidable c] {x : Res (List D)} (h : PostL K mg T F H W Q (if c then x else .stuck)) : c ∧ PostL K mg T F H W Q x := by
  by_cases hc : c
  · rw [if_pos hc] at h; exact ⟨hc, h⟩
  · rw [if_neg hc] at h; exact h.elim
theorem dl_add {T : List (Addr × Str)} {X : Cx} {W : Wi} {a b : Expr} {fa fb : Sto → Res D} {pos : Pos} (ha : DE T X W a fa) (hb : DE T X W b fb) : DL T X W (.BinOp a .Add b pos) (binN addN fa fb) :=
  weakE (pe_op op_cat ha hb) fun σ H Q ⟨F, δ, L, h⟩ => bindE ppL L h fun x v F1 H1 s1 L1 r1 h1 => bindE ppL L1 h1 fun y u F2 H2 s2 L2 r2 h2 => by
    have r1 := r1.mono s2.r
    unfold addN at h2
    split at h2
    · rename_i as bs
      obtain ⟨hl, h3⟩ := PostL.ite h2
      obtain ⟨p, vs, rfl, hp, rp⟩ := r1.lst_inv
      obtain ⟨q, us, rfl, hq, rq⟩ := r2.lst_inv
      refine ⟨p, q, vs, us, rfl, rfl, L2.sub _ _ hp, L2.sub _ _ hq, by rw [rp.length, rq.length]; exact Nat.le_trans hl line_le, fun z hz => ?_⟩
      exact h3 z _ F2 _ (.of hz) (Step.junk L2.gd hz) (L2.sub.none hz) upd_same (rp.append rq)
    · exact h2.elim
@[simp] theorem binN_eq {g : D → D → Res (List D)} {fa fb : Sto → Res D} {δ : Sto} : binN g fa fb δ = (fa δ).bind fun x => (fb δ).bind fun y => g x y := nrfl rfl
theorem addN_lst {a b : List D} (h : a.length + b.length ≤ line) : addN (.lst a) (.lst b) = .ok (a ++ b) := if_pos h
end Dn


set_option Elab.async false
set_option linter.all false
set_option maxRecDepth 100000
set_option maxHeartbeats 4000000
namespace Dn
open PySem PySem.Spec PyProof.Rows L2
/-! ### sorting, as a plain function -/
section
variable {α β : Type}
def insL (lt : α → α → Bool) (x : α) : List α → List α
  | [] => [x]
  | y :: l => if lt y x = true then y :: insL lt x l else x :: y :: l
def srtL (lt : α → α → Bool) : List α → List α
  | [] => []
  | x :: l => insL lt x (srtL lt l)
theorem ins_perm (lt : α → α → Bool) (x : α) : ∀ l, (insL lt x l).Perm (x :: l)
  | [] => .refl _
  | y :: l => by
    unfold insL
    split
    · exact ((ins_perm lt x l).cons y).trans (.swap x y l)
    · exact .refl _
theorem srt_perm (lt : α → α → Bool) : ∀ l, (srtL lt l).Perm l
  | [] => .refl _
  | x :: l => (ins_perm lt x _).trans ((srt_perm lt l).cons x)
theorem srt_len (lt : α → α → Bool) (l : List α) : (srtL lt l).length = l.length := (srt_perm lt l).length_eq
theorem srt_mem {lt : α → α → Bool} {l : List α} {x : α} : x ∈ srtL lt l ↔ x ∈ l := (srt_perm lt l).mem_iff
theorem ins_srtd {lt : α → α → Bool} (O : SrtO.Swo lt) (x : α) : ∀ {l}, SrtO.Srtd lt l → SrtO.Srtd lt (insL lt x l)
  | [], _ => SrtO.srtd_one x
  | y :: l, h => by
    unfold insL
    split
    · rename_i hy
      refine List.pairwise_cons.mpr ⟨fun z hz => ?_, ins_srtd O x (List.pairwise_cons.mp h).2⟩
      rcases List.mem_cons.mp ((ins_perm lt x l).mem_iff.mp hz) with rfl | hz
      · exact O.asym _ _ hy
      · exact SrtO.srtd_head h z hz
    · rename_i hy
      have hy' : lt y x = false := by simpa using hy
      exact List.pairwise_cons.mpr ⟨O.le_all h hy', h⟩
theorem srt_srtd {lt : α → α → Bool} (O : SrtO.Swo lt) : ∀ l, SrtO.Srtd lt (srtL lt l)
  | [] => .nil
  | x :: l => ins_srtd O x (srt_srtd O l)
theorem ins_filter {lt : α → α → Bool} (O : SrtO.Swo lt) (z x : α) : ∀ l, (insL lt x l).filter (SrtO.eqv lt z) = (x :: l).filter (SrtO.eqv lt z)
  | [] => rfl
  | y :: l => by
    unfold insL
    split
    · rename_i hy
      have ih := ins_filter O z x l
      rw [List.filter_cons (x := y), ih]
      by_cases hx : SrtO.eqv lt z x = true
      · have : SrtO.eqv lt z y = false := by
          rw [← Bool.not_eq_true]
          intro q
          have h3 : lt y x = false := O.tr x z y (SrtO.eqv_iff.mp hx).1 (SrtO.eqv_iff.mp q).2
          rw [hy] at h3; cases h3
        simp [List.filter_cons, this, hx]
      · simp [List.filter_cons, hx]
    · rfl
theorem srt_stb {lt : α → α → Bool} (O : SrtO.Swo lt) : ∀ l, SrtO.Stb lt (srtL lt l) l
  | [] => .refl _
  | x :: l => ⟨srt_perm lt _, fun z => by
    show (insL lt x (srtL lt l)).filter _ = _
    rw [ins_filter O, List.filter_cons, List.filter_cons, (srt_stb O l).cls z]⟩
theorem srt_uniq {lt : α → α → Bool} (O : SrtO.Swo lt) {l m : List α} (h1 : SrtO.Srtd lt l) (h2 : SrtO.Stb lt l m) : l = srtL lt m :=
  SrtO.stb_uniq O h1 (srt_srtd O m) (h2.trans ⟨(srt_perm lt m).symm, fun z => ((srt_stb O m).cls z).symm⟩)
theorem ins_paired {R : α → β → Prop} {lt : α → α → Bool} {lt' : β → β → Bool} (h : ∀ x d y e, R x d → R y e → lt x y = lt' d e) {x : α} {d : β} (hx : R x d) : ∀ {l m}, Paired R l m → Paired R (insL lt x l) (insL lt' d m)
  | _, _, .nil => .cons hx .nil
  | y :: l, e :: m, .cons r t => by
    unfold insL
    rw [h y e x d r hx]
    split
    · exact .cons r (ins_paired h hx t)
    · exact .cons hx (.cons r t)
theorem srt_paired {R : α → β → Prop} {lt : α → α → Bool} {lt' : β → β → Bool} (h : ∀ x d y e, R x d → R y e → lt x y = lt' d e) : ∀ {l m}, Paired R l m → Paired R (srtL lt l) (srtL lt' m)
  | _, _, .nil => .nil
  | _, _, .cons r t => ins_paired h r (srt_paired h t)
theorem srt_map {lt : α → α → Bool} {lt' : β → β → Bool} (f : α → β) (h : ∀ x y, lt' (f x) (f y) = lt x y) : ∀ l, srtL lt' (l.map f) = (srtL lt l).map f
  | [] => rfl
  | x :: l => by
    have hi : ∀ l, insL lt' (f x) (l.map f) = (insL lt x l).map f := fun l => by
      induction l with
      | nil => rfl
      | cons y l ih =>
        rw [List.map_cons, insL, insL, h]
        split
        · rw [ih]; rfl
        · rfl
    rw [List.map_cons, srtL, srt_map f h l, hi]; rfl
end
def ltI (i j : Int) : Bool := decide (i < j)
def ltS (a b : List Nat) : Bool := decide (a < b)
theorem swo_I : SrtO.Swo ltI := ⟨fun x y h => by
  have := of_decide_eq_true h
  exact decide_eq_false (by omega), fun x y z h1 h2 => by
  have := of_decide_eq_false h1
  have := of_decide_eq_false h2
  exact decide_eq_false (by omega)⟩
theorem swo_S : SrtO.Swo ltS := ⟨fun x y h => by
  have := of_decide_eq_true h
  exact decide_eq_false (fun q => List.lt_irrefl _ (List.lt_trans this q)), fun x y z h1 h2 => by
  have h1 := of_decide_eq_false h1
  have h2 := of_decide_eq_false h2
  exact decide_eq_false (fun q => by
    rw [List.not_lt] at h1 h2
    exact (List.not_lt.mpr (List.le_trans h1 h2)) q)⟩
/-- two sorted rearrangements are one -/
theorem perm_eq {α : Type} {le : α → α → Prop} (anti : ∀ a b, le a b → le b a → a = b) : ∀ {l m : List α}, l.Pairwise le → m.Pairwise le → l.Perm m → l = m
  | [], m, _, _, h => (List.Perm.eq_nil h.symm).symm
  | x :: l, [], _, _, h => absurd h.length_eq (by simp)
  | x :: l, y :: m, hl, hm, h => by
    have e : x = y := by
      rcases List.mem_cons.mp (h.mem_iff.mp (List.mem_cons_self (a := x) (l := l))) with e | hx
      · exact e
      · rcases List.mem_cons.mp (h.mem_iff.mpr (List.mem_cons_self (a := y) (l := m))) with e | hy
        · exact e.symm
        · exact anti _ _ ((List.pairwise_cons.mp hl).1 y hy) ((List.pairwise_cons.mp hm).1 x hx)
    subst e
    rw [perm_eq anti (List.pairwise_cons.mp hl).2 (List.pairwise_cons.mp hm).2 h.cons_inv]
theorem srtI_le (ns : List Int) : (srtL ltI ns).Pairwise (· ≤ ·) := (srt_srtd swo_I ns).imp fun {x y} h => by
  have := of_decide_eq_false h
  omega
theorem srtS_le (ns : List (List Nat)) : (srtL ltS ns).Pairwise (· ≤ ·) := (srt_srtd swo_S ns).imp fun {x y} h => List.not_lt.mp (of_decide_eq_false h)
end Dn


set_option Elab.async false
set_option linter.all false
set_option maxRecDepth 100000
set_option maxHeartbeats 4000000
namespace SrtT
open PySem PyProof.Rows Srt SrtO
section
variable {prog : Program} {w : World} {A : Around} {E : Value → Shared → Prop} {s : Shared}
def IsTrip (h : Heap) (v : Value) (x y : Int) : Prop := ∃ a o t u z n, v = .ref a ∧ h.get? a = some o ∧ o.cls = .type "tuple" ∧ o.data = .seq #[.int x t, .int y u, z] n
theorem IsTrip.keeps {h h' : Heap} {v : Value} {x y : Int} (p : IsTrip h v x y) (k : ∀ b o, h.get? b = some o → o.cls = .type "tuple" → h'.get? b = some o) : IsTrip h' v x y := by
  obtain ⟨a, o, t, u, z, n, e, ho, hc, hd⟩ := p
  exact ⟨a, o, t, u, z, n, e, k _ _ ho hc, hc, hd⟩
theorem firsts3 {h : Heap} : ∀ {vs : List Value}, (∀ v ∈ vs, ∃ x y, IsTrip h v x y) → ∃ fs : List Value, PySem.W.KatTups h vs fs ∧ fs.length = vs.length ∧ ∀ f ∈ fs, ∃ x t, f = Value.int x t
  | [], _ => ⟨[], PySem.W.KatTups.nil, rfl, fun _ hm => by simp at hm⟩
  | v :: vs, hp => by
    obtain ⟨fs, h1, h2, h3⟩ := firsts3 (vs := vs) fun v' hm => hp v' (List.mem_cons_of_mem _ hm)
    obtain ⟨x, y, a, o, t, u, z, n, e, ho, hc, hd⟩ := hp v (List.mem_cons_self ..)
    subst e
    refine ⟨.int x t :: fs, PySem.W.KatTups.cons ho hc hd rfl h1, by rw [List.length_cons, List.length_cons, h2], fun f hm => ?_⟩
    rcases List.mem_cons.mp hm with rfl | hm
    · exact ⟨x, t, rfl⟩
    · exact h3 f hm
theorem trip_cmp {vs : List Value} {k : Value → Int × Int} (hp : ∀ v ∈ vs, IsTrip s.heap v (k v).1 (k v).2) (hi : ∀ v ∈ vs, ∀ u ∈ vs, k v = k u → v = u) : Cmp prog w A s (tuples' true) (fun p => p.1 ∈ vs) (lt2 fun v u => lexB (k v) (k u)) := by
  intro p q hm hm'
  have h1 := hp _ hm
  have h2 := hp _ hm'
  have h3 := hi _ hm _ hm'
  show wpAny (model prog w) A (keyLt' (tuples' true) p.1 q.1) (fun r s' => s' = s ∧ r = lexB (k p.1) (k q.1)) (fun _ _ => False) s
  have h3' : (k p.1).1 = (k q.1).1 → (k p.1).2 = (k q.1).2 → p.1 = q.1 := fun e1 e2 => h3 (Prod.ext e1 e2)
  clear h3
  unfold lexB
  generalize (k p.1).1 = x at h1 h3' ⊢
  generalize (k p.1).2 = y at h1 h3' ⊢
  generalize (k q.1).1 = x' at h2 h3' ⊢
  generalize (k q.1).2 = y' at h2 h3' ⊢
  obtain ⟨a, o, t, u, z, n, e, ho, hc, hd⟩ := h1
  obtain ⟨a', o', t', u', z', n', e', ho', hc', hd'⟩ := h2
  rw [e, e'] at h3' ⊢
  refine PySem.W.kat_lt ho hd ho' hd' ?_
  show PySem.W.KatLex prog w A true (decide (3 < 3)) _ [(.int x t, .int x' t'), (.int y u, .int y' u'), (z, z')] 0 s
  refine PySem.W.kat_cons (SeqAt.EqAt.int_int x t x' t' prog w _ _ ?_)
  refine PySem.W.kat_go (fun e1 => ?_) (fun e1 => ?_)
  · have ex : x = x' := by simpa using e1
    refine PySem.W.kat_yes (PySem.W.kat_cons (SeqAt.EqAt.int_int y u y' u' prog w _ _ ?_))
    refine PySem.W.kat_go (fun e2 => ?_) (fun e2 => ?_)
    · have ey : y = y' := by simpa using e2
      have e3 : (if x = x' then decide (y < y') else decide (x < x')) = false := by
        rw [if_pos ex, ey]
        exact decide_eq_false (Int.lt_irrefl _)
      have ez : z = z' := by
        have ea := h3' ex ey
        cases ea
        rw [ho] at ho'
        cases ho'
        rw [hd] at hd'
        have := congrArg (fun d => match d with | .seq xs _ => xs[2]? | _ => none) hd'
        simpa using this
      subst ez
      refine PySem.W.kat_yes (PySem.W.kat_cons (SeqAt.EqAt.same z prog w _ _ ?_))
      exact PySem.W.kat_yes (PySem.W.kat_nil ⟨rfl, e3.symm⟩)
    · have e3 : (if x = x' then decide (y < y') else decide (x < x')) = decide (y < y') := if_pos ex
      refine PySem.W.kat_no (PySem.W.kat_one _ _ (PyProof.Rows.lt_int ?_))
      exact (show s = s ∧ decide (y < y') = (if x = x' then decide (y < y') else decide (x < x')) from ⟨rfl, e3.symm⟩)
  · have ex : ¬ x = x' := by simpa using e1
    have e3 : (if x = x' then decide (y < y') else decide (x < x')) = decide (x < x') := if_neg ex
    exact PySem.W.kat_no (oneLt_int ⟨rfl, e3.symm⟩)
theorem trips_sortable {a : Addr} {vs : List Value} {k : Value → Int × Int} (h0 : 0 < vs.length) (hp : ∀ v ∈ vs, IsTrip s.heap v (k v).1 (k v).2) (hi : ∀ v ∈ vs, ∀ u ∈ vs, k v = k u → v = u) (ha : ∀ o, s.heap.get? a = some o → o.cls ≠ .type "tuple") : SortableO prog w A s a vs fun v u => lexB (k v) (k u) := by
  intro h' keep
  have hp' : ∀ v ∈ vs, IsTrip h' v (k v).1 (k v).2 := fun v hm => (hp v hm).keeps fun b o e c => keep b o (fun z => by subst z; exact ha o e c) e
  obtain ⟨fs, h1, h2, h3⟩ := firsts3 fun v hm => ⟨_, _, hp' v hm⟩
  refine ⟨tuples' true, fun Q E hq => ?_, trip_cmp hp' hi⟩
  refine PySem.W.kat_kind (T := .type "int") h1 (by omega) (fun f hm => ?_) (by rfl) ?_
  · obtain ⟨x, t, rfl⟩ := h3 f hm
    exact PySem.W.Looks.now
  · have e : (Value.type "int" != Value.type "tuple") = true := by first | decide +kernel | rfl | decide
    rw [e]
    exact hq
theorem sorted_trips {l : Addr} {vs : List Value} {k : Value → Int × Int} {Q : Value → Shared → Prop} (hl : s.heap.IsList l vs.toArray) (hz : vs.length ≤ sizeLine) (hp : ∀ v ∈ vs, IsTrip s.heap v (k v).1 (k v).2) (hi : ∀ v ∈ vs, ∀ u ∈ vs, k v = k u → v = u)
    (h : ∀ (h' : Heap) (d : Addr) (out : List Value), Srtd (fun v u => lexB (k v) (k u)) out → Stb (fun v u => lexB (k v) (k u)) out vs → (∀ b o, s.heap.get? b = some o → h'.get? b = some o) → s.heap.objs.size ≤ d → (∃ n, h'.get? d = some (seqObj "list" out.toArray n)) → Q (.ref d) { s with heap := h' }) :
    wpAny (model prog w) A (call (.builtin "sorted") [.ref l]) Q E s := by
  refine sorted_ord (swo_lex k) hl hz (fun h2 h₁ a ha kk => ?_) fun out hs hb => ?_
  · refine trips_sortable (s := { s with heap := h₁ }) (by omega) (fun v hm => (hp v hm).keeps fun b o e _ => (kk b o e).2) hi fun o e => ?_
    have e' : some o = some (seqObj "list" vs.toArray 0) := e.symm.trans ha
    cases e'
    intro c
    exact absurd (Value.type.inj c) (by decide)
  · exact h _ _ out hs hb (fun b o e => sortedAll_old e) (Nat.le_succ _) (sortedAll_at s.heap vs out.toArray)
end
end SrtT
namespace Dn
open PySem PySem.Spec PyProof.Rows L2
/-- sorted of triples that the first two, ints, tell apart -/
def rSortedT3 (K : PySem.W.Frag) : List V → Hp → VK → Prop := fun vs H Q => ∃ (a : Addr) (xs : List V) (k : V → Int × Int), vs = [V.ref a] ∧ SqL K H a xs ∧ (∀ x ∈ xs, ∃ t z, x = V.ref t ∧ H t = some (.tup [.int (k x).1, .int (k x).2, z])) ∧ (∀ x ∈ xs, ∀ y ∈ xs, k x = k y → x = y) ∧
  ∀ ys p, SrtO.Srtd (ltP k) ys → SrtO.Stb (ltP k) ys xs → H p = none → Q (.ref p) (upd H p (.lst ys))
def rSortedSA (K : PySem.W.Frag) : List V → Hp → VK → Prop := fun vs H Q => ∃ (a : Addr) (xs : List Str), vs = [V.ref a] ∧ SqL K H a (xs.map V.str) ∧
  ∀ (ys : List Str) (p : Addr), ys.Perm xs → sortedS ys = true → H p = none → Q (.ref p) (upd H p (.lst (ys.map V.str)))
section
variable {X : Cx}
theorem cr_sortedT3 : CallR X (.builtin "sorted") (rSortedT3 X.K) := by
  intro pins s σ H vs us Q I r h
  obtain ⟨a, xs, k, rfl, hs, hx, hi, q⟩ := h
  obtain ⟨its, rv, hl, hz⟩ := I.list hs
  obtain ⟨u, rfl, ru⟩ := vals1 r
  obtain rfl : u = Value.ref a := ru
  obtain ⟨e1, e2⟩ := refs_back rv fun x m => by
    obtain ⟨t, _, e, _⟩ := hx x m
    exact ⟨t, e⟩
  refine SrtT.sorted_trips (k := fun u => k (backV u)) hl.isList (by rw [← rv.length]; exact hz) (fun v hv => ?_) (fun v hv u hu e => ?_) fun h' d out h1 h2 kp hd hn => ?_
  · obtain ⟨t, rfl⟩ := e2 v hv
    have hm : V.ref t ∈ xs := by rw [e1]; exact List.mem_map.mpr ⟨_, hv, rfl⟩
    obtain ⟨t', z, e, ht⟩ := hx _ hm
    cases e
    obtain ⟨_, its2, r2, o, ho, hc, n, hd⟩ := I.hok _ _ ht
    cases r2 with
    | cons ri r3 =>
      cases r3 with
      | cons rj r4 =>
        cases r4 with
        | cons rk r5 =>
          cases r5
          obtain ⟨t1, rfl⟩ := ri
          obtain ⟨t2, rfl⟩ := rj
          exact ⟨t, o, t1, t2, _, n, rfl, ho, hc, hd⟩
  · obtain ⟨t, rfl⟩ := e2 v hv
    obtain ⟨t', rfl⟩ := e2 u hu
    have hm : V.ref t ∈ xs := by rw [e1]; exact List.mem_map.mpr ⟨_, hv, rfl⟩
    have hm' : V.ref t' ∈ xs := by rw [e1]; exact List.mem_map.mpr ⟨_, hu, rfl⟩
    have := hi _ hm _ hm' e
    cases this
    rfl
  · have h3 : ∀ u ∈ out, ∃ a, u = Value.ref a := fun u hu => e2 u (h2.perm.mem_iff.mp hu)
    obtain ⟨n, hn⟩ := hn
    have hb : SrtO.Stb (ltP k) (out.map backV) xs := by
      rw [e1]
      exact SrtO.Stb.map (ltP_swo k) backV h2
    refine ⟨.ref d, upd H d (.lst (out.map backV)), I.laid (t' := s.toks) kp hd ⟨?_, out, n, vals_back h3, hn⟩, rfl, q _ d (SrtO.srtd_map h1) hb (I.hok.fresh hd)⟩
    rw [hb.len]
    exact hz
theorem cr_sortedSA : CallR X (.builtin "sorted") (rSortedSA X.K) := by
  intro pins s σ H vs us Q I r h
  obtain ⟨a, xs, rfl, hs, q⟩ := h
  obtain ⟨its, rv, hl, hz⟩ := I.list hs
  rw [Vals.ref1 r]
  refine PyProof.Rows.sorted_strsAny hl.isList rv.strs (by rw [← rv.length]; exact hz) fun out ys h1 h2 h3 => ?_
  obtain ⟨ep, he'⟩ := PyProof.Rows.sortedAll_at s.heap its out
  have hlen : (ys.map V.str).length ≤ sizeLine := by
    rw [List.length_map, h2.length_eq]
    rw [List.length_map] at hz
    exact hz
  exact ⟨.ref _, upd H (s.heap.objs.size + 1) (.lst (ys.map V.str)), I.laid (t' := s.toks) (fun _ _ => PyProof.Rows.sortedAll_old) (Nat.le_succ _) ⟨hlen, out.toList, ep, vals_of_strs h1, he'⟩, rfl, q ys _ h2 h3 (I.hok.fresh (Nat.le_succ _))⟩
theorem cr_sortedA : CallR X (.builtin "sorted") (fun xs H Q => rSortedI X.K xs H Q ∨ (rSortedSA X.K xs H Q ∨ (rSortedPO X.K xs H Q ∨ rSortedT3 X.K xs H Q))) := cr_sortedI.or (cr_sortedSA.or (cr_sortedPO.or cr_sortedT3))
end
/-! ### sorted, on data -/
def isP2 : D → Bool
  | .tup [.int _, .int _] => true
  | _ => false
def isP3 : D → Bool
  | .tup [.int _, .int _, _] => true
  | _ => false
def k2 : D → Int × Int
  | .tup (.int a :: .int b :: _) => (a, b)
  | _ => (0, 0)
def lt2D (x y : D) : Bool := SrtO.lexB (k2 x) (k2 y)
theorem swo_2D : SrtO.Swo lt2D := by
  refine ⟨fun x y h => ?_, fun x y z h1 h2 => ?_⟩
  · have a := SrtO.lexB_iff.mp h
    refine SrtO.lexB_no.mpr ?_
    omega
  · have a := SrtO.lexB_no.mp h1
    have b := SrtO.lexB_no.mp h2
    refine SrtO.lexB_no.mpr ?_
    omega
def sortedD : List D → Res D
  | [.lst xs] => match intsO xs with
    | some ns => .ok (.lst ((srtL ltI ns).map .int))
    | none => match textsO xs with
      | some ls => .ok (.lst ((srtL ltS ls).map .str))
      | none => if xs.all isP2 = true ∨ (xs.all isP3 = true ∧ (xs.map k2).Nodup) then .ok (.lst (srtL lt2D xs)) else .stuck
  | _ => .stuck
section
variable {T : List (Addr × Str)} {K : PySem.W.Frag} {mg : Str → Option Value}
theorem risingS_le : ∀ (ys : List Str) (x : Str), risingS x ys = true → ((x :: ys).map TL.tl).Pairwise (· ≤ ·)
  | [], x, _ => List.pairwise_singleton _ _
  | y :: r, x, h => by
    unfold risingS at h
    rw [Bool.and_eq_true] at h
    have ih := risingS_le r y h.2
    have hxy : TL.tl x ≤ TL.tl y := by
      have h1 := h.1
      rw [ltCps_eq] at h1
      have h2 : ¬ y.cps.toList < x.cps.toList := by simpa using h1
      exact List.not_lt.mp h2
    rw [List.map_cons]
    refine List.pairwise_cons.mpr ⟨fun z hz => ?_, ih⟩
    rw [List.map_cons] at hz
    rcases List.mem_cons.mp hz with rfl | hz
    · exact hxy
    · rw [List.map_cons] at ih
      exact List.le_trans hxy ((List.pairwise_cons.mp ih).1 z hz)
theorem sortedS_le : ∀ (ys : List Str), sortedS ys = true → (ys.map TL.tl).Pairwise (· ≤ ·)
  | [], _ => .nil
  | x :: r, h => risingS_le r x h
theorem RpL.of_strs {F : Hp} : ∀ {ys : List Str} {ls : List (List Nat)}, ys.map TL.tl = ls → RpL K mg F (ys.map V.str) (ls.map D.str)
  | [], _, e => by subst e; exact .nil
  | y :: ys, _, e => by subst e; exact .cons (.str rfl) (RpL.of_strs rfl)
theorem RpL.of_ints {F : Hp} : ∀ (ns : List Int), RpL K mg F (ns.map V.int) (ns.map D.int)
  | [] => .nil
  | n :: ns => .cons (.int n) (RpL.of_ints ns)
/-- the key of a value that stands for a pair, a triple -/
def kV2 (F : Hp) : V → Int × Int
  | .ref a => match F a with
    | some (.tup (.int x :: .int y :: _)) => (x, y)
    | _ => (0, 0)
  | _ => (0, 0)
theorem kV2_of {F : Hp} {v : V} {d : D} (h : isP2 d = true ∨ isP3 d = true) (r : Rp K mg F v d) : ∃ t vs, v = .ref t ∧ F t = some (.tup vs) ∧ kV2 F v = k2 d ∧ ((isP2 d = true ∧ vs = [.int (k2 d).1, .int (k2 d).2]) ∨ ∃ z, vs = [.int (k2 d).1, .int (k2 d).2, z]) := by
  rcases h with h | h
  · unfold isP2 at h
    split at h
    · rename_i a b
      obtain ⟨t, vs, rfl, e, q⟩ := r.tup_inv
      obtain ⟨v1, v2, rfl, r1, r2⟩ := q.two
      cases r1; cases r2
      refine ⟨t, _, rfl, e, ?_, .inl ⟨rfl, rfl⟩⟩
      simp only [kV2, e, k2]
    · cases h
  · unfold isP3 at h
    split at h
    · rename_i a b z
      obtain ⟨t, vs, rfl, e, q⟩ := r.tup_inv
      obtain ⟨v1, v2, v3, rfl, r1, r2, r3⟩ := q.three
      cases r1; cases r2
      refine ⟨t, _, rfl, e, ?_, .inr ⟨v3, rfl⟩⟩
      simp only [kV2, e, k2]
    · cases h
theorem RpL.both {F : Hp} {P : D → Prop} : ∀ {vs : List V} {ds : List D}, RpL K mg F vs ds → (∀ d ∈ ds, P d) → Paired (fun v d => Rp K mg F v d ∧ P d) vs ds
  | _, _, .nil, _ => .nil
  | _, _, .cons r t, h => .cons ⟨r, h _ List.mem_cons_self⟩ (RpL.both t fun d hd => h d (List.mem_cons_of_mem _ hd))
theorem RpL.mem {F : Hp} {vs : List V} {ds : List D} {x : V} (r : RpL K mg F vs ds) (h : x ∈ vs) : ∃ (i : Nat) (d : D), vs[i]? = some x ∧ ds[i]? = some d ∧ d ∈ ds ∧ Rp K mg F x d := by
  obtain ⟨i, hi⟩ := List.mem_iff_getElem?.mp h
  have hl : i < ds.length := by rw [← r.length]; exact (List.getElem?_eq_some_iff.mp hi).1
  exact ⟨i, ds[i], hi, List.getElem?_eq_getElem hl, List.getElem_mem hl, r.get hi (List.getElem?_eq_getElem hl)⟩
theorem rc_sorted : RCD K mg T (fun xs H Q => rSortedI K xs H Q ∨ (rSortedSA K xs H Q ∨ (rSortedPO K xs H Q ∨ rSortedT3 K xs H Q))) sortedD := by
  intro F H vs ds W Q gd r h
  unfold sortedD at h
  split at h
  · rename_i xs
    obtain ⟨v, rfl, rv⟩ := r.one
    obtain ⟨p, us, rfl, e1, q⟩ := rv.lst_inv
    split at h
    · rename_i ns e
      have e2 := ints_eq e
      subst e2
      have eu := q.ints
      subst eu
      refine .inl ⟨p, ns, rfl, .of (gd.sub _ _ e1), fun ns' l h1 h2 hl => ?_⟩
      have st := Step.new (o := .lst (ns'.map V.int)) gd hl
      have en : ns' = srtL ltI ns := perm_eq (fun a b => Int.le_antisymm) h2 (srtI_le ns) (h1.trans (srt_perm ltI ns).symm)
      refine h _ _ _ st (RpL.lst upd_same ?_)
      rw [en]
      exact RpL.of_ints _
    · split at h
      · rename_i ls e
        have e2 := texts_eq e
        subst e2
        obtain ⟨ys, rfl, e3⟩ := q.strs
        refine .inr (.inl ⟨p, ys, rfl, .of (gd.sub _ _ e1), fun zs l h1 h2 hl => ?_⟩)
        have st := Step.new (o := .lst (zs.map V.str)) gd hl
        have en : zs.map TL.tl = srtL ltS ls := perm_eq (fun a b => List.le_antisymm) (sortedS_le zs h2) (srtS_le ls) ((h1.map TL.tl).trans (by rw [e3]; exact (srt_perm ltS ls).symm))
        exact h _ _ _ st (RpL.lst upd_same (RpL.of_strs en))
      · obtain ⟨hc, h⟩ := PostE.ite h
        have hall : ∀ d ∈ xs, isP2 d = true ∨ isP3 d = true := fun d hd => hc.elim (fun z => .inl (List.all_eq_true.mp z d hd)) fun z => .inr (List.all_eq_true.mp z.1 d hd)
        have fin : ∀ ys l, SrtO.Srtd (ltP (kV2 F)) ys → SrtO.Stb (ltP (kV2 F)) ys us → H l = none → Q (.ref l) (upd H l (.lst ys)) := fun ys l h1 h2 hl => by
          have st := Step.new (o := .lst ys) gd hl
          have ey := srt_uniq (ltP_swo (kV2 F)) h1 h2
          have pr := srt_paired (lt := ltP (kV2 F)) (lt' := lt2D) (fun x d y e r1 r2 => by
            obtain ⟨_, _, _, _, k1, _⟩ := kV2_of r1.2 r1.1
            obtain ⟨_, _, _, _, k2, _⟩ := kV2_of r2.2 r2.1
            show SrtO.lexB _ _ = SrtO.lexB _ _
            rw [k1, k2]) (q.both hall)
          rw [← ey] at pr
          exact h _ _ _ st (RpL.lst upd_same (Paired.mono (fun _ _ z => z.1.mono st.r) pr))
        rcases hc with hc | ⟨hc, hn⟩
        · refine .inr (.inr (.inl ⟨p, us, kV2 F, rfl, .of (gd.sub _ _ e1), fun x hx => ?_, fin⟩))
          obtain ⟨i, d, _, _, hd, rd⟩ := q.mem hx
          have h2 := List.all_eq_true.mp hc d hd
          obtain ⟨t, vs, rfl, ht, hk, hv⟩ := kV2_of (.inl h2) rd
          rcases hv with ⟨_, hv⟩ | ⟨z, hv⟩
          · exact ⟨t, rfl, by rw [hk, ← hv]; exact gd.sub _ _ ht⟩
          · exfalso
            unfold isP2 at h2
            split at h2
            · obtain ⟨_, _, e9, e8, q9⟩ := rd.tup_inv
              cases e9
              rw [ht] at e8
              cases e8
              obtain ⟨_, _, e7, _⟩ := q9.two
              rw [hv] at e7
              cases e7
            · cases h2
        · refine .inr (.inr (.inr ⟨p, us, kV2 F, rfl, .of (gd.sub _ _ e1), fun x hx => ?_, fun x hx y hy ek => ?_, fin⟩))
          · obtain ⟨i, d, _, _, hd, rd⟩ := q.mem hx
            have h3 := List.all_eq_true.mp hc d hd
            obtain ⟨t, vs, rfl, ht, hk, hv⟩ := kV2_of (.inr h3) rd
            rcases hv with ⟨h2, _⟩ | ⟨z, hv⟩
            · exfalso
              unfold isP2 at h2
              split at h2
              · cases h3
              · cases h2
            · exact ⟨t, z, rfl, by rw [hk, ← hv]; exact gd.sub _ _ ht⟩
          · obtain ⟨i, d, hi, hi', hd, rd⟩ := q.mem hx
            obtain ⟨j, e, hj, hj', he, re⟩ := q.mem hy
            obtain ⟨_, _, _, _, k1, _⟩ := kV2_of (hall d hd) rd
            obtain ⟨_, _, _, _, k2', _⟩ := kV2_of (hall e he) re
            rw [k1, k2'] at ek
            have hij : i = j := by
              have hi2 : (xs.map k2)[i]? = some (k2 d) := by rw [List.getElem?_map, hi']; rfl
              have hj2 : (xs.map k2)[j]? = some (k2 d) := by rw [List.getElem?_map, hj', ek]; rfl
              have hlt : i < (xs.map k2).length := (List.getElem?_eq_some_iff.mp hi2).1
              exact (List.getElem?_inj hlt hn).mp (by rw [hi2, hj2])
            subst hij
            rw [hi] at hj
            cases hj
            rfl
  · exact h.elim
end
theorem sorted_ints (ns : List Int) : sortedD [.lst (ns.map .int)] = .ok (.lst ((srtL ltI ns).map .int)) := by
  show (match intsO (ns.map D.int) with | some ns => Res.ok (D.lst ((srtL ltI ns).map .int)) | none => _) = _
  rw [ints_map]
theorem sorted_texts (ls : List (List Nat)) : sortedD [.lst (ls.map .str)] = .ok (.lst ((srtL ltS ls).map .str)) := by
  cases ls with
  | nil => rfl
  | cons l ls =>
    show (match intsO ((l :: ls).map D.str) with | some ns => Res.ok (D.lst ((srtL ltI ns).map .int)) | none => (match textsO ((l :: ls).map D.str) with | some ls => Res.ok (D.lst ((srtL ltS ls).map .str)) | none => _)) = _
    rw [texts_map]
    rfl
theorem sorted_tups {xs : List D} (h : xs.all isP2 = true ∨ (xs.all isP3 = true ∧ (xs.map k2).Nodup)) : sortedD [.lst xs] = .ok (.lst (srtL lt2D xs)) := by
  cases xs with
  | nil => rfl
  | cons x xs =>
    have hx : isP2 x = true ∨ isP3 x = true := h.elim (fun z => .inl (List.all_eq_true.mp z x List.mem_cons_self)) fun z => .inr (List.all_eq_true.mp z.1 x List.mem_cons_self)
    have e : sortedD [.lst (x :: xs)] = (match intsO (x :: xs) with | some ns => Res.ok (D.lst ((srtL ltI ns).map .int)) | none => (match textsO (x :: xs) with | some ls => Res.ok (D.lst ((srtL ltS ls).map .str)) | none => if (x :: xs).all isP2 = true ∨ ((x :: xs).all isP3 = true ∧ ((x :: xs).map k2).Nodup) then .ok (.lst (srtL lt2D (x :: xs))) else .stuck)) := rfl
    rw [e]
    cases x with
    | tup l => rw [show intsO (D.tup l :: xs) = none from rfl, show textsO (D.tup l :: xs) = none from rfl]; exact if_pos h
    | _ => rcases hx with hx | hx <;> cases hx
end Dn


set_option Elab.async false
set_option linter.all false
set_option maxRecDepth 100000
set_option maxHeartbeats 4000000
namespace Dn
open PySem PySem.Spec PyProof.Rows L2
/-! ### enumerate, zip of lists -/
def enumD : List D → Res (List D)
  | [.lst xs] => .ok (xs.mapIdx fun i d => .tup [.int (i : Int), d])
  | _ => .stuck
def zipD : List D → Res (List D)
  | [.lst xs, .lst ys] => .ok (List.zipWith (fun a b => .tup [a, b]) xs ys)
  | _ => .stuck
section
variable {T : List (Addr × Str)} {X : Cx} {W : Wi} {K : PySem.W.Frag} {mg : Str → Option Value}
theorem walk_e {F : Hp} {a : Addr} {vs : List V} {ds : List D} (h : F a = some (.lst vs)) (r : RpL K mg F vs ds) : WalkD K mg T (Ite K a) F (ds.mapIdx fun i d => .tup [.int (i : Int), d]) := by
  intro i F' H' rel gd
  have hq : SqL K H' a vs := .of (gd.sub _ _ (rel.lst h))
  refine ⟨fun d ed => ?_, fun hl => ⟨vs, hq, by rw [r.length]; rw [List.length_mapIdx] at hl; exact hl⟩⟩
  rw [List.getElem?_mapIdx] at ed
  cases q : ds[i]? with
  | none => rw [q] at ed; cases ed
  | some e =>
    rw [q] at ed
    cases ed
    obtain ⟨v, ev, rv⟩ := r.get1 q
    refine ⟨⟨vs, v, hq, ev⟩, fun x H'' y => ?_⟩
    obtain ⟨t, z, rfl, ht, rfl, hz⟩ := y
    have ez := hz vs hq
    rw [ev] at ez
    cases ez
    have st := Step.new (o := .tup [.int (i : Nat), v]) gd ht
    exact ⟨_, st, RpL.tup upd_same (.cons (.int _) (.cons ((rv.mono rel).mono st.r) .nil))⟩
theorem walk_z {F : Hp} {a b : Addr} {vs us : List V} {ds es : List D} (h : F a = some (.lst vs)) (r : RpL K mg F vs ds) (h' : F b = some (.lst us)) (r' : RpL K mg F us es) : WalkD K mg T (Itz K a b) F (List.zipWith (fun a b => .tup [a, b]) ds es) := by
  intro i F' H' rel gd
  have hq : SqL K H' a vs := .of (gd.sub _ _ (rel.lst h))
  have hq' : SqL K H' b us := .of (gd.sub _ _ (rel.lst h'))
  refine ⟨fun d ed => ?_, fun hl => ⟨vs, us, hq, hq', by rw [r.length, r'.length]; rw [List.length_zipWith] at hl; omega⟩⟩
  rw [List.getElem?_zipWith] at ed
  cases q : ds[i]? with
  | none => rw [q] at ed; cases ed
  | some d1 =>
    cases q' : es[i]? with
    | none => rw [q, q'] at ed; cases ed
    | some d2 =>
      rw [q, q'] at ed
      cases ed
      obtain ⟨v, ev, rv⟩ := r.get1 q
      obtain ⟨u, eu, ru⟩ := r'.get1 q'
      refine ⟨⟨vs, us, v, u, hq, hq', ev, eu⟩, fun x H'' y => ?_⟩
      obtain ⟨t, z, z', rfl, ht, rfl, hz, hz'⟩ := y
      have ez := hz vs hq
      rw [ev] at ez
      cases ez
      have ez := hz' us hq'
      rw [eu] at ez
      cases ez
      have st := Step.new (o := .tup [v, u]) gd ht
      exact ⟨_, st, RpL.tup upd_same (.cons ((rv.mono rel).mono st.r) (.cons ((ru.mono rel).mono st.r) .nil))⟩
theorem di_enum {e : Expr} {elts : List Expr} {kk : Nat} {p pos tpos : Pos} {fa : Sto → Res (List D)} (hm : X.mg "enumerate" = none) (ha : DA T X W [e] fa) (hg : Gl X "enumerate" := by rfl) (hs : starEach [e] X.env = [(false, eval e X.env)] := by rfl) :
    DI T X W (.Tuple elts kk tpos) (.Call (.Name "enumerate" p) [e] [] pos) (rngA enumD fa) :=
  weakI (pi_enum hg hm ha hs) fun σ H R ⟨F, δ, L, h⟩ => bindA ppI L h fun ds vs F1 H1 s1 L1 r1 h1 => by
    unfold enumD at h1
    split at h1
    · obtain ⟨v, rfl, rv⟩ := r1.one
      obtain ⟨q, us, rfl, e1, r⟩ := rv.lst_inv
      exact ⟨q, us, rfl, .of (L1.sub _ _ e1), h1 _ F1 H1 L1.refl (walk_e e1 r)⟩
    · exact h1.elim
theorem di_zip {e e2 : Expr} {elts : List Expr} {kk : Nat} {p pos tpos : Pos} {fa : Sto → Res (List D)} (hm : X.mg "zip" = none) (ha : DA T X W [e, e2] fa) (hg : Gl X "zip" := by rfl) (hs : starEach [e, e2] X.env = (false, eval e X.env) :: starEach [e2] X.env := by rfl) (hpl : (backTo pos (starEach [e2] X.env)).any (·.1) = false := by rfl) :
    DI T X W (.Tuple elts kk tpos) (.Call (.Name "zip" p) [e, e2] [] pos) (rngA zipD fa) :=
  weakI (pi_zip hg hm ha hs hpl) fun σ H R ⟨F, δ, L, h⟩ => bindA ppI L h fun ds vs F1 H1 s1 L1 r1 h1 => by
    unfold zipD at h1
    split at h1
    · obtain ⟨v, u, rfl, rv, ru⟩ := r1.two
      obtain ⟨q, us, rfl, e1, r⟩ := rv.lst_inv
      obtain ⟨q', us', rfl, e1', r'⟩ := ru.lst_inv
      exact ⟨q, q', us, us', rfl, .of (L1.sub _ _ e1), .of (L1.sub _ _ e1'), h1 _ F1 H1 L1.refl (walk_z e1 r e1' r')⟩
    · exact h1.elim
/-! ### shifts -/
def shlD : D → D → Res D
  | .int i, .int j => if 0 ≤ j ∧ j ≤ 10000 ∧ i.natAbs < 2 ^ 10000 then .ok (.int (i * 2 ^ j.toNat)) else .stuck
  | _, _ => .stuck
theorem r_shl : R2D K mg T (rI CShl fun i j => .int (i * 2 ^ j.toNat)) shlD := r_I (gd := fun i j => .int (i * 2 ^ j.toNat)) (cd := fun i j => 0 ≤ j ∧ j ≤ 10000 ∧ i.natAbs < 2 ^ 10000) (fun _ _ => rfl) (fun x y h => by cases x <;> cases y <;> first | rfl | exact (h _ _ ⟨rfl, rfl⟩).elim) (fun i j F => .int _) fun i j h => by
  have := shl_ok (i := i) (j := j.toNat) (n := 10000) h.2.2 (by omega)
  rw [Int.toNat_of_nonneg h.1] at this
  exact this
/-! ### isinstance -/
def isID : D → Res D
  | .int _ => .ok (.bl true)
  | .bl _ => .ok (.bl true)
  | .non => .ok (.bl false)
  | .str _ => .ok (.bl false)
  | .lst _ => .ok (.bl false)
  | _ => .stuck
def isBD : D → Res D
  | .int _ => .ok (.bl false)
  | .bl _ => .ok (.bl true)
  | .non => .ok (.bl false)
  | .str _ => .ok (.bl false)
  | .lst _ => .ok (.bl false)
  | _ => .stuck
def isPD : D → Res D
  | .int _ => .ok (.bl false)
  | .tup _ => .ok (.bl true)
  | .non => .ok (.bl false)
  | .str _ => .ok (.bl false)
  | .lst _ => .ok (.bl false)
  | _ => .stuck
theorem isI_read {K : PySem.W.Frag} {mg : Str → Option Value} {fe : Sto → Res D} {σ : L2.St} {H : Hp} {Q : VK} (h : tD K mg T W (un isID fe) σ H Q) : tCB (rIsi K) (tCons (tD K mg T W fe) (tCons (tC (.ty "int")) tNil)) σ H Q := by
  obtain ⟨F, δ, L, h⟩ := h
  refine bindE ppE L h fun d v F1 H1 s1 L1 r1 h1 => ?_
  cases r1 with
  | lst e hl he => exact ⟨_, _, _, _, false, rfl, .ty "int", .base (.lst (L1.sub _ _ e)), kit_ty (by decide +kernel), PostE.here h1 L1.gd (.bl false)⟩
  | str e => exact ⟨_, _, _, _, false, rfl, .ty "int", .base (.str _), kit_ty (by decide +kernel), PostE.here h1 L1.gd (.bl false)⟩
  | int e => exact ⟨_, _, _, _, true, rfl, .ty "int", .base (.int _), kit_ty (by decide +kernel), PostE.here h1 L1.gd (.bl true)⟩
  | bl e => exact ⟨_, _, _, _, true, rfl, .ty "int", .base (.bl _), kit_ty (by decide +kernel), PostE.here h1 L1.gd (.bl true)⟩
  | non => exact ⟨_, _, _, _, false, rfl, .ty "int", .base .non, kit_ty (by decide +kernel), PostE.here h1 L1.gd (.bl false)⟩
  | _ => exact (show False from h1).elim
theorem isB_read {K : PySem.W.Frag} {mg : Str → Option Value} {fe : Sto → Res D} {σ : L2.St} {H : Hp} {Q : VK} (h : tD K mg T W (un isBD fe) σ H Q) : tCB (rIsi K) (tCons (tD K mg T W fe) (tCons (tC (.ty "bool")) tNil)) σ H Q := by
  obtain ⟨F, δ, L, h⟩ := h
  refine bindE ppE L h fun d v F1 H1 s1 L1 r1 h1 => ?_
  cases r1 with
  | lst e hl he => exact ⟨_, _, _, _, false, rfl, .ty "bool", .base (.lst (L1.sub _ _ e)), kit_ty (by decide +kernel), PostE.here h1 L1.gd (.bl false)⟩
  | str e => exact ⟨_, _, _, _, false, rfl, .ty "bool", .base (.str _), kit_ty (by decide +kernel), PostE.here h1 L1.gd (.bl false)⟩
  | int e => exact ⟨_, _, _, _, false, rfl, .ty "bool", .base (.int _), kit_ty (by decide +kernel), PostE.here h1 L1.gd (.bl false)⟩
  | bl e => exact ⟨_, _, _, _, true, rfl, .ty "bool", .base (.bl _), kit_ty (by decide +kernel), PostE.here h1 L1.gd (.bl true)⟩
  | non => exact ⟨_, _, _, _, false, rfl, .ty "bool", .base .non, kit_ty (by decide +kernel), PostE.here h1 L1.gd (.bl false)⟩
  | _ => exact (show False from h1).elim
theorem isP_read {K : PySem.W.Frag} {mg : Str → Option Value} {fe : Sto → Res D} {σ : L2.St} {H : Hp} {Q : VK} (h : tD K mg T W (un isPD fe) σ H Q) : tCB (rIsi K) (tCons (tD K mg T W fe) (tCons (tC (.ty "tuple")) tNil)) σ H Q := by
  obtain ⟨F, δ, L, h⟩ := h
  refine bindE ppE L h fun d v F1 H1 s1 L1 r1 h1 => ?_
  cases r1 with
  | lst e hl he => exact ⟨_, _, _, _, false, rfl, .ty "tuple", .base (.lst (L1.sub _ _ e)), kit_ty (by decide +kernel), PostE.here h1 L1.gd (.bl false)⟩
  | str e => exact ⟨_, _, _, _, false, rfl, .ty "tuple", .base (.str _), kit_ty (by decide +kernel), PostE.here h1 L1.gd (.bl false)⟩
  | int e => exact ⟨_, _, _, _, false, rfl, .ty "tuple", .base (.int _), kit_ty (by decide +kernel), PostE.here h1 L1.gd (.bl false)⟩
  | tup e hl he => exact ⟨_, _, _, _, true, rfl, .ty "tuple", .base (.tup (L1.sub _ _ e)), kit_ty (by decide +kernel), PostE.here h1 L1.gd (.bl true)⟩
  | non => exact ⟨_, _, _, _, false, rfl, .ty "tuple", .base .non, kit_ty (by decide +kernel), PostE.here h1 L1.gd (.bl false)⟩
  | _ => exact (show False from h1).elim
theorem de_isI {e : Expr} {fe : Sto → Res D} {p p2 pos : Pos} (he : DE T X W e fe) (hm : X.mg "isinstance" = none) (hl : X.mg "int" = none) (hse : starEach (e :: [.Name "int" p2]) X.env = (false, eval e X.env) :: starEach [.Name "int" p2] X.env := by rfl) (hg : Gl X "isinstance" := by rfl) (hgl : Gl X "int" := by rfl) :
    DE T X W (.Call (.Name "isinstance" p) [e, .Name "int" p2] [] pos) (un isID fe) :=
  weakE (pe_callB call_isi hg hm (by decide +kernel) (pa_cons he (pa_cons (pe_bltn (v := .ty "int") hgl hl (by decide +kernel) rfl) pa_nil) hse) (by decide) (by decide) hse) fun σ H Q h => isI_read h
theorem de_isBo {e : Expr} {fe : Sto → Res D} {p p2 pos : Pos} (he : DE T X W e fe) (hm : X.mg "isinstance" = none) (hl : X.mg "bool" = none) (hse : starEach (e :: [.Name "bool" p2]) X.env = (false, eval e X.env) :: starEach [.Name "bool" p2] X.env := by rfl) (hg : Gl X "isinstance" := by rfl) (hgl : Gl X "bool" := by rfl) :
    DE T X W (.Call (.Name "isinstance" p) [e, .Name "bool" p2] [] pos) (un isBD fe) :=
  weakE (pe_callB call_isi hg hm (by decide +kernel) (pa_cons he (pa_cons (pe_bltn (v := .ty "bool") hgl hl (by decide +kernel) rfl) pa_nil) hse) (by decide) (by decide) hse) fun σ H Q h => isB_read h
theorem de_isP {e : Expr} {fe : Sto → Res D} {p p2 pos : Pos} (he : DE T X W e fe) (hm : X.mg "isinstance" = none) (hl : X.mg "tuple" = none) (hse : starEach (e :: [.Name "tuple" p2]) X.env = (false, eval e X.env) :: starEach [.Name "tuple" p2] X.env := by rfl) (hg : Gl X "isinstance" := by rfl) (hgl : Gl X "tuple" := by rfl) :
    DE T X W (.Call (.Name "isinstance" p) [e, .Name "tuple" p2] [] pos) (un isPD fe) :=
  weakE (pe_callB call_isi hg hm (by decide +kernel) (pa_cons he (pa_cons (pe_bltn (v := .ty "tuple") hgl hl (by decide +kernel) rfl) pa_nil) hse) (by decide) (by decide) hse) fun σ H Q h => isP_read h
/-! ### lists of one's own: stores, reads, repeats -/
def mulN : D → D → Res (List D)
  | .lst a, .int n => if n < 2 ^ 40 ∧ -(2 ^ 40) < n ∧ a.length * n.toNat ≤ line then .ok (repL n.toNat a) else .stuck
  | _, _ => .stuck
theorem rep_rp {F : Hp} {vs : List V} {ds : List D} (r : RpL K mg F vs ds) (k : Nat) : RpL K mg F (List.replicate k vs).flatten (repL k ds) := by
  induction k with
  | zero => exact .nil
  | succ k ih =>
    unfold repL
    rw [List.replicate_succ, List.flatten_cons, List.replicate_succ, List.flatten_cons]
    exact r.append ih
theorem dl_rep {a b : Expr} {fa fb : Sto → Res D} {pos : Pos} (ha : DE T X W a fa) (hb : DE T X W b fb) : DL T X W (.BinOp a .Mult b pos) (binN mulN fa fb) :=
  weakE (pe_op op_rep ha hb) fun σ H Q ⟨F, δ, L, h⟩ => bindE ppL L h fun x v F1 H1 s1 L1 r1 h1 => bindE ppL L1 h1 fun y u F2 H2 s2 L2 r2 h2 => by
    have r1 := r1.mono s2.r
    unfold mulN at h2
    split at h2
    · rename_i as n
      obtain ⟨hl, h3⟩ := PostL.ite h2
      obtain ⟨p, vs, rfl, hp, rp⟩ := r1.lst_inv
      cases r2
      refine ⟨p, _, vs, rfl, rfl, L2.sub _ _ hp, by omega, by omega, by rw [rp.length]; exact Nat.le_trans hl.2.2 line_le, fun z hz => ?_⟩
      exact h3 z _ F2 _ (.of hz) (Step.junk L2.gd hz) (L2.sub.none hz) upd_same (rep_rp rp _)
    · exact h2.elim
/-- x[e], x a list of one's own -/
def ixO (i : Nat) (f : Sto → Res D) : Sto → Res D := fun δ => match δ[i]? with
  | some (.own ds) => (f δ).bind fun k => ixD (.lst ds) k
  | _ => .stuck
theorem de_ixO {x : Str} {b : Expr} {fb : Sto → Res D} {p pos : Pos} (i : Nat) (hb : DE T X W b fb) (hN : X.N[i]? = some x := by rfl) (hv : Vis X.env.scope x := by first | exact Or.inl rfl | exact Or.inr (Or.inl rfl) | exact Or.inr (Or.inr rfl)) (hd : (x == ("__debug__" : Str)) = false := by decide) (hcd : (x == ("__classdict__" : Str)) = false := by decide) (hs : PlainIx b := by exact fun _ _ => rfl) :
    DE T X W (.Subscript (.Name x p) b pos) (ixO i fb) :=
  weakE (pe_ix ix_seq (pe_var (i := i) hN hv hd hcd) hb hs) fun σ H Q ⟨F, δ, L, h⟩ => by
    unfold ixO at h
    split at h
    · rename_i ds e
      obtain ⟨ov, q, p, vs, rfl, nF, hH, rv⟩ := L.slot i _ e
      refine ⟨.ref p, q, bindE ppE L h fun k u F1 H1 s1 L1 r1 h1 => ?_⟩
      obtain ⟨ov, q', p', vs', ev, nF', hH', rv'⟩ := L1.slot i _ e
      rw [q] at q'; cases q'; cases ev
      unfold ixD at h1
      split at h1
      · rename_i xs z hx
        cases hx
        split at h1
        · rename_i d ed
          cases r1
          obtain ⟨w, e2, rw'⟩ := atI_rp rv' ed
          exact .inl ⟨p, vs', z, w, rfl, rfl, .of hH', e2, h1.here L1.gd rw'⟩
        · exact h1.elim
      · rename_i hx; cases hx
      · rename_i hx; cases hx
      · rename_i hx; cases hx
      · exact h1.elim
    · exact h.elim
/-- x[k] = e, x a list of one's own -/
def stoS (i : Nat) (fk fe : Sto → Res D) : Sto → Out := fun δ => match δ[i]? with
  | some (.own ds) => (fe δ).out fun d => (fk δ).out fun k => match k with
    | .int z => match ixN ds.length z with
      | some j => .nx (δ.set i (.own (ds.set j d)))
      | none => .stuck
    | _ => .stuck
  | _ => .stuck
theorem ds_sto {x : Str} {b e : Expr} {fb fe : Sto → Res D} {p p2 pos : Pos} (i : Nat) (he : DE T X W e fe) (hb : DE T X W b fb) (hN : X.N[i]? = some x := by rfl) (hv : Vis X.env.scope x := by first | exact Or.inl rfl | exact Or.inr (Or.inl rfl) | exact Or.inr (Or.inr rfl)) (hd : (x == ("__debug__" : Str)) = false := by decide) (hcd : (x == ("__classdict__" : Str)) = false := by decide)
    (hs : swapsWithSole [.Subscript (.Name x p) b p2] e pos.line X.env = pure false := by rfl) (hw : swappedStores [.Subscript (.Name x p) b p2] e X.env = pure none := by rfl)
    (h1 : (assignEach [.Subscript (.Name x p) b p2] X.env).map (·.2) = [assign (.Subscript (.Name x p) b p2) X.env] := by rfl)
    (ha : ∀ v, assign (.Subscript (.Name x p) b p2) X.env v = (do
      let ov ← holding [v] (eval (.Name x p) X.env)
      let iv ← holding [v, ov] (eval b X.env)
      standAt p2
      holding [v, ov, iv] (setItem ov iv v)
      release [v, ov, iv] []) := by intro _; rfl) : DS T X W (.Assign [.Subscript (.Name x p) b p2] e pos) (stoS i fb fe) :=
  weakS (ps_asg he (pg_sub (pe_var (i := i) hN hv hd hcd) hb set_list ha) hs hw h1) fun D' σ H ⟨F0, H0, F, δ, S, h⟩ => by
    unfold stoS at h
    split at h
    · rename_i ds e1
      refine outE S h fun d v F1 H1 r1 S1 rd h1 => ?_
      obtain ⟨ov, q, p, vs, rfl, nF, hH, rv⟩ := S1.loc.slot i _ e1
      refine ⟨.ref p, q, ?_⟩
      refine outE S1 h1 fun k u F2 H2 r2 S2 rk h2 => ?_
      obtain ⟨ov, q', p', vs', ev, nF', hH', rv'⟩ := S2.loc.slot i _ e1
      rw [q] at q'; cases q'; cases ev
      split at h2
      · rename_i z
        split at h2
        · rename_i j ej
          cases rk
          exact ⟨p, vs', z, j, rfl, rfl, hH', by rw [rv'.length]; exact ej, h2 σ F2 _ (.refl F2) (S2.turn e1 q (rv'.set j (rd.mono r2)))⟩
        · exact h2.elim
      · exact h2.elim
    · exact h.elim
/-! ### x, y = e -/
def tgU (i j : Nat) : D → Sto → Option Sto := fun d δ => match d with
  | .tup [a, b] => some ((δ.set i (.val a)).set j (.val b))
  | .lst [a, b] => some ((δ.set i (.val a)).set j (.val b))
  | _ => none
def asgU (g : D → Sto → Option Sto) (fe : Sto → Res D) : Sto → Out := fun δ => (fe δ).out fun d => match g d δ with
  | some δ' => .nx δ'
  | none => .stuck
theorem PG.or {tg : Expr} {g g' : TG} (h : PG X tg g) (h' : PG X tg g') : PG X tg (fun v σ H Q => g v σ H Q ∨ g' v σ H Q) := ⟨fun pins s σ H v u Q I r q => q.elim (h.run pins s σ H v u Q I r) (h'.run pins s σ H v u Q I r)⟩
theorem ds_unp {x y : Str} {e : Expr} {fe : Sto → Res D} {k : Nat} {p1 p2 tpos pos : Pos} (i j : Nat) (hN : X.N.Nodup) (hc : X.calm = true) (he : DE T X W e fe) (hi : X.N[i]? = some x := by rfl) (hx : L2.Loc X.env.scope x := by first | exact Or.inl rfl | exact Or.inr rfl) (hj : X.N[j]? = some y := by rfl) (hy : L2.Loc X.env.scope y := by first | exact Or.inl rfl | exact Or.inr rfl)
    (hf : X.fn x = true ∨ X.env.scope.names.lookup x = some .local := by first | exact .inl rfl | exact .inr rfl | assumption) (hf2 : X.fn y = true ∨ X.env.scope.names.lookup y = some .local := by first | exact .inl rfl | exact .inr rfl | assumption)
    (hs : (assignEach ((.Name x p1) :: [.Name y p2]) X.env).map (·.2) = assign (.Name x p1) X.env :: (assignEach [.Name y p2] X.env).map (·.2) := by rfl) (hs2 : (assignEach ((.Name y p2) :: []) X.env).map (·.2) = assign (.Name y p2) X.env :: (assignEach [] X.env).map (·.2) := by rfl)
    (hn : (assignEach [.Name x p1, .Name y p2] X.env).length = 2 := by rfl) (hst : (assignEach [.Name x p1, .Name y p2] X.env).findIdx? (·.1) = none := by rfl)
    (hs3 : swapsWithSole [.Tuple [.Name x p1, .Name y p2] k tpos] e pos.line X.env = pure false := by rfl) (hw : swappedStores [.Tuple [.Name x p1, .Name y p2] k tpos] e X.env = pure none := by rfl)
    (h1 : (assignEach [.Tuple [.Name x p1, .Name y p2] k tpos] X.env).map (·.2) = [assign (.Tuple [.Name x p1, .Name y p2] k tpos) X.env] := by rfl) :
    DS T X W (.Assign [.Tuple [.Name x p1, .Name y p2] k tpos] e pos) (asgU (tgU i j) fe) :=
  weakS (ps_asg he (PG.or (pg_tup hc (pgs_cons (pg_name (i := i) hN hi hx hf) (pgs_cons (pg_name (i := j) hN hj hy hf2) pgs_nil hs2) hs) hn hst) (pg_lst hc (pgs_cons (pg_name (i := i) hN hi hx hf) (pgs_cons (pg_name (i := j) hN hj hy hf2) pgs_nil hs2) hs) hn hst)) hs3 hw h1) fun D' σ H ⟨F0, H0, F, δ, S, h⟩ => by
    refine outE S h fun d v F1 H1 r1 S1 rd h1 => ?_
    unfold tgU at h1
    split at h1
    · rename_i δ' z
      split at z
      · cases z
        obtain ⟨p, vs, rfl, e1, q⟩ := rd.tup_inv
        obtain ⟨v1, v2, rfl, r1, r2⟩ := q.two
        exact .inl ⟨p, [v1, v2], rfl, .of (S1.loc.sub _ _ e1), rfl, v1, [v2], rfl, v2, [], rfl, rfl, h1 _ F1 H1 (.refl F1) ((S1.setVal r1).setVal r2)⟩
      · cases z
        obtain ⟨p, vs, rfl, e1, q⟩ := rd.lst_inv
        obtain ⟨v1, v2, rfl, r1, r2⟩ := q.two
        exact .inr ⟨p, [v1, v2], rfl, .of (S1.loc.sub _ _ e1), rfl, v1, [v2], rfl, v2, [], rfl, rfl, h1 _ F1 H1 (.refl F1) ((S1.setVal r1).setVal r2)⟩
      · cases z
    · exact h1.elim
/-- x, y = a, b -/
def asg2 (i j : Nat) (fa : Sto → Res (List D)) : Sto → Out := fun δ => match fa δ with
  | .ok [a, b] => .nx ((δ.set i (.val a)).set j (.val b))
  | .rs c => .rs c
  | _ => .stuck
theorem outA {F0 : Hp} {H0 : Hp × Addr} {F H : Hp} {σ : L2.St} {δ : Sto} {D' : Ends} {f : Sto → Res (List D)} {k : List D → Out} {Q : List V → Hp → Prop} (S : StR K mg T F0 H0 F H σ δ) (h : PostS K mg T F0 H0 F W D' ((f δ).out k))
    (hk : ∀ d v F' H', Rel F F' → StR K mg T F0 H0 F' H' σ δ → RpL K mg F' v d → PostS K mg T F0 H0 F' W D' (k d) → Q v H') : tDA K mg T W f σ H Q := by
  refine ⟨F, δ, S.loc, ?_⟩
  cases e : f δ with
  | ok d => rw [e] at h; exact fun v F' H' st r => hk d v F' H' st.r (S.step st) r (h.shift st.r)
  | rs c => rw [e] at h; exact fun F' H' st => h F' H' (S.st.trans st)
  | stuck => rw [e] at h; exact h
theorem ds_par {x y : Str} {a b : Expr} {fa : Sto → Res (List D)} {kt k2 : Nat} {px py pt pt2 pos : Pos} (i j : Nat) (hN : X.N.Nodup) (hc : X.calm = true) (ha : DA T X W [a, b] fa) (hi : X.N[i]? = some x := by rfl) (hj : X.N[j]? = some y := by rfl) (hij : i ≠ j := by decide)
    (hx : X.env.scope.names.lookup x = some .local := by rfl) (hy : X.env.scope.names.lookup y = some .local := by rfl)
    (hw : swappedStores [.Tuple [.Name x px, .Name y py] kt pt] (.Tuple [a, b] k2 pt2) X.env = pure (some [x, y]) := by rfl)
    (hs : swapsWithSole [.Tuple [.Name x px, .Name y py] kt pt] (.Tuple [a, b] k2 pt2) pos.line X.env = pure false := by rfl) :
    DS T X W (.Assign [.Tuple [.Name x px, .Name y py] kt pt] (.Tuple [a, b] k2 pt2) pos) (asg2 i j fa) :=
  weakS (ps_par hc hN hi hj hij hx hy ha hw hs) fun D' σ H ⟨F0, H0, F, δ, S, h⟩ => by
    have h' : PostS X.K X.mg T F0 H0 F W D' ((fa δ).out fun ds => match ds with | [a, b] => .nx ((δ.set i (.val a)).set j (.val b)) | _ => .stuck) := by
      unfold asg2 at h
      cases e : fa δ with
      | ok ds =>
        rw [e] at h
        match ds, h with
        | [], h => exact h
        | [_], h => exact h
        | [_, _], h => exact h
        | _ :: _ :: _ :: _, h => exact h
      | rs c => rw [e] at h; exact h
      | stuck => rw [e] at h; exact h
    refine outA S h' fun ds vs F1 H1 r1 S1 rd h1 => ?_
    match ds, rd, h1 with
    | [d1, d2], rd, h1 =>
      obtain ⟨v1, v2, rfl, r1, r2⟩ := rd.two
      exact ⟨v1, v2, rfl, h1 _ F1 H1 (.refl F1) ((S1.setVal r1).setVal r2)⟩
    | [], _, h1 => exact (show False from h1).elim
    | [_], _, h1 => exact (show False from h1).elim
    | _ :: _ :: _ :: _, _, h1 => exact (show False from h1).elim
end
/-! ### working out -/
section
variable {δ : Sto}
theorem mulN_lst {a : List D} {n : Int} (h : n < 2 ^ 40 ∧ -(2 ^ 40) < n ∧ a.length * n.toNat ≤ line) : mulN (.lst a) (.int n) = .ok (repL n.toNat a) := if_pos h
theorem shlD_int {i j : Int} (h : 0 ≤ j ∧ j ≤ 10000 ∧ i.natAbs < 2 ^ 10000) : shlD (.int i) (.int j) = .ok (.int (i * 2 ^ j.toNat)) := if_pos h
@[simp] theorem isID_int {i : Int} : isID (.int i) = .ok (.bl true) := nrfl rfl
@[simp] theorem isID_bl {i : Bool} : isID (.bl i) = .ok (.bl true) := nrfl rfl
@[simp] theorem isID_non : isID .non = .ok (.bl false) := nrfl rfl
@[simp] theorem isBD_int {i : Int} : isBD (.int i) = .ok (.bl false) := nrfl rfl
@[simp] theorem isBD_bl {i : Bool} : isBD (.bl i) = .ok (.bl true) := nrfl rfl
@[simp] theorem isBD_non : isBD .non = .ok (.bl false) := nrfl rfl
@[simp] theorem isPD_tup {i : List D} : isPD (.tup i) = .ok (.bl true) := nrfl rfl
@[simp] theorem isLD_lst {i : List D} : isLD (.lst i) = .ok (.bl true) := nrfl rfl
@[simp] theorem isLD_str {i : List Nat} : isLD (.str i) = .ok (.bl false) := nrfl rfl
@[simp] theorem enumD_lst {xs : List D} : enumD [.lst xs] = .ok (xs.mapIdx fun i d => .tup [.int (i : Int), d]) := nrfl rfl
@[simp] theorem zipD_lst {xs ys : List D} : zipD [.lst xs, .lst ys] = .ok (List.zipWith (fun a b => .tup [a, b]) xs ys) := nrfl rfl
@[simp] theorem asgU_eq {g : D → Sto → Option Sto} {fe : Sto → Res D} : asgU g fe δ = (fe δ).out fun d => (match g d δ with | some δ' => .nx δ' | none => .stuck) := nrfl rfl
@[simp] theorem tgU_tup {i j : Nat} {a b : D} : tgU i j (.tup [a, b]) δ = some ((δ.set i (.val a)).set j (.val b)) := nrfl rfl
@[simp] theorem tgU_lst {i j : Nat} {a b : D} : tgU i j (.lst [a, b]) δ = some ((δ.set i (.val a)).set j (.val b)) := nrfl rfl
@[simp] theorem tgP_tup {i j : Nat} {a b : D} : tgP i j (.tup [a, b]) δ = some ((δ.set i (.val a)).set j (.val b)) := nrfl rfl
@[simp] theorem asg2_eq {i j : Nat} {fa : Sto → Res (List D)} : asg2 i j fa δ = (match fa δ with | .ok [a, b] => .nx ((δ.set i (.val a)).set j (.val b)) | .rs c => .rs c | _ => .stuck) := nrfl rfl
@[simp] theorem ixO_eq {i : Nat} {f : Sto → Res D} : ixO i f δ = (match δ[i]? with | some (.own ds) => (f δ).bind fun k => ixD (.lst ds) k | _ => .stuck) := nrfl rfl
@[simp] theorem stoS_eq {i : Nat} {fk fe : Sto → Res D} : stoS i fk fe δ = (match δ[i]? with
  | some (.own ds) => (fe δ).out fun d => (fk δ).out fun k => (match k with
    | .int z => (match ixN ds.length z with
      | some j => .nx (δ.set i (.own (ds.set j d)))
      | none => .stuck)
    | _ => .stuck)
  | _ => .stuck) := nrfl rfl
@[simp] theorem frzS_eq {i : Nat} {f : Sto → Out} : frzS i f δ = (match δ[i]? with | some (.own ds) => f (δ.set i (.val (.lst ds))) | _ => .stuck) := nrfl rfl
@[simp] theorem appS_eq {i : Nat} {f : Sto → Res D} : appS i f δ = (match δ[i]? with | some (.own ds) => (f δ).out fun d => if ds.length < line then .nx (δ.set i (.own (ds ++ [d]))) else .stuck | _ => .stuck) := nrfl rfl
@[simp] theorem lenO_eq {i : Nat} : lenO i δ = (match δ[i]? with | some (.own ds) => .ok (.int ds.length) | _ => .stuck) := nrfl rfl
end
end Dn


set_option Elab.async false
set_option linter.all false
set_option maxRecDepth 100000
set_option maxHeartbeats 4000000
namespace TxS
open PySem PySem.Spec PyProof.Rows L2 PySem.Froz
/-! ### a set of texts that can be walked -/
structure TxR (P : Program) (w : World) (D : SD) (l : List Str) : Prop where
  ok : TxOk P w D l
  nd : l.Nodup
  ris : Ris D.2.2.place.toList
  led : w.params.followText "set-order" = true ∨ D.2.2.led = true
section
variable {P : Program} {w : World} {A : Around} {E : Value → Shared → Prop} {s : Shared}
theorem plain_off (t : SetTable) : (if t.plain = true then { t with plain := false } else t).place = t.place ∧ (if t.plain = true then { t with plain := false } else t).led = t.led := by
  split <;> exact ⟨rfl, rfl⟩
theorem tail_ris {ep : Nat} {es : Array (Int × Value)} {t : SetTable} {b : Bool} (h : Ris t.place.toList) : Ris (tailTx ep es t b).2.2.place.toList ∧ (tailTx ep es t b).2.2.led = t.led := by
  unfold tailTx
  split
  · exact ⟨relayAll_ris t es _, relayAll_led t es _⟩
  · exact ⟨h, rfl⟩
theorem TxR.add {D : SD} {l : List Str} {k : Str} (u : Tok) (R : TxR P w D l) (hk : k ∉ l) : TxR P w (addTx (hashStr w k) (.str k u) D) (k :: l) := by
  obtain ⟨o1, o2⟩ := plain_off (layNew D.2.2 D.1 (hashStr w k) (.str k u)).2.1
  have r1 := layNew_ris D.2.2 D.1 (hashStr w k) (.str k u) R.ris
  have l1 := layNew_led D.2.2 D.1 (hashStr w k) (.str k u)
  obtain ⟨t1, t2⟩ := tail_ris (ep := D.2.1) (es := (layNew D.2.2 D.1 (hashStr w k) (.str k u)).1) (b := (layNew D.2.2 D.1 (hashStr w k) (.str k u)).2.2.1) (t := if (layNew D.2.2 D.1 (hashStr w k) (.str k u)).2.1.plain = true then { (layNew D.2.2 D.1 (hashStr w k) (.str k u)).2.1 with plain := false } else (layNew D.2.2 D.1 (hashStr w k) (.str k u)).2.1) (by rw [o1]; exact r1)
  refine ⟨add_ok u R.ok, List.nodup_cons.mpr ⟨hk, R.nd⟩, t1, R.led.imp id fun z => ?_⟩
  have e : (addTx (hashStr w k) (.str k u) D).2.2.led = D.2.2.led := by
    refine Eq.trans t2 ?_
    rw [o2, l1]
  rw [e]; exact z
/-- the add of a text that is there -/
theorem add_old {a : Addr} {T : String} {D : SD} {l : List Str} {k : Str} {u : Tok} {Q : Bool → Shared → Prop} (ho : s.heap.get? a = some (sObj T D)) (F : TxOk P w D l) (hk : k ∈ l) (hb : l.length < scanBound) (h : Q false s) :
    wpAny (model P w) A (setAddHashed a (.str k u) (hashStr w k)) Q E s := by
  obtain ⟨es, ep, t⟩ := D
  have el : ElemsOf (strKind P w) es.toList := F.el
  obtain ⟨e, he, ie⟩ := (F.mem k).mp hk
  unfold setAddHashed setAddHashedIn
  refine wpAny_holding (wpAny_bind (wpAny_setState_of (es := es) (t := t) ho rfl F.fit ?_))
  dsimp only
  rw [byScan_of rfl (by have := F.sz; simp only at this; omega) el]
  simp only [↓reduceIte]
  unfold setAddByScan
  refine wpAny_bind (wpAny_bind (wpAny_rule (wpAny_bind (wpAny_setScan_of (knd := strKind P w) (k := k) (is_str k u) ho rfl F.fit el ?_))))
  cases z : List.findIdx? (fun e => (strKind P w).is k e.2) es.toList with
  | some j => dsimp only; exact wpAny_pure (wpAny_pure h)
  | none =>
    have c := List.findIdx?_eq_none_iff.mp z e he
    rw [ie] at c
    cases c
/-- what is held of the set's signs behind the first i of a text -/
def Got (x : Str) (i : Nat) (l : List Str) : Prop := ∀ k : Str, k ∈ l ↔ ∃ c ∈ x.cps.toList.take i, k = ⟨#[c]⟩
theorem upd_loop {I : Addr} {fp wr : List Addr} {G : Array GenState → Array GenState → Prop} {St : Nat → Shared → Prop} {R : Result → Shared → Prop} {x : Str}
    (W : WalksS P w A.in1 I fp wr G x.cps.size (SignAt x) St) (S : Addr) (hSf : S ∉ fp) (hb : x.cps.size + 1 < scanBound) :
    ∀ (k i : Nat) (s : Shared), x.cps.size - i = k → i ≤ x.cps.size → St i s → (∃ D l, s.heap.get? S = some (sObj "set" D) ∧ TxR P w D l ∧ Got x i l ∧ l.length ≤ i) →
      (∀ s' D l, Moved (S :: wr) G s s' → s'.heap.get? S = some (sObj "set" D) → TxR P w D l → Got x x.cps.size l → l.length ≤ x.cps.size → R (.ok (.ret .none)) s') →
      codeAny (model P w) A (.builtin "set.update.loop" ⟨[.ref S, .ref I], []⟩) R s := by
  have hSw : S ∉ wr := fun h => hSf (W.sub _ h)
  have more : ∀ b ∈ wr, b ∈ S :: wr := fun b h => List.mem_cons_of_mem _ h
  intro k
  induction k with
  | zero =>
    intro i s hk hi hst ⟨D, l, ho, TR, gt, ll⟩ hR
    obtain rfl : i = x.cps.size := by omega
    refine codeAny_builtin F.entry_set_update_loop ?_
    rw [Around.under_plainId F.plain_set_update_loop _]
    refine wpAny_bind (m := pyNext (.ref I)) (W.done s _ _ hst fun s' hm => ?_)
    exact wpAny_pure (hR s' D l (hm.mono more) (hm.heap S _ hSw ho) TR gt ll)
  | succ k ih =>
    intro i s hk hi hst ⟨D, l, ho, TR, gt, ll⟩ hR
    have hlt : i < x.cps.size := by omega
    refine codeAny_builtin F.entry_set_update_loop ?_
    rw [Around.under_plainId F.plain_set_update_loop _]
    refine wpAny_bind (m := pyNext (.ref I)) (W.item i s _ _ hlt hst fun v s1 hP hst1 hm => ?_)
    obtain ⟨c, u, hc, rfl⟩ := hP
    have ho1 := hm.heap S _ hSw ho
    have hc' : x.cps.toList[i]? = some c := by rw [Array.getElem?_toList]; exact hc
    show wpAny _ A.in1 (holding [Value.str ⟨#[c]⟩ u] (setAdd S (.str ⟨#[c]⟩ u)) >>= _) _ _ s1
    refine wpAny_bind (wpAny_holding ?_)
    unfold setAdd
    refine wpAny_holding (wpAny_bind ((strKind P w).pyHash (k := ⟨#[c]⟩) (is_str _ _) ?_))
    by_cases hin : (⟨#[c]⟩ : Str) ∈ l
    · refine add_old (s := { s1 with toks := s1.toks + 1 }) ho1 TR.ok hin (by omega) ?_
      refine wpAny_pure ⟨plainId_quiet F.plain_set_update_loop _, ih (i + 1) _ (by omega) hlt (W.frame _ s1 _ _ hst1 (Nat.le_succ _) fun b hb o e => e) ⟨D, l, ho1, TR, fun k => ?_, by omega⟩ fun s2 D2 l2 hm2 => hR s2 D2 l2 (Moved.trans W.gtrans ((hm.mono more).then_heap (Nat.le_succ _) fun b o hb e => e) hm2)⟩
      rw [gt k, List.take_add_one, hc']
      constructor
      · rintro ⟨d, hd, e⟩
        exact ⟨d, List.mem_append_left _ hd, e⟩
      · rintro ⟨d, hd, e⟩
        rcases List.mem_append.mp hd with hd | hd
        · exact ⟨d, hd, e⟩
        · have : d = c := by simpa using hd
          rw [this] at e
          rw [e]
          exact (gt _).mp hin
    · refine add_x (s := { s1 with toks := s1.toks + 1 }) ho1 TR.ok hin (by omega) ?_
      have ho2 := get_upd (sObj "set" (addTx (hashStr w ⟨#[c]⟩) (.str ⟨#[c]⟩ u) D)) ho1 rfl
      have oth : ∀ b o, b ≠ S → s1.heap.get? b = some o → (s1.heap.update S (fun _ => sObj "set" (addTx (hashStr w ⟨#[c]⟩) (.str ⟨#[c]⟩ u) D))).get? b = some o := fun b o hb e => PySem.Heap.get?_update_of_ne _ (Ne.symm hb) e
      refine wpAny_pure ⟨plainId_quiet F.plain_set_update_loop _, ih (i + 1) _ (by omega) hlt (W.frame _ s1 _ _ hst1 (Nat.le_succ _) fun b hb o e => oth b o (fun z => hSf (z ▸ hb)) e) ⟨_, _, ho2, TR.add u hin, fun k => ?_, by simp; omega⟩ fun s2 D2 l2 hm2 => hR s2 D2 l2 (Moved.trans W.gtrans ((hm.mono more).then_heap (Nat.le_succ _) fun b o hb e => oth b o (fun z => hb (z ▸ List.mem_cons_self)) e) hm2)⟩
      rw [List.mem_cons, gt k, List.take_add_one, hc']
      constructor
      · rintro (rfl | ⟨d, hd, e⟩)
        · exact ⟨c, List.mem_append_right _ (by simp), rfl⟩
        · exact ⟨d, List.mem_append_left _ hd, e⟩
      · rintro ⟨d, hd, e⟩
        rcases List.mem_append.mp hd with hd | hd
        · exact .inr ⟨d, hd, e⟩
        · have : d = c := by simpa using hd
          exact .inl (by rw [e, this])
end
end TxS


set_option Elab.async false
set_option linter.all false
set_option maxRecDepth 100000
set_option maxHeartbeats 8000000
namespace TxS
open PySem PySem.Spec PyProof.Rows L2 PySem.Froz
section
variable {P : Program} {w : World} {A : Around} {E : Value → Shared → Prop} {s : Shared}
abbrev set0 (w : World) : Obj := { cls := .type "set", dict := none, data := .set #[] 0 (.fresh 0 0 (!w.params.followText "set-order")) }
theorem set0_ok : TxR P w (#[], 0, .fresh 0 0 (!w.params.followText "set-order")) [] := ⟨TxOk.nil (by rfl), .nil, .nil, by
  show _ ∨ (!w.params.followText "set-order") = true
  cases w.params.followText "set-order"
  · exact .inr rfl
  · exact .inl rfl⟩
theorem sub_str_set : isSubtype (.type "str") (.type "set") = pure false := by rw [isSubtype_type]; kernel_rfl
theorem sub_str_frozenset : isSubtype (.type "str") (.type "frozenset") = pure false := by rw [isSubtype_type]; kernel_rfl
theorem call_set_str {x : Str} {t : Tok} {Q : Value → Shared → Prop} (hh : A.handled = none) (hb : x.cps.size + 1 < scanBound)
    (h : ∀ (h' : Heap) (tk : Nat) (D : SD) (l : List Str), h'.get? s.heap.objs.size = some (sObj "set" D) → TxR P w D l → Got x x.cps.size l → l.length ≤ x.cps.size → (∀ b o, s.heap.get? b = some o → h'.get? b = some o) → Q (.ref s.heap.objs.size) { s with heap := h', toks := tk }) :
    wpAny (model P w) A (call (.type "set") [.str x t]) Q E s := by
  obtain ⟨c, tl, hmro⟩ := F.called_set.mro
  have hmade := F.called_set.made
  have hsub := F.called_set.sub
  refine wpAny_call (codeAny_of_tree ?_)
  show wpAny _ _ (callAny (.type "set") _) _ _ _
  refine wpAny_pure ⟨Code.quiet_builtin _ (by decide +kernel), codeAny_builtin F.entry_type_call ?_⟩
  rw [Around.under_plain (weight_type_call_type "set" [.str x t] []) rfl]
  have h1 := F.called_set.notType
  have h2 := F.called_set.canCreate
  have hct := F.typeCall_set_1 (.str x t)
  repeat (any_goals (first | assumption | wp_step))
  refine codeAny_mono (code_set_led1 (.str x t) (E := E) (Q₁ := fun obj s₁ => obj = .ref s.heap.objs.size ∧ s₁ = { s with heap := s.heap.push (set0 w) }) ⟨rfl, rfl⟩) fun r s₁ hr => ?_
  cases r with
  | error e => exact hr
  | ok fl =>
    cases fl with
    | ret obj =>
      obtain ⟨rfl, rfl⟩ := hr
      have hS : (s.heap.push (set0 w)).get? s.heap.objs.size = some (set0 w) := Heap.get?_push_size _ rfl
      have hT : Shared.TypeIs { s with heap := s.heap.push (set0 w) } (.ref s.heap.objs.size) "set" := ⟨_, hS, rfl⟩
      have hli := F.called_set.init.lookup
      have hbi := F.called_set.init.bind (.ref s.heap.objs.size)
      repeat (any_goals (first | assumption | wp_step))
      refine codeAny_mono (codeAny_call_builtin (R := wants (fun r s₂ => r = .none ∧ ∃ h' tk D l, s₂ = { s with heap := h', toks := tk } ∧ h'.get? s.heap.objs.size = some (sObj "set" D) ∧ TxR P w D l ∧ Got x x.cps.size l ∧ l.length ≤ x.cps.size ∧
          (∀ b o, s.heap.get? b = some o → h'.get? b = some o)) E) F.called_set.init.plain F.entry_set_init (PySem.check_set_init_1 hT ?_)) fun r₂ s₂ hr₂ => ?_
      · have hsls := sub_str_set
        have hslf := sub_str_frozenset
        have hne : (Value.type "str" == Value.type "dict") = false := by decide
        unfold Builtin.«set.__init__» noKeywords Builtin.Frozenset.updateFrom
        generalize hPI : pyIter = PI
        wp_walk
        subst hPI
        refine wpAny_pyIter_str fun o St W hst => ?_
        refine wpAny_bind (wpAny_runValue ?_)
        have hz : (s.heap.push (set0 w)).objs.size = s.heap.objs.size + 1 := Heap.size_push ..
        have hSf : s.heap.objs.size ∉ [(s.heap.push (set0 w)).objs.size] := by
          rw [hz]
          intro z
          have := List.mem_singleton.mp z
          omega
        refine upd_loop ((W _ (by simp [hh])).toS) s.heap.objs.size hSf hb x.cps.size 0 _ (by omega) (Nat.zero_le _) hst ⟨(#[], 0, .fresh 0 0 (!w.params.followText "set-order")), [], Heap.get?_push_of_some _ hS, set0_ok, fun k => by simp, Nat.le_refl _⟩ fun s' D l hm ho TR gt ll => ?_
        obtain ⟨h', g2, d', tk', os'⟩ := s'
        have eg : g2 = s.gens := hm.gens
        have ed : d' = s.drawn := hm.drawn
        have eo : os' = s.os := hm.os
        subst eg; subst ed; subst eo
        refine wpAny_pure (wpAny_pure ⟨rfl, h', tk', D, l, rfl, ho, TR, gt, ll, fun b o e => ?_⟩)
        have hb0 : b < s.heap.objs.size := Heap.lt_size e
        refine hm.heap b o (fun z => ?_) (Heap.get?_push_of_some _ (Heap.get?_push_of_some _ e))
        rcases List.mem_cons.mp z with z | z
        · exact Nat.lt_irrefl _ (z ▸ hb0)
        · have q := List.mem_singleton.mp z
          rw [hz] at q
          rw [q] at hb0
          exact absurd hb0 (Nat.not_lt.mpr (Nat.le_succ _))
      · cases r₂ with
        | error e => exact hr₂
        | ok fl₂ =>
          cases fl₂ with
          | ret r =>
            obtain ⟨rfl, h', tk, D, l, rfl, ho, TR, gt, ll, hk'⟩ := hr₂
            repeat (any_goals (first | assumption | wp_step))
            exact h _ _ _ _ ho TR gt ll hk'
          | _ => exact hr₂.elim
    | _ => exact hr.elim
end
end TxS


set_option Elab.async false
set_option linter.all false
set_option maxRecDepth 100000
set_option maxHeartbeats 4000000
namespace TxS
open PySem PySem.Spec PyProof.Rows L2 PySem.Froz
/-- a set of texts in the abstract heap -/
def SetX (P : Program) (w : World) (a : Addr) (l : List Str) : HO := .ext fun h => ∃ D, h.get? a = some (sObj "set" D) ∧ TxR P w D l
theorem nodup_perm {α : Type} [DecidableEq α] : ∀ {l m : List α}, l.Nodup → (∀ x ∈ l, x ∈ m) → m.length ≤ l.length → m.Perm l
  | [], m, _, _, h => by
    have : m = [] := List.eq_nil_of_length_eq_zero (Nat.le_zero.mp h)
    rw [this]
  | x :: l, m, nd, sub, h => by
    obtain ⟨h1, h2⟩ := List.nodup_cons.mp nd
    have hx := sub x List.mem_cons_self
    have p := List.perm_cons_erase hx
    refine p.trans ((nodup_perm h2 (fun y hy => ?_) ?_).cons x)
    · exact (List.mem_erase_of_ne (fun z : y = x => h1 (z ▸ hy))).mpr (sub y (List.mem_cons_of_mem _ hy))
    · have := p.length_eq
      rw [List.length_cons] at this
      rw [List.length_cons] at h
      omega
section
variable {X : Cx}
theorem setX_ok {P : Program} {w : World} {H : Hp} {h : Heap} {a : Addr} {l : List Str} {D : SD} (ho : h.get? a = some (sObj "set" D)) (R : TxR P w D l) : ObjOk P w H h a (SetX P w a l) :=
  ⟨⟨D, ho, R⟩, ⟨_, ho⟩, fun h1 h2 ⟨D, ho, R⟩ k => ⟨D, k _ ho, R⟩⟩
def rSetX (P : Program) (w : World) : List V → Hp → VK → Prop := fun xs H Q => ∃ x : Str, xs = [.str x] ∧ x.length + 1 < scanBound ∧ ∀ p l, H p = none → l.Nodup → (∀ k : Str, k ∈ l ↔ ∃ c ∈ TL.tl x, k = ⟨#[c]⟩) → Q (.ref p) (upd H p (SetX P w p l))
theorem cr_setX (hc : X.calm = true) : CallR X (.type "set") (rSetX X.prog X.w) := by
  intro pins s σ H xs us Q I r h
  obtain ⟨x, rfl, hb, q⟩ := h
  obtain ⟨u, rfl, ru⟩ := vals1 r
  obtain ⟨t, rfl⟩ := ru
  refine call_set_str (I.ok.hd hc) hb fun h' tk D l ho TR gt ll kp => ⟨.ref _, upd H s.heap.objs.size (SetX X.prog X.w s.heap.objs.size l), I.laid (t' := tk) kp (Nat.le_refl _) (setX_ok ho TR), rfl, q _ l (I.hok.fresh (Nat.le_refl _)) TR.nd fun k => ?_⟩
  rw [gt k, List.take_of_length_le (Nat.le_of_eq (Array.length_toList ..))]
def rSortX (P : Program) (w : World) : List V → Hp → VK → Prop := fun vs H Q => ∃ (a : Addr) (l : List Str), vs = [V.ref a] ∧ H a = some (SetX P w a l) ∧ l.length < 64 ∧ ∀ (ys : List Str) (p : Addr), ys.Perm l → sortedS ys = true → H p = none → Q (.ref p) (upd H p (.lst (ys.map V.str)))
theorem isStr_of {k : Str} {v : Value} (h : Value.isStrOf k v = true) : ∃ t, v = .str k t := by
  cases v <;> simp [Value.isStrOf] at h
  rename_i y t
  exact ⟨t, by rw [h]⟩
theorem cr_sortX (hc : X.calm = true) : CallR X (.builtin "sorted") (rSortX X.prog X.w) := by
  intro pins s σ H vs us Q I r h
  obtain ⟨a, l, rfl, ha, h64, q⟩ := h
  rw [Vals.ref1 r]
  obtain ⟨⟨⟨es, ep, t⟩, ho, TR⟩, _, _⟩ := I.hok a _ ha
  have hsz : es.size = l.length := TR.ok.sz
  have hel : ∀ e ∈ es.toList, ∃ k tk, e.2 = Value.str k tk := fun e he => by
    obtain ⟨⟨k, h1, _⟩, _⟩ := TR.ok.el e he
    exact ⟨k, isStr_of h1⟩
  have hh := I.ok.hd hc
  refine Calls.call_function_entry kind_sorted plain_sorted entry_sorted (args_sorted1 _) ?_
  unfold Builtin.«sorted»
  refine wpAny_bind (m := checkCount "sorted" 1 1 _) (wpAny_pure ?_)
  refine wpAny_bind (collect_set (A := X.A.in1) (es := es) (ep := ep) (t := t) hh ⟨_, ho, rfl, rfl⟩ TR.ok.fit (by rw [hsz]; exact Nat.lt_trans h64 (by decide)) TR.ris TR.led fun s1 vs k1 hz g1 o1 pm => ?_)
  have hvl : vs.length = l.length := by rw [pm.length_eq, List.length_map, Array.length_toList, hsz]
  have hS : StrsAre vs (vs.map strOf) := strsAre_map vs fun v hv => by
    obtain ⟨e, he, rfl⟩ := List.mem_map.mp (pm.mem_iff.mp hv)
    exact hel e he
  have pl : (vs.map strOf).Perm l := by
    refine nodup_perm TR.nd (fun k hk => ?_) (by rw [List.length_map, hvl]; exact Nat.le_refl _)
    obtain ⟨e, he, ie⟩ := (TR.ok.mem k).mp hk
    obtain ⟨tk, ek⟩ := isStr_of ie
    exact List.mem_map.mpr ⟨e.2, pm.mem_iff.mpr (List.mem_map.mpr ⟨e, he, rfl⟩), by rw [ek]; rfl⟩
  refine wpAny_bind (wpAny_newList ?_ (by rw [hvl, sizeLine_eq]; omega))
  have hoL : (s1.heap.push (seqObj "list" vs.toArray 0)).get? s1.heap.objs.size = some (seqObj "list" vs.toArray 0) := Heap.get?_push_size _ rfl
  refine wpAny_bind (wpAny_holding (wpAny_call_entry slot_list_sort ⟨_, hoL, rfl⟩ entry_list_sort (list_sort_treeK strKind_oneLt hoL hS.keysOf (fun v₁ v₂ rest e => keyKind_strs (by rw [← e]; exact hS)) (by rw [hvl]; exact h64) fun st' hp hs => ⟨_, rfl, ?_⟩) (args_list_sort _)))
  obtain ⟨ys, a1, a2, a3⟩ := sorted_out_str hS hp hs
  obtain ⟨c, hcp⟩ := sortedHeap_at (vs := vs) (out := (arrOf st').map (·.2)) hoL
  have kp : ∀ b o, s.heap.get? b = some o → (sortedHeap (s1.heap.push (seqObj "list" vs.toArray 0)) s1.heap.objs.size vs ((arrOf st').map (·.2))).get? b = some o := fun b u e => by
    have q := k1 b u e
    have hlt := Heap.lt_size q
    rw [sortedHeap_old (Nat.ne_of_lt hlt) (by rw [size_push']; exact Nat.lt_succ_of_lt hlt)]
    exact Heap.get?_push_of_some _ q
  have hyl : ys.length = l.length := (a2.trans pl).length_eq
  have hn : H s1.heap.objs.size = none := I.hok.fresh hz
  have hl : (ys.map V.str).length ≤ sizeLine := by rw [List.length_map, hyl, sizeLine_eq]; omega
  have J : Inv X pins σ (upd H s1.heap.objs.size (.lst (ys.map V.str))) { s with heap := sortedHeap (s1.heap.push (seqObj "list" vs.toArray 0)) s1.heap.objs.size vs ((arrOf st').map (·.2)), gens := s1.gens, drawn := s1.drawn, toks := s1.toks } :=
    I.call (ch := []) (Un.laid kp hz hn) (I.hok.laid kp hz ⟨hl, ((arrOf st').map (·.2)).toList, c, vals_of_strs a1, hcp⟩) (by rw [g1]; exact I.bare) (fun _ z => nomatch z)
  have e : ({ s1 with heap := sortedHeap (s1.heap.push (seqObj "list" vs.toArray 0)) s1.heap.objs.size vs ((arrOf st').map (·.2)) } : Shared) = { s with heap := sortedHeap (s1.heap.push (seqObj "list" vs.toArray 0)) s1.heap.objs.size vs ((arrOf st').map (·.2)), gens := s1.gens, drawn := s1.drawn, toks := s1.toks } := by
    rw [← o1]
  refine wpAny_pure ⟨_, rfl, ?_⟩
  show EP X pins σ Q (.ref s1.heap.objs.size) { s1 with heap := sortedHeap (s1.heap.push (seqObj "list" vs.toArray 0)) s1.heap.objs.size vs ((arrOf st').map (·.2)) }
  rw [e]
  exact ⟨.ref _, _, J, rfl, q ys _ (a2.trans pl) a3 hn⟩
end
end TxS


set_option Elab.async false
set_option linter.all false
set_option maxRecDepth 100000
set_option maxHeartbeats 4000000
namespace ZpS
open PySem PySem.Spec PyProof.Rows L2
/-! ### zip of a list and a text, enumerate of a text -/
theorem draws {prog : Program} {w : World} {A : Around} (hh : A.handled = none) (it : Addr) (x : Str) (t : Tok) :
    Draws prog w A it [it] x.cps.size (fun i v => ∃ c u, x.cps[i]? = some c ∧ v = .str ⟨#[c]⟩ u) (fun i h => h.IsStrIter it (strIterType x) x t i) := by
  unfold strIterType
  split
  · exact Draws.strAscii hh it x t
  · exact Draws.strWide hh it x t
def ItzS (K : PySem.W.Frag) (a : Addr) (xs : List V) (x : Str) : It :=
  ⟨fun i H => SqL K H a xs ∧ i < xs.length ∧ i < x.cps.size,
    fun i H v H' => ∃ T u c, v = .ref T ∧ H T = none ∧ H' = upd H T (.tup [u, .str ⟨#[c]⟩]) ∧ xs[i]? = some u ∧ x.cps[i]? = some c,
    fun i H => SqL K H a xs ∧ (xs.length ≤ i ∨ x.cps.size ≤ i)⟩
structure Sep (z TI TO i1 i2 a : Addr) : Prop where
  e1 : TI ≠ z
  e2 : TO ≠ z
  e3 : TI ≠ TO
  e4 : TI ≠ i1
  e5 : TI ≠ i2
  e6 : z ≠ i1
  e7 : z ≠ a
  e8 : TO ≠ i1
  e9 : TO ≠ a
  e10 : z ≠ i2
  e11 : TO ≠ i2
  e12 : i1 ≠ i2
  e13 : i2 ≠ a
  e14 : a ≠ i1
theorem Sep.sep {z TI TO i1 i2 a : Addr} (D : Sep z TI TO i1 i2 a) : ZipSep2 z TI TO i1 i2 [i1, a] [i2] where
  TIz := D.e1
  TOz := D.e2
  TITO := D.e3
  TIi1 := D.e4
  mem1 := List.mem_cons_self
  zf1 := by simp [D.e6, D.e7]
  Tf1 := by simp [D.e8, D.e9]
  TIi2 := D.e5
  mem2 := List.mem_cons_self
  zf2 := by simp [D.e10]
  Tf2 := by simp [D.e11]
  sep1_2 := by simp [D.e12]
  sep2_1 := by simp [Ne.symm D.e12, D.e13]
theorem five {z TI TO i1 i2 c : Addr} (h : c ∈ [z, TI, TO, i1, i2]) : c = z ∨ c = TI ∨ c = TO ∨ c = i1 ∨ c = i2 := by simpa using h
theorem turn_zipS {P : Program} {w : World} {K : PySem.W.Frag} {elts : List Expr} {kk : Nat} {tpos : Pos} {a z TI TO i1 i2 : Addr} {xs : List V} {x : Str} {t : Tok} (D : Sep z TI TO i1 i2 a) :
    Turn P w K (.Tuple elts kk tpos) (ItzS K a xs x) [z, TI, TO, i1, i2] z (fun i h => IsZip h z TI TO .none ∧ IsTupOf2 h TI (.ref i1) (.ref i2) ∧ (∃ p q, IsTupOf2 h TO p q) ∧ h.IsListIter i1 a i ∧ h.IsStrIter i2 (strIterType x) x t i ∧ i ≤ xs.length ∧ i ≤ x.cps.size) where
  mem := List.mem_cons_self
  obj := fun i h st c hc => by
    obtain ⟨hz, hTI, ⟨p, q, hTO⟩, ⟨o1, e1, _, d1⟩, ⟨o2, e2, _, d2⟩, _⟩ := st
    rcases five hc with q | q | q | q | q <;> rw [q]
    · exact ⟨_, hz, fun v q => nomatch q⟩
    · exact ⟨_, hTI, fun v q => nomatch q⟩
    · exact ⟨_, hTO, fun v q => nomatch q⟩
    · exact ⟨o1, e1, fun v q => by rw [d1] at q; cases q⟩
    · exact ⟨o2, e2, fun v q => by rw [d2] at q; cases q⟩
  keep := fun i h h' st k => by
    obtain ⟨hz, hTI, ⟨p, q, hTO⟩, h1, ⟨o2, e2, r2⟩, l⟩ := st
    exact ⟨k z (by simp) _ hz, k TI (by simp) _ hTI, ⟨p, q, k TO (by simp) _ hTO⟩, h1.at fun o q => k i1 (by simp) o q, ⟨o2, k i2 (by simp) _ e2, r2⟩, l⟩
  item := by
    intro X hP hw hK hc i pins s σ H E I hf st hg
    subst hP hw hK
    obtain ⟨hz, hTI, ⟨p0, q0, hTO⟩, h1, h2, l1, l2⟩ := st
    obtain ⟨hq, g1, g2⟩ := hg
    obtain ⟨its, rv, pl, _⟩ := I.list hq
    have hl : xs.length = its.length := rv.length
    have hh := I.ok.hd hc
    refine wpAny_pyNext_zipD2_item D.sep (Draws.list (by exact hh) i1 a D.e14 its.toArray) (draws (by exact hh) i2 x t) hz hTI hTO ⟨h1, pl.isList⟩ h2 (by simp; omega) g2 fun u v h' tk pu pv z' TO' st1 st2 hT hsz hk => ?_
    refine ⟨_, rfl, wpAny_letOwnedTupleGo_zip (s := { s with heap := h', toks := tk }) z' fun h'' z'' sb => ?_⟩
    obtain ⟨c, u2, hc2, rfl⟩ := pv
    have hzl : z < s.heap.objs.size := Heap.lt_size hz
    have hx : xs[i]? = some xs[i] := List.getElem?_eq_getElem g1
    obtain ⟨u', hu', ru⟩ := rv.get hx
    have eu : u' = u := by
      have q : its.toArray[i]? = some u := pu
      simp only [List.getElem?_toArray] at q
      rw [hu'] at q
      exact Option.some.inj q
    subst eu
    have hT2 : h''.get? s.heap.objs.size = some { cls := .type "tuple", data := .seq #[u', .str ⟨#[c]⟩ u2] } := (sb.2 _ (Nat.ne_of_gt hzl)).trans hT
    have new : ObjOk X.prog X.w (upd H s.heap.objs.size (.tup [xs[i], .str ⟨#[c]⟩])) h'' s.heap.objs.size (.tup [xs[i], .str ⟨#[c]⟩]) :=
      ⟨by show 2 ≤ sizeLine; decide, [u', .str ⟨#[c]⟩ u2], .cons ru (.cons ⟨_, rfl⟩ .nil), ⟨_, hT2, rfl, _, rfl⟩⟩
    have far : ∀ b o, b ∉ [z, TI, TO, i1, i2] → s.heap.get? b = some o → h''.get? b = some o := fun b o hb q => (sb.2 b (fun e => hb (by simp [e]))).trans (hk b o (fun e => hb (by simp [e])) (fun e => hb (by simp [e])) (fun e => hb (by simp [e])) (fun e => hb (by simp [e])) q)
    refine ⟨.ref s.heap.objs.size, _, I.turnedNew (t' := tk) far hf (Nat.le_refl _) new, rfl, ⟨_, xs[i], c, rfl, I.hok.fresh (Nat.le_refl _), rfl, hx, hc2⟩, ⟨z'', (sb.2 _ D.e1).trans (hk _ _ D.e1 D.e3 D.e4 D.e5 hTI), ⟨_, _, (sb.2 _ D.e2).trans TO'⟩, st1.1.at fun o q => (sb.2 _ (Ne.symm D.e6)).trans q, ?_, g1, g2⟩, fun b hb => ?_⟩
    · obtain ⟨o, ho, r⟩ := st2
      exact ⟨o, (sb.2 _ (Ne.symm D.e10)).trans ho, r⟩
    · have hlt : b < s.heap.objs.size := by
        rcases five hb with e | e | e | e | e <;> rw [e]
        · exact hzl
        · exact Heap.lt_size hTI
        · exact Heap.lt_size hTO
        · obtain ⟨_, e1, _⟩ := h1; exact Heap.lt_size e1
        · obtain ⟨_, e2, _⟩ := h2; exact Heap.lt_size e2
      rw [upd_ne (Nat.ne_of_lt hlt)]
      exact (hf b hb).1
  done := by
    intro X hP hw hK hc i pins s σ H E I hf st hg
    subst hP hw hK
    obtain ⟨hz, hTI, ⟨p0, q0, hTO⟩, h1, h2, l1, l2⟩ := st
    obtain ⟨hq, g⟩ := hg
    obtain ⟨its, rv, pl, _⟩ := I.list hq
    have hl : xs.length = its.length := rv.length
    have hh := I.ok.hd hc
    exact wpAny_pyNext_zipD2_end D.sep (Draws.list (by exact hh) i1 a D.e14 its.toArray) (draws (by exact hh) i2 x t) hz hTI hTO ⟨h1, pl.isList⟩ h2 (by simp; omega) l2 (by simp; omega) fun h' tk hk => ⟨rfl, I.turnedL (t' := tk) (ch := [z, TI, TO, i1, i2]) (fun c o hb q =>
      hk c o (fun e => hb (by simp [e])) (fun e => hb (by simp [e])) (fun e => hb (by simp [e])) (fun e => hb (by simp [e])) q) hf⟩
  self := fun A i s Q E st h => wpAny_pyIter_zip st.1 h
/-! ### the zip itself -/
abbrev zs1 (h : Heap) (l : Addr) : Heap := h.push { cls := .type "list_iterator", data := .fields #[.ref l, .int 0 0] }
abbrev zs2 (h : Heap) (l : Addr) (x : Str) (t : Tok) : Heap := (zs1 h l).push { cls := .type (strIterType x), data := .fields #[.str x t, .int 0 0] }
abbrev zs3 (h : Heap) (l : Addr) (x : Str) (t : Tok) : Heap := (zs2 h l x t).push { cls := .type "tuple", data := .seq #[.ref h.objs.size, .ref (zs1 h l).objs.size] }
abbrev zs4 (h : Heap) (l : Addr) (x : Str) (t : Tok) : Heap := (zs3 h l x t).push { cls := .type "tuple", data := .seq #[.none, .none] }
abbrev zs5 (h : Heap) (l : Addr) (x : Str) (t : Tok) : Heap := (zs4 h l x t).push { cls := .type "zip", data := .fields #[.none, .bool false, .bool false, .ref (zs2 h l x t).objs.size, .ref (zs3 h l x t).objs.size] }
theorem meets_zs (l : Addr) (xs : Array Value) (x : Str) (t : Tok) :
    Meets (Builtin.«zip.__new__» ⟨[.type "zip", .ref l, .str x t], []⟩) (fun _ R s => s.heap.IsList l xs ∧ R (.ok (.ret (.ref (zs4 s.heap l x t).objs.size))) { s with heap := zs5 s.heap l x t }) :=
  .of_wp fun prog w A R s h => by
    obtain ⟨hp, g, d, tk, os⟩ := s; obtain ⟨hl1, h⟩ := h
    have hsub := PySem.sub_zip
    have hL1 : Heap.IsList (Shared.heap ⟨hp, g, d, tk, os⟩) l xs := hl1
    wp_walk using wpAny_pyIter_list hL1, wpAny_pyIter_strU
    exact ⟨_, rfl, h⟩
end ZpS


set_option Elab.async false
set_option linter.all false
set_option maxRecDepth 100000
set_option maxHeartbeats 4000000
namespace ZpS
open PySem PySem.Spec PyProof.Rows L2
section
variable {prog : Program} {w : World} {A : Around} {E : Value → Shared → Prop} {s : Shared}
theorem call_zs {l : Addr} {xs : Array Value} {x : Str} {t : Tok} {Q : Value → Shared → Prop} (hl : s.heap.IsList l xs)
    (h : ∀ h', IsZip h' (s.heap.objs.size + 4) (s.heap.objs.size + 2) (s.heap.objs.size + 3) .none → IsTupOf2 h' (s.heap.objs.size + 2) (.ref s.heap.objs.size) (.ref (s.heap.objs.size + 1)) →
      IsTupOf2 h' (s.heap.objs.size + 3) .none .none → h'.IsListIter s.heap.objs.size l 0 → h'.IsStrIter (s.heap.objs.size + 1) (strIterType x) x t 0 →
      (∀ c o, s.heap.get? c = some o → h'.get? c = some o) → Q (.ref (s.heap.objs.size + 4)) { s with heap := h' }) :
    wpAny (model prog w) A (call (.type "zip") [.ref l, .str x t]) Q E s := by
  refine callType_new PySem.F.called_zip (by decide) (PySem.F.typeCall_zip_2 _ _) (PySem.F.newCall_zip_2 _ _) (fun obj => PySem.F.args_object_init_3 obj _ _) PySem.F.entry_zip_new (meets_zs l xs x t) ⟨hl, ?_⟩
  have z1 : (zs1 s.heap l).objs.size = s.heap.objs.size + 1 := Heap.size_push ..
  have z2 : (zs2 s.heap l x t).objs.size = s.heap.objs.size + 2 := by rw [Heap.size_push, z1]
  have z3 : (zs3 s.heap l x t).objs.size = s.heap.objs.size + 3 := by rw [Heap.size_push, z2]
  have z4 : (zs4 s.heap l x t).objs.size = s.heap.objs.size + 4 := by rw [Heap.size_push, z3]
  have up : ∀ {h : Heap} {c : Addr} {o : Obj} (p : Obj), h.get? c = some o → (h.push p).get? c = some o := fun p e => Heap.get?_push_of_some _ e
  have g5 : (zs5 s.heap l x t).get? (zs4 s.heap l x t).objs.size = some _ := Heap.get?_push_size _ rfl
  have g4 : (zs5 s.heap l x t).get? (zs3 s.heap l x t).objs.size = some _ := up _ (Heap.get?_push_size _ rfl)
  have g3 : (zs5 s.heap l x t).get? (zs2 s.heap l x t).objs.size = some _ := up _ (up _ (Heap.get?_push_size _ rfl))
  have g2 : (zs5 s.heap l x t).get? (zs1 s.heap l).objs.size = some _ := up _ (up _ (up _ (Heap.get?_push_size _ rfl)))
  have g1 : (zs5 s.heap l x t).get? s.heap.objs.size = some _ := up _ (up _ (up _ (up _ (Heap.get?_push_size _ rfl))))
  show _ ∧ _
  rw [z2, z3, z4] at g5
  rw [z1, z2] at g3
  rw [z3] at g4
  rw [z1] at g2
  rw [z4]
  exact ⟨⟨_, g5, rfl⟩, h _ g5 g3 g4 ⟨_, g1, rfl, rfl⟩ ⟨_, g2, rfl, rfl⟩ fun c o e => up _ (up _ (up _ (up _ (up _ e))))⟩
end
theorem sep_of (n a : Nat) (h : a < n) : Sep (n + 4) (n + 2) (n + 3) n (n + 1) a := by
  have ne : ∀ {p q : Nat}, p < q ∨ q < p → p ≠ q := fun h e => by omega
  constructor <;> (apply ne; omega)
def iZipS (K : PySem.W.Frag) (ta : TA) : TI := fun σ H R => ta σ H fun vs H1 => ∃ a xs x, vs = [.ref a, .str x] ∧ SqL K H1 a xs ∧ R (ItzS K a xs x) H1
theorem pi_zipS {X : Cx} {e e2 : Expr} {ta : TA} {p pos tpos : Pos} {elts : List Expr} {kk : Nat} (hg : Gl X "zip") (hm : X.mg "zip" = none) (ha : PA X [e, e2] ta)
    (hs : starEach [e, e2] X.env = (false, eval e X.env) :: starEach [e2] X.env := by rfl) (hpl : (backTo pos (starEach [e2] X.env)).any (·.1) = false := by rfl) :
    PI X (.Tuple elts kk tpos) (.Call (.Name "zip" p) [e, e2] [] pos) (iZipS X.K ta) := by
  refine ⟨fun pins s σ H R I h => ?_⟩
  refine Call_ (ld_blt I hg hm PyProof.Rows.boot_zip (PyProof.Rows.callWith_type1 (thn (ha.run pos pins s σ H _ I h) fun us s1 ⟨vs, H1, I1, r1, q1⟩ => ?_) hs hpl))
  obtain ⟨a, xs, x, rfl, hq, q⟩ := q1
  obtain ⟨u1, u2, rfl, ra, rx⟩ := vals2 r1
  obtain rfl : u1 = Value.ref a := ra
  obtain ⟨t, rfl⟩ := rx
  obtain ⟨its, rv, pl, _⟩ := I1.list hq
  refine call_zs pl.isList fun h' hz hTI hTO h1 h2 hk => wpAny_pyIter_zip hz ?_
  refine ⟨s1.heap.objs.size + 4, [s1.heap.objs.size + 4, s1.heap.objs.size + 2, s1.heap.objs.size + 3, s1.heap.objs.size, s1.heap.objs.size + 1], _, _, H1, rfl, I1.kept (t' := s1.toks) hk, turn_zipS (t := t) (sep_of s1.heap.objs.size a pl.lt), ⟨hz, hTI, ⟨_, _, hTO⟩, h1, h2, Nat.zero_le _, Nat.zero_le _⟩, fun c hc => ?_, q⟩
  have hle : s1.heap.objs.size ≤ c := by
    rcases five hc with z | z | z | z | z <;> rw [z] <;> first | exact Nat.le_refl _ | exact Nat.le_add_right _ _
  exact I1.fpOk hle (I1.hok.fresh hle)
/-! ### enumerate of a text -/
def IteS (x : Str) : It :=
  ⟨fun i _ => i < x.cps.size, fun i H v H' => ∃ T c, v = .ref T ∧ H T = none ∧ H' = upd H T (.tup [.int (i : Nat), .str ⟨#[c]⟩]) ∧ x.cps[i]? = some c, fun i _ => x.cps.size ≤ i⟩
theorem turn_enumS {P : Program} {w : World} {K : PySem.W.Frag} {elts : List Expr} {kk : Nat} {tpos : Pos} {e it : Addr} {x : Str} {t : Tok} (hne : e ≠ it) :
    Turn P w K (.Tuple elts kk tpos) (IteS x) [e, it] e (fun i h => (∃ old, IsEnum h e it ((i : Nat) : Int) old) ∧ h.IsStrIter it (strIterType x) x t i ∧ i ≤ x.cps.size) where
  mem := List.mem_cons_self
  obj := fun i h st b hb => by
    obtain ⟨⟨old, he⟩, ⟨o, ho, hc, hd⟩, _⟩ := st
    rcases (show b = e ∨ b = it by simpa using hb) with z | z <;> rw [z]
    · exact ⟨_, he, fun v q => nomatch q⟩
    · exact ⟨o, ho, fun v q => by rw [hd] at q; cases q⟩
  keep := fun i h h' st k => by
    obtain ⟨⟨old, he⟩, ⟨o, ho, r⟩, l⟩ := st
    exact ⟨⟨old, k e (by simp) _ he⟩, ⟨o, k it (by simp) _ ho, r⟩, l⟩
  item := by
    intro X hP hw hK hc i pins s σ H E I hf st hg
    subst hP hw hK
    obtain ⟨⟨old, he⟩, hit, _⟩ := st
    have hh := I.ok.hd hc
    have hel : e < s.heap.objs.size := Heap.lt_size he
    refine wpAny_pyNext_enum_itemD (draws (by exact hh) it x t) he hit hg hne (by simp [hne]) fun v h' tk pv ho hit' hT hsz hk => ?_
    refine ⟨_, rfl, wpAny_letOwnedTupleGo_enum (s := { s with heap := h', toks := tk + 1 }) ho fun h'' he' sb => ?_⟩
    obtain ⟨c, u, hc2, rfl⟩ := pv
    have hT2 : h''.get? s.heap.objs.size = some { cls := .type "tuple", data := .seq #[.int i tk, .str ⟨#[c]⟩ u] } := (sb.2 _ (Nat.ne_of_gt hel)).trans hT
    have new : ObjOk X.prog X.w (upd H s.heap.objs.size (.tup [.int (i : Nat), .str ⟨#[c]⟩])) h'' s.heap.objs.size (.tup [.int (i : Nat), .str ⟨#[c]⟩]) :=
      ⟨by show 2 ≤ sizeLine; decide, [.int i tk, .str ⟨#[c]⟩ u], .cons ⟨_, rfl⟩ (.cons ⟨_, rfl⟩ .nil), ⟨_, hT2, rfl, _, rfl⟩⟩
    refine ⟨.ref s.heap.objs.size, _, I.turnedNew (t' := tk + 1) (ch := [e, it]) (fun b ob hb q => (sb.2 b (fun z => hb (by simp [z]))).trans (hk b ob (fun z => hb (by simp [z])) (fun z => hb (by simp [z])) q)) hf (Nat.le_refl _) new, rfl, ⟨_, c, rfl, I.hok.fresh (Nat.le_refl _), rfl, hc2⟩, ⟨⟨.str ⟨#[c]⟩ u, ?_⟩, ?_, hg⟩, fun b hb => ?_⟩
    · have e1 : ((i + 1 : Nat) : Int) = (i : Int) + 1 := by omega
      rw [e1]; exact he'
    · obtain ⟨o, ho2, r⟩ := hit'
      exact ⟨o, (sb.2 it (Ne.symm hne)).trans ho2, r⟩
    · have hb' : b < s.heap.objs.size := by
        rcases (show b = e ∨ b = it by simpa using hb) with z | z <;> rw [z]
        · exact hel
        · obtain ⟨_, q, _⟩ := hit; exact Heap.lt_size q
      rw [upd_ne (Nat.ne_of_lt hb')]
      exact (hf b hb).1
  done := by
    intro X hP hw hK hc i pins s σ H E I hf st hg
    subst hP hw hK
    obtain ⟨⟨old, he⟩, hit, l⟩ := st
    have hh := I.ok.hd hc
    obtain rfl : i = x.cps.size := Nat.le_antisymm l hg
    exact wpAny_pyNext_enum_endD (draws (by exact hh) it x t) he hit fun h' eb => ⟨rfl, I.turnedL (t' := s.toks) (ch := [e, it]) (fun b o hb q => eb b o (fun z => hb (by simp [z])) q) hf⟩
  self := fun A i s Q E st h => let ⟨⟨_, he⟩, _⟩ := st; wpAny_pyIter_enum he h
def iEnumS (ta : TA) : TI := fun σ H R => ta σ H fun vs H1 => ∃ x, vs = [.str x] ∧ R (IteS x) H1
theorem pi_enumS {X : Cx} {e : Expr} {ta : TA} {p pos tpos : Pos} {elts : List Expr} {kk : Nat} (hg : Gl X "enumerate") (hm : X.mg "enumerate" = none) (ha : PA X [e] ta) (hs : starEach [e] X.env = [(false, eval e X.env)] := by rfl) :
    PI X (.Tuple elts kk tpos) (.Call (.Name "enumerate" p) [e] [] pos) (iEnumS ta) := by
  refine ⟨fun pins s σ H R I h => ?_⟩
  refine Call_ (ld_blt I hg hm boot_enumerate (PyProof.Rows.callWith_type1 (thn (ha.run pos pins s σ H _ I h) fun us s1 ⟨vs, H1, I1, r1, q1⟩ => ?_) hs rfl))
  obtain ⟨x, rfl, q⟩ := q1
  obtain ⟨u, rfl, ru⟩ := vals1 r1
  obtain ⟨t, rfl⟩ := ru
  refine call_enumerate_str fun h' he hit hsz hk => wpAny_pyIter_enum he ?_
  refine ⟨s1.heap.objs.size + 1, [s1.heap.objs.size + 1, s1.heap.objs.size], _, _, H1, rfl, I1.kept (t' := s1.toks) hk, turn_enumS (t := t) (Nat.succ_ne_self _), ⟨⟨.none, he⟩, hit, Nat.zero_le _⟩, fun b hb => ?_, q⟩
  have hle : s1.heap.objs.size ≤ b := by
    rcases (show b = s1.heap.objs.size + 1 ∨ b = s1.heap.objs.size by simpa using hb) with z | z <;> rw [z]
    · exact Nat.le_add_right _ _
    · exact Nat.le_refl _
  exact I1.fpOk hle (I1.hok.fresh hle)
end ZpS


set_option Elab.async false
set_option linter.all false
set_option maxRecDepth 100000
set_option maxHeartbeats 4000000
namespace Dn
open PySem PySem.Spec PyProof.Rows L2
/-! ### zip, enumerate -/
def enumA : List D → Res (List D)
  | [.lst xs] => .ok (xs.mapIdx fun i d => .tup [.int (i : Int), d])
  | [.str l] => .ok (l.mapIdx fun i c => .tup [.int (i : Int), .str [c]])
  | _ => .stuck
def zipA : List D → Res (List D)
  | [.lst xs, .lst ys] => .ok (List.zipWith (fun a b => .tup [a, b]) xs ys)
  | [.lst xs, .str l] => .ok (List.zipWith (fun a c => .tup [a, .str [c]]) xs l)
  | _ => .stuck
section
variable {T : List (Addr × Str)} {X : Cx} {W : Wi} {K : PySem.W.Frag} {mg : Str → Option Value}
theorem cps_tl (z : Str) (i : Nat) : z.cps[i]? = (TL.tl z)[i]? := by simp [TL.tl]
theorem size_tl (z : Str) : z.cps.size = (TL.tl z).length := by simp [TL.tl]
theorem walk_eS {F : Hp} {z : Str} {l : List Nat} (h : TL.tl z = l) : WalkD K mg T (ZpS.IteS z) F (l.mapIdx fun i c => .tup [.int (i : Int), .str [c]]) := by
  subst h
  intro i F' H' rel gd
  refine ⟨fun d ed => ?_, fun hl => by show z.cps.size ≤ i; rw [size_tl]; rw [List.length_mapIdx] at hl; exact hl⟩
  rw [List.getElem?_mapIdx] at ed
  cases q : (TL.tl z)[i]? with
  | none => rw [q] at ed; cases ed
  | some c =>
    rw [q] at ed
    cases ed
    refine ⟨by show i < z.cps.size; rw [size_tl]; exact (List.getElem?_eq_some_iff.mp q).1, fun x H'' y => ?_⟩
    obtain ⟨t, c', rfl, ht, rfl, hc⟩ := y
    rw [cps_tl, q] at hc
    cases hc
    have st := Step.new (o := .tup [.int (i : Nat), .str ⟨#[c]⟩]) gd ht
    exact ⟨_, st, RpL.tup upd_same (.cons (.int _) (.cons (.str rfl) .nil))⟩
theorem walk_zS {F : Hp} {a : Addr} {vs : List V} {ds : List D} {z : Str} {l : List Nat} (h : F a = some (.lst vs)) (r : RpL K mg F vs ds) (hz : TL.tl z = l) : WalkD K mg T (ZpS.ItzS K a vs z) F (List.zipWith (fun a c => .tup [a, .str [c]]) ds l) := by
  subst hz
  intro i F' H' rel gd
  have hq : SqL K H' a vs := .of (gd.sub _ _ (rel.lst h))
  refine ⟨fun d ed => ?_, fun hl => ⟨hq, by rw [r.length, size_tl]; rw [List.length_zipWith] at hl; omega⟩⟩
  rw [List.getElem?_zipWith] at ed
  cases q : ds[i]? with
  | none => rw [q] at ed; cases ed
  | some d1 =>
    cases q' : (TL.tl z)[i]? with
    | none => rw [q, q'] at ed; cases ed
    | some c =>
      rw [q, q'] at ed
      cases ed
      obtain ⟨v, ev, rv⟩ := r.get1 q
      refine ⟨⟨hq, (List.getElem?_eq_some_iff.mp ev).1, by rw [size_tl]; exact (List.getElem?_eq_some_iff.mp q').1⟩, fun x H'' y => ?_⟩
      obtain ⟨t, u, c', rfl, ht, rfl, hu, hc⟩ := y
      rw [ev] at hu
      cases hu
      rw [cps_tl, q'] at hc
      cases hc
      have st := Step.new (o := .tup [v, .str ⟨#[c]⟩]) gd ht
      exact ⟨_, st, RpL.tup upd_same (.cons ((rv.mono rel).mono st.r) (.cons (.str rfl) .nil))⟩
theorem di_enumA {e : Expr} {elts : List Expr} {kk : Nat} {p pos tpos : Pos} {fa : Sto → Res (List D)} (hm : X.mg "enumerate" = none) (ha : DA T X W [e] fa) (hg : Gl X "enumerate" := by rfl) (hs : starEach [e] X.env = [(false, eval e X.env)] := by rfl) :
    DI T X W (.Tuple elts kk tpos) (.Call (.Name "enumerate" p) [e] [] pos) (rngA enumA fa) :=
  weakI (PI.or (pi_enum hg hm ha hs) (ZpS.pi_enumS hg hm ha hs)) fun σ H R ⟨F, δ, L, h⟩ => by
    have fin : ∀ ds, (∀ vs F1 H1, Lcl X.K X.mg T F1 H1 σ δ → RpL X.K X.mg F1 vs ds → PostI X.K X.mg T F1 H1 W R (enumA ds) → (∃ a xs, vs = [.ref a] ∧ SqL X.K H1 a xs ∧ R (Ite X.K a) H1) ∨ (∃ x, vs = [.str x] ∧ R (ZpS.IteS x) H1)) := fun ds vs F1 H1 L1 r1 h1 => by
      unfold enumA at h1
      split at h1
      · obtain ⟨v, rfl, rv⟩ := r1.one
        obtain ⟨q, us, rfl, e1, r⟩ := rv.lst_inv
        exact .inl ⟨q, us, rfl, .of (L1.sub _ _ e1), h1 _ F1 H1 L1.refl (walk_e e1 r)⟩
      · obtain ⟨v, rfl, rv⟩ := r1.one
        cases rv with
        | str e1 => exact .inr ⟨_, rfl, h1 _ F1 H1 L1.refl (walk_eS e1)⟩
      · exact h1.elim
    unfold rngA at h
    cases ef : fa δ with
    | stuck => rw [ef] at h; exact (show False from h).elim
    | rs c => rw [ef] at h; exact .inl ⟨F, δ, L, by rw [ef]; exact h⟩
    | ok ds =>
      rw [ef] at h
      match ds, ef, h with
      | [.lst xs], ef, h => exact .inl ⟨F, δ, L, by
          rw [ef]
          intro vs F1 H1 s1 r1
          rcases fin _ vs F1 H1 (L.step s1) r1 (ppI.sh _ _ _ _ _ L.gd s1 h) with q | ⟨x, rfl, _⟩
          · exact q
          · obtain ⟨v, e, rv⟩ := r1.one
            cases e
            cases rv⟩
      | [.str l], ef, h => exact .inr ⟨F, δ, L, by
          rw [ef]
          intro vs F1 H1 s1 r1
          rcases fin _ vs F1 H1 (L.step s1) r1 (ppI.sh _ _ _ _ _ L.gd s1 h) with ⟨a, xs, rfl, _⟩ | q
          · obtain ⟨v, e, rv⟩ := r1.one
            cases e
            cases rv
          · exact q⟩
theorem di_zipA {e e2 : Expr} {elts : List Expr} {kk : Nat} {p pos tpos : Pos} {fa : Sto → Res (List D)} (hm : X.mg "zip" = none) (ha : DA T X W [e, e2] fa) (hg : Gl X "zip" := by rfl) (hs : starEach [e, e2] X.env = (false, eval e X.env) :: starEach [e2] X.env := by rfl) (hpl : (backTo pos (starEach [e2] X.env)).any (·.1) = false := by rfl) :
    DI T X W (.Tuple elts kk tpos) (.Call (.Name "zip" p) [e, e2] [] pos) (rngA zipA fa) :=
  weakI (PI.or (pi_zip hg hm ha hs hpl) (ZpS.pi_zipS hg hm ha hs hpl)) fun σ H R ⟨F, δ, L, h⟩ => by
    unfold rngA at h
    cases ef : fa δ with
    | stuck => rw [ef] at h; exact (show False from h).elim
    | rs c => rw [ef] at h; exact .inl ⟨F, δ, L, by rw [ef]; exact h⟩
    | ok ds =>
      rw [ef] at h
      have h' : PostI X.K X.mg T F H W R (zipA ds) := h
      unfold zipA at h'
      split at h'
      · refine .inl ⟨F, δ, L, ?_⟩
        rw [ef]
        intro vs F1 H1 s1 r1
        obtain ⟨v, u, rfl, rv, ru⟩ := r1.two
        obtain ⟨q, us, rfl, e1, r⟩ := rv.lst_inv
        obtain ⟨q', us', rfl, e1', r'⟩ := ru.lst_inv
        exact ⟨q, q', us, us', rfl, .of (s1.sub _ _ e1), .of (s1.sub _ _ e1'), h' _ F1 H1 s1 (walk_z e1 r e1' r')⟩
      · refine .inr ⟨F, δ, L, ?_⟩
        rw [ef]
        intro vs F1 H1 s1 r1
        obtain ⟨v, u, rfl, rv, ru⟩ := r1.two
        obtain ⟨q, us, rfl, e1, r⟩ := rv.lst_inv
        cases ru with
        | str e2 => exact ⟨q, us, _, rfl, .of (s1.sub _ _ e1), h' _ F1 H1 s1 (walk_zS e1 r e2)⟩
      · exact h'.elim
/-! ### sorted(set(text)) -/
def ddp : List Nat → List Nat
  | [] => []
  | c :: r => if c ∈ r then ddp r else c :: ddp r
theorem ddp_mem {c : Nat} : ∀ {l : List Nat}, c ∈ ddp l ↔ c ∈ l
  | [] => Iff.rfl
  | d :: r => by
    unfold ddp
    split
    · rename_i h
      rw [ddp_mem, List.mem_cons]
      exact ⟨.inr, fun q => q.elim (fun e => e ▸ h) id⟩
    · rw [List.mem_cons, ddp_mem, List.mem_cons]
theorem ddp_nodup : ∀ l : List Nat, (ddp l).Nodup
  | [] => .nil
  | d :: r => by
    unfold ddp
    split
    · exact ddp_nodup r
    · rename_i h
      exact List.nodup_cons.mpr ⟨fun q => h (ddp_mem.mp q), ddp_nodup r⟩
def ltN (a b : Nat) : Bool := decide (a < b)
theorem swo_N : SrtO.Swo ltN := ⟨fun x y h => decide_eq_false (by have := of_decide_eq_true h; omega), fun x y z h1 h2 => decide_eq_false (by have := of_decide_eq_false h1; have := of_decide_eq_false h2; omega)⟩
/-- the signs of a text, rising -/
def ltrs (l : List Nat) : List Nat := srtL ltN (ddp l)
theorem ltrs_mem {l : List Nat} {c : Nat} : c ∈ ltrs l ↔ c ∈ l := srt_mem.trans ddp_mem
theorem ltrs_nodup (l : List Nat) : (ltrs l).Nodup := (srt_perm ltN (ddp l)).nodup_iff.mpr (ddp_nodup l)
theorem ltrs_le (l : List Nat) : (ltrs l).Pairwise (· ≤ ·) := (srt_srtd swo_N _).imp fun {x y} h => by have := of_decide_eq_false h; omega
def sgs (l : List Nat) : List D := l.map fun c => .str [c]
def srtSD : List D → Res D
  | [.str l] => if l.length ≤ 4000 ∧ (ltrs l).length < 64 then .ok (.lst (sgs (ltrs l))) else .stuck
  | _ => .stuck
theorem one_lt {a b : Nat} : ([a] < [b]) ↔ a < b := by
  rw [List.cons_lt_cons_iff]
  exact ⟨fun h => h.elim id fun q => (List.lt_irrefl _ q.2).elim, .inl⟩
theorem one_le {a b : Nat} : ([a] ≤ [b]) ↔ a ≤ b := by
  rw [← List.not_lt, one_lt]
  omega
theorem nd_map {α β : Type} (f : α → β) (hf : ∀ a b, f a = f b → a = b) {l : List α} (h : l.Nodup) : (l.map f).Nodup := List.pairwise_map.mpr (h.imp fun {a b} n e => n (hf a b e))
theorem nd_perm {α : Type} [DecidableEq α] : ∀ {l m : List α}, l.Nodup → m.Nodup → (∀ x, x ∈ l ↔ x ∈ m) → l.Perm m
  | [], m, _, _, h => by
    cases m with
    | nil => exact .refl _
    | cons y m => exact ((h y).mpr List.mem_cons_self |> fun z => by cases z)
  | x :: l, m, n1, n2, h => by
    obtain ⟨h1, h2⟩ := List.nodup_cons.mp n1
    have hx := (h x).mp List.mem_cons_self
    refine List.Perm.trans ((nd_perm h2 (n2.erase x) fun y => ?_).cons x) (List.perm_cons_erase hx).symm
    rw [List.Nodup.mem_erase_iff n2, ← h y, List.mem_cons]
    exact ⟨fun q => ⟨fun e => h1 (e ▸ q), .inr q⟩, fun q => q.2.elim (fun e => (q.1 e).elim) id⟩
theorem de_srtSet {e : Expr} {fa : Sto → Res (List D)} {p p2 pos pos2 : Pos} (hc : X.calm = true) (hm : X.mg "sorted" = none) (hm2 : X.mg "set" = none) (ha : DA T X W [e] fa) (hg : Gl X "sorted" := by rfl) (hg2 : Gl X "set" := by rfl) (hs : starEach [e] X.env = (false, eval e X.env) :: starEach [] X.env := by rfl)
    (hs2 : starEach [.Call (.Name "set" p2) [e] [] pos2] X.env = (false, eval (.Call (.Name "set" p2) [e] [] pos2) X.env) :: starEach [] X.env := by rfl) :
    DE T X W (.Call (.Name "sorted" p) [.Call (.Name "set" p2) [e] [] pos2] [] pos) (app srtSD fa) :=
  weakE (pe_callB (TxS.cr_sortX hc) hg hm (by decide +kernel) (pa_cons (pe_callTy (TxS.cr_setX hc) hg2 hm2 (by decide +kernel) ha (by decide) (by decide) hs) pa_nil hs2) (by decide) (by decide) hs2) fun σ H Q ⟨F, δ, L, h⟩ => bindA ppE L h fun ds vs F1 H1 s1 L1 r1 h1 => by
    unfold srtSD at h1
    split at h1
    · rename_i l
      obtain ⟨hl, h2⟩ := PostE.ite h1
      obtain ⟨v, rfl, rv⟩ := r1.one
      cases rv with
      | @str x _ e1 =>
        subst e1
        refine ⟨x, rfl, by rw [TL.len_tl]; exact Nat.lt_of_le_of_lt (Nat.succ_le_succ hl.1) (by decide), fun p ks hp nd mem => ?_⟩
        have st1 := Step.junk (o := TxS.SetX X.prog X.w p ks) L1.gd hp
        have pk : (ks.map TL.tl).Perm ((ltrs (TL.tl x)).map fun c => [c]) := by
          have q := nd_perm (l := ks) (m := (ltrs (TL.tl x)).map fun c => (⟨#[c]⟩ : Str)) nd (nd_map _ (fun a b h => by have := congrArg TL.tl h; simpa using this) (ltrs_nodup _)) fun k => by
            rw [mem k, List.mem_map]
            exact ⟨fun ⟨c, hc, e⟩ => ⟨c, ltrs_mem.mpr hc, e.symm⟩, fun ⟨c, hc, e⟩ => ⟨c, ltrs_mem.mp hc, e.symm⟩⟩
          have q2 := q.map TL.tl
          rw [List.map_map] at q2
          exact q2
        have hkl : ks.length = (ltrs (TL.tl x)).length := by have := pk.length_eq; rwa [List.length_map, List.length_map] at this
        refine ⟨p, ks, rfl, upd_same, by rw [hkl]; exact hl.2, fun ys q py sy hq => ?_⟩
        have st2 := Step.new (o := .lst (ys.map V.str)) st1.gd hq
        have ey : ys.map TL.tl = (ltrs (TL.tl x)).map fun c => [c] := perm_eq (fun a b => List.le_antisymm) (sortedS_le ys sy) (List.pairwise_map.mpr ((ltrs_le _).imp fun {a b} h => one_le.mpr h)) ((py.map TL.tl).trans pk)
        refine h2 _ _ _ (st1.trans st2) (RpL.lst upd_same ?_)
        have := RpL.of_strs (K := X.K) (mg := X.mg) (F := upd F1 q (.lst (ys.map V.str))) ey
        rw [List.map_map] at this
        exact this
    · exact h1.elim
end
end Dn


set_option Elab.async false
set_option linter.all false
set_option maxRecDepth 100000
set_option maxHeartbeats 4000000
namespace Dn
open PySem PySem.Spec PyProof.Rows L2
section
variable {T : List (Addr × Str)} {X : Cx} {W : Wi} {K : PySem.W.Frag} {mg : Str → Option Value}
/-! ### x.index(y) of lists and texts -/
theorem PE.or {e : Expr} {t t' : TE} (h : PE X e t) (k : PE X e t') : PE X e (fun σ H Q => t σ H Q ∨ t' σ H Q) := ⟨fun pins s σ H Q I q => q.elim (h.run pins s σ H Q I) (k.run pins s σ H Q I)⟩
def idxS (l : List Nat) : D → Res D
  | .str [c] => (match l.findIdx? (fun d => d == c) with
    | some j => .ok (.int (j : Nat))
    | none => .stuck)
  | _ => .stuck
def idxE (fo fe : Sto → Res D) : Sto → Res D := fun δ => (fo δ).bind fun x => match x with
  | .lst ds => (fe δ).bind (idxD ds)
  | .str l => (fe δ).bind (idxS l)
  | _ => .stuck
theorem occ_one {x : Str} {c j : Nat} (h : (TL.tl x).findIdx? (fun d => d == c) = some j) : ∃ r, Builtin.Str.occurrences x ⟨#[c]⟩ 0 x.length 1 = j :: r := by
  obtain ⟨hj, pj, mj⟩ := List.findIdx?_eq_some_iff_getElem.mp h
  have at_ : ∀ i, PySem.StrLaws.At x ⟨#[c]⟩ x.length i ↔ (TL.tl x)[i]? = some c := fun i => PySem.StrLaws.subAt_one x c i
  rcases PySem.StrLaws.occ_head x ⟨#[c]⟩ 1 (Nat.le_refl 1) with ⟨_, hn⟩ | ⟨k, r, h0, hk, hn⟩
  · exact (hn j ((at_ j).mpr (by rw [List.getElem?_eq_getElem hj, beq_iff_eq.mp pj]))).elim
  · refine ⟨r, ?_⟩
    rw [h0]
    have hk' := (at_ k).mp hk
    have hkl := (List.getElem?_eq_some_iff.mp hk').1
    have e : k = j := by
      rcases Nat.lt_trichotomy k j with q | q | q
      · have := mj k q
        rw [List.getElem?_eq_getElem hkl] at hk'
        rw [Option.some.inj hk'] at this
        simp at this
      · exact q
      · exact (hn j q ((at_ j).mpr (by rw [List.getElem?_eq_getElem hj, beq_iff_eq.mp pj]))).elim
    rw [e]
theorem de_idx {o e : Expr} {fo fe : Sto → Res D} {apos cpos : Pos} (ho : DE T X W o fo) (he : DE T X W e fe) (hbase : attributeBase o "index" X.env (eval o X.env) = eval o X.env := by rfl)
    (hfew : ((backTo cpos (starEach (e :: []) X.env)).all (fun x => !x.1) && (backToKw cpos (keywordEach [] X.env)).all (fun x => x.1.isSome) && decide ((e :: []).length + ([] : List Keyword).length + (if ([] : List Keyword).isEmpty then 0 else 1) < 30)) = true := by rfl)
    (hline : (apos.endLine == cpos.line) = true := by rfl) (hse : starEach (e :: []) X.env = (false, eval e X.env) :: starEach [] X.env := by rfl) (hplain : (backTo cpos (starEach [] X.env)).any (·.1) = false := by rfl) :
    DE T X W (.Call (.Attribute o "index" apos) [e] [] cpos) (idxE fo fe) :=
  weakE (PE.or (de_index ho he hbase hfew hline hse hplain) (pe_bm PySem.F.plainAttrs_str PySem.F.slot_str_index PySem.F.type_str_index mt_sindex ho (pa_cons he pa_nil hse) hbase hfew hline hse hplain)) fun σ H Q ⟨F, δ, L, h⟩ => by
    unfold idxE at h
    cases ef : fo δ with
    | stuck => rw [ef] at h; exact (show False from h).elim
    | rs c => rw [ef] at h; exact .inl ⟨F, δ, L, by unfold binL; rw [ef]; exact h⟩
    | ok x =>
      rw [ef] at h
      cases x with
      | lst ds => exact .inl ⟨F, δ, L, by unfold binL; rw [ef]; exact h⟩
      | str l =>
        refine .inr ⟨F, δ, L, ?_⟩
        rw [ef]
        intro v F1 H1 s1 r1
        have L1 := L.step s1
        have h1 : PostE X.K X.mg T F1 H1 W Q ((fe δ).bind (idxS l)) := PostE.shift h s1
        cases r1 with
        | @str a _ e0 =>
          refine ⟨rfl, bindE ppE L1 h1 fun y u F2 H2 s2 L2 r2 h2 => ?_⟩
          unfold idxS at h2
          split at h2
          · split at h2
            · rename_i j ej
              cases r2 with
              | str e1 =>
                have e2 := one_sign e1
                subst e2 e0
                obtain ⟨r, eo⟩ := occ_one ej
                exact ⟨a, _, j, r, rfl, rfl, eo, h2.here L2.gd (.int _)⟩
            · exact h2.elim
          · exact h2.elim
      | _ => exact (show False from h).elim
@[simp] theorem idxE_eq {fo fe : Sto → Res D} {δ : Sto} : idxE fo fe δ = (fo δ).bind fun x => (match x with | .lst ds => (fe δ).bind (idxD ds) | .str l => (fe δ).bind (idxS l) | _ => .stuck) := nrfl rfl
/-! ### list(text) -/
def listA : List D → Res D
  | [.lst xs] => .ok (.lst xs)
  | [.tup xs] => .ok (.lst xs)
  | [.str l] => if l.length ≤ line then .ok (.lst (sgs l)) else .stuck
  | _ => .stuck
def rListS : List V → Hp → VK → Prop := fun xs H Q => ∃ x : Str, xs = [.str x] ∧ x.length ≤ sizeLine ∧ ∀ p, H p = none → Q (.ref p) (upd H p (.lst ((TL.tl x).map fun c => V.str ⟨#[c]⟩)))
theorem vals_signs : ∀ {l : List Nat} {us : List Value}, us.length = l.length → (∀ (j : Nat) v, us[j]? = some v → ∃ c u, l[j]? = some c ∧ v = .str ⟨#[c]⟩ u) → Vals (l.map fun c => V.str ⟨#[c]⟩) us
  | [], [], _, _ => .nil
  | [], _ :: _, e, _ => by simp at e
  | _ :: _, [], e, _ => by simp at e
  | c :: l, v :: us, e, h => by
    obtain ⟨c', u, hc, rfl⟩ := h 0 v rfl
    cases hc
    exact .cons ⟨u, rfl⟩ (vals_signs (by simpa using e) fun j w hj => h (j + 1) w (by simpa using hj))
theorem cr_listS (hc : X.calm = true) : CallR X (.type "list") rListS := by
  intro pins s σ H xs us Q I r h
  obtain ⟨x, rfl, hn, q⟩ := h
  obtain ⟨u, rfl, ru⟩ := vals1 r
  obtain ⟨t, rfl⟩ := ru
  refine PySem.call_list_str (I.ok.hd hc) x t (fun h' tk acc c' kp ho it => ?_) (by exact hn)
  have hv : Vals ((TL.tl x).map fun c => V.str ⟨#[c]⟩) acc.toList := vals_signs (by rw [Array.length_toList, it.1, size_tl]) fun j v hj => by
    obtain ⟨c, u, hc, e⟩ := it.2 j v (by rw [← Array.getElem?_toList]; exact hj)
    exact ⟨c, u, by rw [← cps_tl]; exact hc, e⟩
  refine ⟨.ref _, upd H s.heap.objs.size (.lst ((TL.tl x).map fun c => V.str ⟨#[c]⟩)), I.laid (t' := tk) kp (Nat.le_refl _) ⟨by rw [List.length_map, ← TL.len_tl]; exact hn, acc.toList, c', hv, by simpa using ho⟩, rfl, q _ (I.hok.fresh (Nat.le_refl _))⟩
theorem cr_listA (hc : X.calm = true) : CallR X (.type "list") (fun xs H Q => (∃ p ys, xs = [.ref p] ∧ (SqL X.K H p ys ∨ SqT X.K H p ys) ∧ ∀ l, H l = none → Q (.ref l) (upd H l (.lst ys))) ∨ rListS xs H Q) := call_list_of.or (cr_listS hc)
theorem RpL.of_signs {F : Hp} : ∀ l : List Nat, RpL K mg F (l.map fun c => V.str ⟨#[c]⟩) (sgs l)
  | [] => .nil
  | c :: l => .cons (.str rfl) (RpL.of_signs l)
theorem rc_listA : RCD K mg T (fun xs H Q => (∃ p ys, xs = [.ref p] ∧ (SqL K H p ys ∨ SqT K H p ys) ∧ ∀ l, H l = none → Q (.ref l) (upd H l (.lst ys))) ∨ rListS xs H Q) listA := by
  intro F H vs ds W Q gd r h
  unfold listA at h
  split at h
  · exact .inl (rc_list F H vs _ W Q gd r h)
  · exact .inl (rc_list F H vs _ W Q gd r h)
  · obtain ⟨hl, h⟩ := PostE.ite h
    obtain ⟨v, rfl, rv⟩ := r.one
    cases rv with
    | @str x _ e =>
      subst e
      refine .inr ⟨x, rfl, by rw [TL.len_tl]; exact Nat.le_trans hl line_le, fun p hp => ?_⟩
      have st := Step.new (o := .lst ((TL.tl x).map fun c => V.str ⟨#[c]⟩)) gd hp
      exact h _ _ _ st (RpL.lst upd_same (RpL.of_signs _))
  · exact h.elim
/-! ### chains of three -/
def chn3 (g g' g'' : D → D → Res D) (fa fb fc fd : Sto → Res D) : Sto → Res D := fun δ => (fa δ).bind fun x => (fb δ).bind fun y => (g x y).bind (lnk ((fc δ).bind fun z => (g' y z).bind (lnk ((fd δ).bind (g'' z)))))
def tChain3 (r r' r'' : R2) (ta tb tc td : TE) : TE := fun σ H Q => ta σ H fun x H1 => tb σ H1 fun y H2 => r x y H2 fun z H3 => ∃ k, z = .bl k ∧ (if k = true then tc σ H3 fun w H4 => r' y w H4 fun z' H5 => ∃ k', z' = .bl k' ∧ (if k' = true then td σ H5 fun u H6 => r'' w u H6 Q else Q (.bl false) H5) else Q (.bl false) H3)
variable {a b c d : Expr} {ta tb tc td : TE} {fa fb fc fd : Sto → Res D} {pos : Pos} {r r' r'' : R2} {g g' g'' : D → D → Res D} {op op' op'' : CmpOp}
theorem pe_chain3 (ho : OpR X (compareOp op) r) (ho' : OpR X (compareOp op') r') (ho'' : OpR X (compareOp op'') r'') (ha : PE X a ta) (hb : PE X b tb) (hc : PE X c tc) (hd : PE X d td)
    (hm : lastMarks [op, op', op''] [b, c, d] = false := by with_unfolding_all rfl) : PE X (.Compare a [op, op', op''] [b, c, d] pos) (tChain3 r r' r'' ta tb tc td) := by
  refine ⟨fun pins s σ H Q I h => ?_⟩
  refine Compare_chain (thn (ha.run pins s σ H _ I h) fun v s1 ⟨x, H1, I1, r1, q1⟩ => chain_link (thn (hb.run pins s1 σ H1 _ I1 q1) fun u s2 ⟨y, H2, I2, r2, q2⟩ =>
    thn (ho pins s2 σ H2 x y v u _ I2 r1 r2 q2) fun d s3 ⟨z, H3, I3, r3, k, e, q3⟩ => ?_)) hm
  subst e
  cases r3
  refine wpAny_truthy_bool ?_
  cases k with
  | false => exact ite_ff ⟨.bl false, H3, I3, rfl, q3⟩
  | true =>
    refine ite_tt (chain_link (thn (hc.run pins s3 σ H3 _ I3 q3) fun w' s4 ⟨z', H4, I4, r4, q4⟩ => thn (ho' pins s4 σ H4 y z' u w' _ I4 r2 r4 q4) fun d s5 ⟨z, H5, I5, r5, k, e, q5⟩ => ?_))
    subst e
    cases r5
    refine wpAny_truthy_bool ?_
    cases k with
    | false => exact ite_ff ⟨.bl false, H5, I5, rfl, q5⟩
    | true => exact ite_tt (chain_last (thn (hd.run pins s5 σ H5 _ I5 q5) fun w2 s6 ⟨z2, H6, I6, r6, q6⟩ => ho'' pins s6 σ H6 z' z2 w' w2 Q I6 r4 r6 q6))
theorem chn3_read (hr : R2D X.K X.mg T r g) (hr' : R2D X.K X.mg T r' g') (hr'' : R2D X.K X.mg T r'' g'') {σ : L2.St} {F H : Hp} {δ : Sto} {Q : VK} (L : Lcl X.K X.mg T F H σ δ) (h : PostE X.K X.mg T F H W Q (chn3 g g' g'' fa fb fc fd δ)) : tChain3 r r' r'' (tD X.K X.mg T W fa) (tD X.K X.mg T W fb) (tD X.K X.mg T W fc) (tD X.K X.mg T W fd) σ H Q :=
  bindE ppE L h fun x v F1 H1 s1 L1 r1 h1 => bindE ppE L1 h1 fun y u F2 H2 s2 L2 r2 h2 => by
    refine hr F2 H2 v u x y W _ L2.gd (r1.mono s2.r) r2 ?_
    cases z : g x y with
    | stuck => rw [z] at h2; exact h2
    | rs c => rw [z] at h2; exact h2
    | ok d =>
      rw [z] at h2
      intro w F3 H3 s3 r3
      have L3 := L2.step s3
      have h3 : PostE X.K X.mg T F3 H3 W Q (lnk ((fc δ).bind fun z => (g' y z).bind (lnk ((fd δ).bind (g'' z)))) d) := PostE.shift h2 s3
      cases r3 with
      | bl k =>
        refine ⟨k, rfl, ?_⟩
        cases k with
        | false => rw [if_neg Bool.false_ne_true]; exact PostE.here h3 L3.gd (.bl false)
        | true =>
          rw [if_pos rfl]
          refine bindE ppE L3 h3 fun e w F4 H4 s4 L4 r4 h4 => ?_
          refine hr' F4 H4 u w y e W _ L4.gd ((r2.mono s3.r).mono s4.r) r4 ?_
          cases z : g' y e with
          | stuck => rw [z] at h4; exact h4
          | rs c => rw [z] at h4; exact h4
          | ok d =>
            rw [z] at h4
            intro w' F5 H5 s5 r5
            have L5 := L4.step s5
            have h5 : PostE X.K X.mg T F5 H5 W Q (lnk ((fd δ).bind (g'' e)) d) := PostE.shift h4 s5
            cases r5 with
            | bl k =>
              refine ⟨k, rfl, ?_⟩
              cases k with
              | false => rw [if_neg Bool.false_ne_true]; exact PostE.here h5 L5.gd (.bl false)
              | true =>
                rw [if_pos rfl]
                exact bindE ppE L5 h5 fun e2 w2 F6 H6 s6 L6 r6 h6 => hr'' F6 H6 w w2 e e2 W Q L6.gd ((r4.mono s5.r).mono s6.r) r6 h6
            | _ => exact (show False from h5).elim
      | _ => exact (show False from h3).elim
theorem de_chn3 (ho : OpR X (compareOp op) r) (hr : R2D X.K X.mg T r g) (ho' : OpR X (compareOp op') r') (hr' : R2D X.K X.mg T r' g') (ho'' : OpR X (compareOp op'') r'') (hr'' : R2D X.K X.mg T r'' g'') (ha : DE T X W a fa) (hb : DE T X W b fb) (hc : DE T X W c fc) (hd : DE T X W d fd) (hm : lastMarks [op, op', op''] [b, c, d] = false := by with_unfolding_all rfl) :
    DE T X W (.Compare a [op, op', op''] [b, c, d] pos) (chn3 g g' g'' fa fb fc fd) := weakE (pe_chain3 ho ho' ho'' ha hb hc hd hm) fun σ H Q ⟨F, δ, L, h⟩ => chn3_read hr hr' hr'' L h
@[simp] theorem chn3_eq {δ : Sto} : chn3 g g' g'' fa fb fc fd δ = (fa δ).bind fun x => (fb δ).bind fun y => (g x y).bind (lnk ((fc δ).bind fun z => (g' y z).bind (lnk ((fd δ).bind (g'' z))))) := nrfl rfl
@[simp] theorem enumA_lst {xs : List D} : enumA [.lst xs] = .ok (xs.mapIdx fun i d => .tup [.int (i : Int), d]) := nrfl rfl
@[simp] theorem enumA_str {l : List Nat} : enumA [.str l] = .ok (l.mapIdx fun i c => .tup [.int (i : Int), .str [c]]) := nrfl rfl
@[simp] theorem zipA_lst {xs ys : List D} : zipA [.lst xs, .lst ys] = .ok (List.zipWith (fun a b => .tup [a, b]) xs ys) := nrfl rfl
@[simp] theorem zipA_str {xs : List D} {l : List Nat} : zipA [.lst xs, .str l] = .ok (List.zipWith (fun a c => .tup [a, .str [c]]) xs l) := nrfl rfl
end
end Dn


set_option Elab.async false
set_option linter.all false
set_option maxRecDepth 100000
set_option maxHeartbeats 4000000
namespace Dn
open PySem PySem.Spec PyProof.Rows L2
section
variable {T : List (Addr × Str)} {X : Cx} {W : Wi} {K : PySem.W.Frag} {mg : Str → Option Value}
/-! ### x[::-1] -/
def tRevS (te : TE) : TE := fun σ H Q => te σ H fun x H1 => ∃ z : Str, x = .str z ∧ z.length ≤ sizeLine ∧ Q (.str ⟨z.cps.toList.reverse.toArray⟩) H1
theorem revS_ix (z : Str) : (Builtin.Str.strSliceIndices none none (-1) z.length).filterMap (z.cps[·]?) = z.cps.toList.reverse := by
  have e : Builtin.Str.strSliceIndices none none (-1) z.length = sliceRange ((z.length : Int) - 1) (-1) (-1) := rfl
  rw [e, PySem.W.krv_sliceRange, PySem.W.krv_range, List.filterMap_reverse]
  show ((List.range z.cps.size).filterMap (z.cps[·]?)).reverse = _
  rw [PySem.W.krv_all]
theorem pe_revS {e : Expr} {te : TE} {k : Nat} {p1 p2 p3 pos : Pos} (he : PE X e te) : PE X (.Subscript e (.Slice none none (some (.UnaryOp .USub (.Constant (.int 1) k p1) p2)) p3) pos) (tRevS te) := by
  refine ⟨fun pins s σ H Q I h => ?_⟩
  refine Subscript_ (thn (he.run pins s σ H _ I h) fun v s1 ⟨x, H1, I1, r1, q1⟩ => ?_)
  obtain ⟨z, ex, hz, q⟩ := q1
  subst ex
  obtain ⟨t, rfl⟩ := r1
  have hst : PO X (some (.UnaryOp .USub (.Constant (.int 1) k p1) p2)) (tPart (tUn (rU fun i => .int (-i)) (tC (.int 1)))) := po_some (pe_un un_neg pe_int)
  refine wpAny_Slice (thn (po_none.run pins s1 σ H1 (fun o H2 => o = none ∧ H2 = H1) I1 ⟨rfl, rfl⟩) fun vl s2 ⟨l, H2, I2, pl, el, e2⟩ => ?_)
  subst el e2
  refine thn (po_none.run pins s2 σ H2 (fun o H3 => o = none ∧ H3 = H2) I2 ⟨rfl, rfl⟩) fun vu s3 ⟨u, H3, I3, pu, eu, e3⟩ => ?_
  subst eu e3
  refine thn (hst.run pins s3 σ H3 (fun o H4 => o = some (-1) ∧ H4 = H3) I3 ⟨1, rfl, -1, rfl, rfl, rfl⟩) fun vs s4 ⟨o, H4, I4, ps, eo, e4⟩ => ?_
  subst eo e4
  obtain ⟨l', e5, hl'⟩ := IsPart.raw pl
  obtain ⟨u', e6, hu'⟩ := IsPart.raw pu
  obtain ⟨st', e7, hs'⟩ := IsPart.raw ps
  cases l' with
  | some _ => cases hl'
  | none =>
  cases u' with
  | some _ => cases hu'
  | none =>
  cases st' with
  | none => cases hs'
  | some st' =>
  obtain ⟨i, ti⟩ := st'
  obtain rfl : i = -1 := Option.some.inj hs'
  subst e5 e6 e7
  have I5 : Inv X pins σ H4 { s4 with heap := s4.heap.push { cls := .type "slice", data := .fields #[partValue none, partValue none, partValue (some (-1, ti))] } } := I4.kept (t' := s4.toks) fun b ob q => Heap.get?_push_of_some _ q
  refine tail_any (ops := [.str z t, .ref s4.heap.objs.size]) (typeIs_str _ _ _) F.slot_str_getitem.lookup ?_ (by with_unfolding_all rfl)
  refine wpAny_getItem_str_slice (l := none) (u := none) (st := some (-1, ti)) ⟨_, Heap.get?_push_size _ rfl, rfl, rfl⟩ rfl ?_
  show Made.post (if ((-1 : Int) == 1 && _) = true then Made.val (.str z t) else Made.str ⟨((Builtin.Str.strSliceIndices none none (-1) z.length).filterMap (z.cps[·]?)).toArray⟩) (EP X pins σ Q) _
  rw [if_neg (by simp), revS_ix]
  refine ⟨?_, .str _, H4, I5.tok _, ⟨_, rfl⟩, q⟩
  show z.cps.toList.reverse.toArray.size ≤ sizeLine
  rw [List.size_toArray, List.length_reverse, Array.length_toList]
  exact hz
def revD : D → Res D
  | .lst xs => .ok (.lst xs.reverse)
  | .str l => if l.length ≤ line then .ok (.str l.reverse) else .stuck
  | _ => .stuck
theorem RpL.rev {F : Hp} {vs : List V} {ds : List D} (r : RpL K mg F vs ds) : RpL K mg F vs.reverse ds.reverse := by
  induction r with
  | nil => exact .nil
  | cons a b ih => rw [List.reverse_cons, List.reverse_cons]; exact ih.append (.cons a .nil)
theorem de_rev {e : Expr} {fe : Sto → Res D} {k : Nat} {p1 p2 p3 pos : Pos} (he : DE T X W e fe) : DE T X W (.Subscript e (.Slice none none (some (.UnaryOp .USub (.Constant (.int 1) k p1) p2)) p3) pos) (un revD fe) :=
  weakE (PE.or (pe_revL he) (pe_revS he)) fun σ H Q ⟨F, δ, L, h⟩ => by
    unfold un at h
    cases ef : fe δ with
    | stuck => rw [ef] at h; exact (show False from h).elim
    | rs c => rw [ef] at h; exact .inl ⟨F, δ, L, by rw [ef]; exact h⟩
    | ok x =>
      rw [ef] at h
      cases x with
      | lst ds =>
        refine .inl ⟨F, δ, L, ?_⟩
        rw [ef]
        intro v F1 H1 s1 r1
        have L1 := L.step s1
        have h1 : PostE X.K X.mg T F1 H1 W Q (revD (.lst ds)) := PostE.shift h s1
        obtain ⟨p, us, rfl, e1, q⟩ := r1.lst_inv
        refine ⟨p, us, rfl, .of (L1.sub _ _ e1), fun z hz => ?_⟩
        have st := Step.new (o := .lst us.reverse) L1.gd hz
        exact h1 _ _ _ st (RpL.lst upd_same ((RpL.rev q).mono st.r))
      | str l =>
        refine .inr ⟨F, δ, L, ?_⟩
        rw [ef]
        intro v F1 H1 s1 r1
        have L1 := L.step s1
        have h1 : PostE X.K X.mg T F1 H1 W Q (revD (.str l)) := PostE.shift h s1
        obtain ⟨hl, h2⟩ := PostE.ite h1
        cases r1 with
        | @str a _ e0 =>
          refine ⟨a, rfl, by rw [TL.len_tl, e0]; exact Nat.le_trans hl line_le, h2.here L1.gd (.str ?_)⟩
          rw [← e0]
      | _ => exact (show False from h).elim
@[simp] theorem revD_lst {xs : List D} : revD (.lst xs) = .ok (.lst xs.reverse) := nrfl rfl
theorem revD_str {l : List Nat} (h : l.length ≤ line) : revD (.str l) = .ok (.str l.reverse) := if_pos h
/-! ### a def of the law with lambdas of its own: it never raises -/
def okO : Res D → Res D
  | .ok d => .ok d
  | _ => .stuck
@[simp] theorem okO_ok {d : D} : okO (.ok d) = .ok d := nrfl rfl
end
def FnQ (P : Program) (w : World) (K : PySem.W.Frag) (mg : Str → Option Value) (base : Heap) (T : List (Addr × Str)) (k : Nat) (x : Str) (ps : List Str) (g : List D → Res D) : Prop :=
  ∃ f fd, FnOk P w K mg base (L2N.CX P w) k f fd ps (spL K mg T g) ∧ PySem.W.keepIn K (.ref f) = true ∧ L2.Binds K fd ps [] ∧ mg x = some (.ref f)
section
variable {T : List (Addr × Str)} {X : Cx} {W : Wi} {K : PySem.W.Frag} {mg : Str → Option Value}
theorem spL_call {f : List D → Res D} {F H : Hp} {vs : List V} {ds : List D} {Q : VK} {E : XK} (gd : Gd T F H) (r : RpL K mg F vs ds) (h : PostE K mg T F H W Q (okO (f ds))) : spL K mg T f vs H Q E := by
  refine ⟨F, ds, gd, r, ?_⟩
  cases e : f ds with
  | ok d => rw [e] at h; exact ⟨d, rfl, h⟩
  | rs c => rw [e] at h; exact h.elim
  | stuck => rw [e] at h; exact h.elim
theorem de_callQ {k : Nat} {ps : List Str} {g : List D → Res D} {x : Str} {e : Expr} {es : List Expr} {p pos : Pos} {fa : Sto → Res (List D)} (G : FnQ X.prog X.w X.K X.mg X.base T k x ps g) (hr : Room k X.A) (tk : L2N.Takes X (wx X.mg W)) (ha : DA T X W (e :: es) fa)
    (hg : Gl X x := by rfl) (hdb : (x == ("__debug__" : Str)) = false := by decide) (he : starEach (e :: es) X.env = (false, eval e X.env) :: starEach es X.env := by rfl) (hpl : (backTo pos (starEach es X.env)).any (·.1) = false := by rfl) :
    DE T X W (.Call (.Name x p) (e :: es) [] pos) (app (fun xs => okO (g xs)) fa) := by
  obtain ⟨f, fd, Fn, hk, hb, hm⟩ := G
  exact weakE (pe_callS Fn hr hg hm hk hb (fun σ => L2N.passAt tk σ) ha hdb he hpl) fun σ H Q ⟨F, δ, L, h⟩ => bindA ppE L h fun ds vs F1 H1 s1 L1 r1 h1 => spL_call L1.gd r1 h1
end
end Dn


set_option Elab.async false
set_option linter.all false
set_option maxRecDepth 100000
set_option maxHeartbeats 4000000
namespace Dn
open PySem PySem.Spec PyProof.Rows L2
/-! ### sorted(e, key=lambda x: x // y % 2) -/
/-- the lambda's scope: one name of its own, one of the def around it -/
structure LamK (sc scope : Scope) (x y : Str) : Prop where
  kind : scope.kind = .function
  co : scope.isCoroutine = false
  gen : scope.isGenerator = false
  own : ∀ z ∈ scope.names, z.2 ≠ .cell
  lx : scope.names.lookup x = some .local
  ly : scope.names.lookup y = some .free
  ny : ∀ z ∈ scope.names, z.2 = .free → sc.names.lookup z.1 = some .cell
def lamKB (sc scope : Scope) (x y : Str) : Bool :=
  decide (scope.kind = .function) && !scope.isCoroutine && !scope.isGenerator && (scope.names.all fun z => !decide (z.2 = .cell) && (!decide (z.2 = .free) || decide (sc.names.lookup z.1 = some .cell))) && decide (scope.names.lookup x = some .local) && decide (scope.names.lookup y = some .free)
theorem lamK_by {sc scope : Scope} {x y : Str} (h : lamKB sc scope x y = true) : LamK sc scope x y := by
  unfold lamKB at h
  simp only [Bool.and_eq_true, Bool.or_eq_true, Bool.not_eq_true', decide_eq_true_eq, decide_eq_false_iff_not, List.all_eq_true] at h
  obtain ⟨⟨⟨⟨⟨h1, h2⟩, h3⟩, h4⟩, h5⟩, h6⟩ := h
  exact ⟨h1, h2, h3, fun z hz => (h4 z hz).1, h5, h6, fun z hz e => (h4 z hz).2.resolve_left fun n => n e⟩
def kyI (h n : Int) : Int := n / h % 2
section
variable {X : Cx} {pins : List (Addr × Obj)} {σ : L2.St} {H : Hp} {s : Shared}
theorem key_turn {A : Around} {x y : Str} {i : Nat} {hv : Int} {f c' : Addr} {pm ctv : Value} {params : Arguments} {scope : Scope} {p1 p2 p3 q1 q2 : Pos} {j : Nat} (I : Inv X pins σ H s) (Lk : LamK X.env.scope scope x y)
    (hf : s.heap.get? f = some (PySem.W.kla_obj "<lambda>" (X.env.qual ++ "<lambda>") params (.BinOp (.BinOp (.Name x p1) .FloorDiv (.Name y p2) q1) .Mod (.Constant (.int 2) j p3) q2) scope (cloFrom X.env.cells scope.names []) pm c' ctv))
    (hco : H c' = some (LamX.CodeO c' (X.env.qual ++ "<lambda>"))) (hN : X.N[i]? = some y) (hs : σ[i]? = some (some (.int hv))) (h0 : 0 < hv) (hw : CDivW 0 hv) (hd : A.depth < recursionLimit)
    (hbind : ∀ (q : Str) (cl : List (Str × Addr)) (pm cv ctv v : Value), bindArgs (PySem.W.kla_fn "<lambda>" q params (.BinOp (.BinOp (.Name x p1) .FloorDiv (.Name y p2) q1) .Mod (.Constant (.int 2) j p3) q2) scope cl pm cv ctv) ⟨[v], []⟩ = pure [(x, v)])
    (hdx : (x == ("__debug__" : Str)) = false) (hdy : (y == ("__debug__" : Str)) = false) (hcd : (y == ("__classdict__" : Str)) = false)
    (v : Value) (n : Int) (hR : ∃ t, v = .int n t) (h : Heap) (tk : Nat) (kp : ∀ b o, s.heap.get? b = some o → h.get? b = some o) :
    wpAny (model X.prog X.w) A (call (.ref f) [v]) (PySem.W.KeyPure (.int (kyI hv n)) { s with heap := h, toks := tk }) (fun _ _ => False) { s with heap := h, toks := tk } := by
  obtain ⟨t, rfl⟩ := hR
  obtain ⟨⟨oc, vs, tq, hoc, hdc, hvc⟩, _, _⟩ := I.hok c' _ hco
  refine wpAny_call ?_
  refine PySem.W.kla_callFunE hd (kp _ _ hf) rfl Lk.co Lk.gen rfl ⟨c', oc, vs, tq, rfl, kp _ _ hoc, hdc, hvc⟩ ?_
  rw [hbind]
  refine wpAny_pure (wpAny_newFunctionEnv Lk.own (fun z hz => by rw [List.mem_singleton.mp hz]; exact Lk.lx) (fun h1 hns hsb => ⟨(I.nolimit.keeps kp).fresh _ hsb, ?_⟩) Lk.kind)
  show codeAny _ _ (.expr _ (LamX.lamEnv X scope h.objs.size f c')) _ _
  have k1 : ∀ b o, h.get? b = some o → h1.get? b = some o := fun b o e => hsb.extBut b o (Nat.ne_of_lt (Heap.lt_size e)) (Heap.get?_push_of_some _ e)
  -- the cell
  have hvis : Vis X.env.scope y := .inr (.inl (Lk.ny _ (PySem.mem_of_lookup Lk.ly) rfl))
  obtain ⟨m, hn, hl⟩ := I.loc
  obtain ⟨u, ru, l⟩ := hl i y _ hN hs hvis
  obtain ⟨tu, rfl⟩ := ru
  have hkc : X.env.scope.names.lookup y = some .cell := Lk.ny _ (PySem.mem_of_lookup Lk.ly) rfl
  obtain ⟨c, hc, hcell⟩ : ∃ c, X.env.cells.lookup y = some c ∧ s.heap.IsCell c (some (.int hv tu)) := by
    rcases l with ⟨hk, _⟩ | ⟨_, c, hc, hcell⟩
    · have hk : X.env.scope.names.lookup y = some .local := hk
      rw [hkc] at hk; cases hk
    · exact ⟨c, hc, hcell⟩
  have hce : (cloFrom X.env.cells scope.names []).lookup y = some c := by
    obtain ⟨c2, h2⟩ := mem_lookup (cloFrom_has (cells := X.env.cells) (acc := []) (PySem.mem_of_lookup Lk.ly))
    rcases cloFrom_mem (PySem.mem_of_lookup h2) with hm | ⟨_, e⟩
    · cases hm
    · rw [h2, e, hc]; rfl
  have hcell1 : h1.IsCell c (some (.int hv tu)) := by
    obtain ⟨o, ho, hd⟩ := hcell
    exact ⟨o, k1 _ _ (kp _ _ ho), hd⟩
  refine PySem.W.kla_codeExpr ?_
  refine wpAny_BinOp (wpAny_BinOp ?_)
  refine wpAny_Name (wpAny_loadName_local Lk.kind Lk.lx hns (v := .int n t) (by simp [List.lookup]) ?_) hdx
  refine wpAny_Name (wpAny_loadName_free Lk.kind Lk.ly hce hcell1 ?_ hcd) hdy
  refine floordiv_int (by omega) ?_ (.inl (PyProof.noPylong_of_log2 hw.2))
  refine wpAny_Constant_int ?_
  refine mod_int' (by decide) ?_
  refine ⟨h1, _, rfl, k1, ?_⟩
  rw [Int.fdiv_eq_ediv_of_nonneg n (by omega), Int.fmod_eq_emod_of_nonneg _ (by decide)]
  exact .int _ _
end
end Dn


set_option Elab.async false
set_option linter.all false
set_option maxRecDepth 100000
set_option maxHeartbeats 4000000
namespace Dn
open PySem PySem.Spec PyProof.Rows L2
/-! ### a stable sort by a key of 0 and 1 -/
theorem two_parts {k : Int → Int} (hk : ∀ n, k n = 0 ∨ k n = 1) : ∀ {m : List Int}, m.Pairwise (fun a b => decide (k a ≤ k b) = true) → m = m.filter (fun n => k n == 0) ++ m.filter (fun n => k n == 1)
  | [], _ => rfl
  | x :: m, h => by
    obtain ⟨hx, hm⟩ := List.pairwise_cons.mp h
    have ih := two_parts hk hm
    rcases hk x with e | e
    · rw [List.filter_cons_of_pos (by rw [e]; rfl), List.filter_cons_of_neg (by rw [e]; decide), List.cons_append, ← ih]
    · have z : m.filter (fun n => k n == 0) = [] := List.filter_eq_nil_iff.mpr fun y hy => by
        have := of_decide_eq_true (hx y hy)
        rw [beq_iff_eq]; omega
      rw [z, List.nil_append] at ih
      rw [List.filter_cons_of_neg (by rw [e]; decide), List.filter_cons_of_pos (by rw [e]; rfl), z, List.nil_append, ← ih]
theorem sort2 {k : Int → Int} (hk : ∀ n, k n = 0 ∨ k n = 1) (l : List Int) : l.mergeSort (fun a b => decide (k a ≤ k b)) = l.filter (fun n => k n == 0) ++ l.filter (fun n => k n == 1) := by
  have tr : ∀ a b c : Int, decide (k a ≤ k b) = true → decide (k b ≤ k c) = true → decide (k a ≤ k c) = true := fun a b c h1 h2 => decide_eq_true (Int.le_trans (of_decide_eq_true h1) (of_decide_eq_true h2))
  have to : ∀ a b : Int, (decide (k a ≤ k b) || decide (k b ≤ k a)) = true := fun a b => by
    rw [Bool.or_eq_true, decide_eq_true_eq, decide_eq_true_eq]; omega
  have pm := List.mergeSort_perm l fun a b => decide (k a ≤ k b)
  have so := two_parts hk (List.pairwise_mergeSort tr to l)
  generalize hm : l.mergeSort (fun a b => decide (k a ≤ k b)) = m at *
  have fe : ∀ b : Int, m.filter (fun n => k n == b) = l.filter (fun n => k n == b) := fun b => by
    have sub : (l.filter fun n => k n == b).Sublist m := by
      rw [← hm]
      refine List.sublist_mergeSort tr to ?_ List.filter_sublist
      refine List.pairwise_of_forall_mem_list fun x hx y hy => ?_
      have e1 := (List.mem_filter.mp hx).2
      have e2 := (List.mem_filter.mp hy).2
      rw [beq_iff_eq] at e1 e2
      exact decide_eq_true (by omega)
    have s2 := sub.filter (fun n => k n == b)
    rw [List.filter_filter] at s2
    simp only [Bool.and_self] at s2
    exact (s2.eq_of_length (pm.filter _).length_eq.symm).symm
  rw [so, fe, fe]
theorem ky_two (h n : Int) : kyI h n = 0 ∨ kyI h n = 1 := by unfold kyI; omega
def srtKR (i : Nat) (δ : Sto) (x : D) : Res D := match x, δ[i]? with
  | .lst xs, some (.val (.int h)) => if 0 < h ∧ h < 2 ^ 200 then (match intsO xs with
    | some ns => .ok (.lst ((ns.filter (fun n => kyI h n == 0) ++ ns.filter (fun n => kyI h n == 1)).map .int))
    | none => .stuck) else .stuck
  | _, _ => .stuck
def srtK (fe : Sto → Res D) (i : Nat) : Sto → Res D := fun δ => (fe δ).bind (srtKR i δ)
theorem each_ints : ∀ {ns : List Int} {its : List Value}, Vals (ns.map V.int) its → PySem.W.EachIs (fun v n => ∃ t, v = .int n t) its ns
  | [], _, .nil => .nil
  | n :: ns, _, .cons r rs => .cons r (each_ints rs)
theorem vals_each : ∀ {its : List Value} {ns : List Int}, PySem.W.EachIs (fun v n => ∃ t, v = .int n t) its ns → Vals (ns.map V.int) its
  | _, _, .nil => .nil
  | _, _, .cons r rs => .cons r (vals_each rs)
section
variable {T : List (Addr × Str)} {X : Cx} {W : Wi}
theorem de_sortK {k : Nat} {c P' : Addr} {x y : Str} {i : Nat} {params : Arguments} {scope : Scope} {e : Expr} {fe : Sto → Res D} {p lpos pos kpos p1 p2 p3 q1 q2 : Pos} {j : Nat}
    (hm : X.mg "sorted" = none) (he : DE T X W e fe)
    (TB : LamX.TabB X.base X.mg c P') (hcode : X.env.code = .ref c) (hmT : (P', X.env.qual ++ "<lambda>") ∈ T) (hu : ∀ p ∈ T, p.1 = P' → p.2 = X.env.qual ++ "<lambda>") (hr : Room k X.A) (Lk : LamK X.env.scope scope x y) (hN : X.N[i]? = some y)
    (hdef : defaultsOf params X.env = ([], []) := by rfl)
    (hbind : ∀ (q : Str) (cl : List (Str × Addr)) (pm cv ctv v : Value), bindArgs (PySem.W.kla_fn "<lambda>" q params (.BinOp (.BinOp (.Name x p1) .FloorDiv (.Name y p2) q1) .Mod (.Constant (.int 2) j p3) q2) scope cl pm cv ctv) ⟨[v], []⟩ = pure [(x, v)] := by intros; rfl)
    (hg : Gl X "sorted" := by rfl) (hdx : (x == ("__debug__" : Str)) = false := by decide) (hdy : (y == ("__debug__" : Str)) = false := by decide) (hcd : (y == ("__classdict__" : Str)) = false := by decide)
    (hs : starEach [e] X.env = (false, eval e X.env) :: starEach [] X.env := by rfl)
    (he' : backTo pos (starEach [e] X.env) = (false, eval e X.env) :: backTo pos (starEach [] X.env) := by rfl) (hpl : (backTo pos (starEach [e] X.env)).any (·.1) = false := by rfl) :
    DE T X W (.Call (.Name "sorted" p) [e] [⟨some "key", .Lambda params (.BinOp (.BinOp (.Name x p1) .FloorDiv (.Name y p2) q1) .Mod (.Constant (.int 2) j p3) q2) scope lpos, kpos⟩] pos) (srtK fe i) := by
  refine ⟨fun pins s σ H Q I h => ?_⟩
  obtain ⟨F, δ, L, h⟩ := h
  refine wpAny_Call_Name_kw (ld_blt I hg hm (u := .builtin "sorted") (by decide +kernel) ?_)
  refine PyProof.Rows.callWith_kw (thn ((pa_cons he pa_nil hs).run pos pins s σ H (fun vs H1 => ∃ v F1 x, vs = [v] ∧ Lcl X.K X.mg T F1 H1 σ δ ∧ Rp X.K X.mg F1 v x ∧ PostE X.K X.mg T F1 H1 W Q (srtKR i δ x)) I (bindE ppE L h fun x v F1 H1 s1 L1 r1 h1 => ⟨v, F1, x, rfl, L1, r1, h1⟩)) fun us s1 ⟨vs, H1, I1, rv, v, F1, d, ev, L1, r1, h1⟩ => ?_) he' hpl rfl rfl
  subst ev
  show wpAny _ _ (evalAll [do let v ← eval (.Lambda params _ scope lpos) X.env; standAt pos; pure v]) _ _ s1
  have hfree : ∀ z ∈ scope.names, z.2 = .free → ∃ c, X.env.cells.lookup z.1 = some c := fun z hz e => I1.ok.has _ (.inl (Lk.ny z hz e))
  refine wpAny_evalAll_cons (wpAny_bind (LamX.lam_make2 I1 TB hcode hmT hu L1.tabs hdef hfree fun f c' pm' ctv H2 s2 I2 eN T2 hf hfn hfr hco => wpAny_bind (wpAny_standAt (wpAny_pure (wpAny_evalAll_nil ?_)))))
  have hT0 : T ≠ [] := fun z => by rw [z] at hmT; cases hmT
  have st1 : Step T F1 H1 F1 H2 := by
    refine ⟨.refl F1, ⟨fun a o e => eN a o (L1.sub a o e) fun ps z => L1.gd.ntb a ps (by rw [← z]; exact e), T2, L1.gd.ntb⟩, fun a o n e c => eN a o e (c.resolve_left hT0), fun a o n e v => ⟨n, ?_⟩⟩
    rcases v with v | v | ⟨q, v⟩
    · exact (hT0 v).elim
    · exact ⟨o, eN a o e v, .inr (.inl v)⟩
    · obtain ⟨ps, e1, _⟩ := T2 _ v
      exact ⟨_, e1, .inr (.inr ⟨q, v⟩)⟩
  have L2 := L1.step st1
  have h2 := PostE.shift h1 st1
  unfold srtKR at h2
  split at h2
  · rename_i xs hv eδ
    obtain ⟨hh, h3⟩ := PostE.ite h2
    cases ei : intsO xs with
    | none => rw [ei] at h3; exact h3.elim
    | some ns =>
      rw [ei] at h3
      obtain ⟨a, vs', rfl, e1, rr⟩ := r1.lst_inv
      have exs := ints_eq ei
      subst exs
      have evs := RpL.ints rr
      subst evs
      obtain ⟨ov, es, v, ev, rvv⟩ := L2.slot i _ eδ
      subst ev
      cases rvv
      have eus := Vals.ref1 rv
      subst eus
      obtain ⟨its, rI, ht, hz⟩ := I2.list (.of (L2.sub _ _ e1))
      have hlen : its.length = ns.length := by rw [← rI.length, List.length_map]
      have hr2 : X.A.in1.in1.depth < recursionLimit := by have := hr.dp; show X.A.depth < recursionLimit; omega
      show wpAny _ _ (call (.builtin "sorted") [.ref a] [(Str.ofString "key", .ref f)]) _ _ s2
      refine PySem.W.sorted_key_data (b := false) (vs := its) (bs := ns) (R := fun v n => ∃ t, v = .int n t) (fun n => .int (kyI hv n)) ht.isList (each_ints rI) (PySem.W.AllAlike.of fun _ _ => rfl) (.inr fun d hd => ?_) (by rw [List.length_map] at hz; exact hz) (fun n _ => ?_) (ksk_s1 _ _) (fun _ => ksk_l1 _ _) (fun _ => ksk_t1 _ _)
        (fun v n hR _ h tk kp => key_turn I2 Lk hf hco hN es hh.1 ?_ hr2 hbind hdx hdy hcd v n hR h tk kp) fun out cc h' tk kp fresh hD hlo eo => ?_
      · obtain ⟨n, _, rfl⟩ := List.mem_map.mp hd
        exact ⟨(by intro z; cases z), (by intro xs z; cases z)⟩
      · have := hr.un
        show X.A.units + 2 + 0 < cLine
        omega
      · exact wide_div (i := 0) hh.1 (b := 200) (by have := hh.1; have := hh.2; omega) (by decide) (by decide)
      · rw [PySem.W.dataLe_int, sort2 (ky_two hv)] at eo
        have st2 := Step.new (o := .lst ((ns.filter (fun n => kyI hv n == 0) ++ ns.filter (fun n => kyI hv n == 1)).map V.int)) L2.gd (I2.hok.fresh (Nat.le_succ _))
        refine ⟨.ref _, _, I2.laid (t' := tk) (o := .lst ((ns.filter (fun n => kyI hv n == 0) ++ ns.filter (fun n => kyI hv n == 1)).map V.int)) kp (Nat.le_succ _) ⟨?_, out, cc, vals_each eo, hD⟩, rfl, h3 _ _ _ st2 (RpL.lst upd_same (RpL.of_ints _))⟩
        rw [List.length_map, ← eo.length, hlo]
        rw [List.length_map] at hz
        exact hz
  · exact h2.elim
end
end Dn


set_option Elab.async false
set_option linter.all false
set_option maxRecDepth 100000
set_option maxHeartbeats 4000000
namespace Dn
open PySem PySem.Spec PyProof.Rows L2
/-! ### defs that hold lambdas -/
structure Lm (base : Heap) (mg : Str → Option Value) (T : List (Addr × Str)) (c P' : Addr) (q : Str) : Prop where
  TB : LamX.TabB base mg c P'
  hm : (P', q) ∈ T
  hu : ∀ p ∈ T, p.1 = P' → p.2 = q
def lamQ (x : Str) : Str := (x ++ ".<locals>.") ++ "<lambda>"
/-- a def at f with its code object at c and its table at P' -/
structure FnL (K : PySem.W.Frag) (mg : Str → Option Value) (base : Heap) (T : List (Addr × Str)) (x : Str) (st : Stmt) (ps : List Str) (f c P' : Addr) (oc : Value) (od an : Option Addr) (osl : Array (Option Value)) (kV doc pm ct : Value) : Prop where
  lk : K.lookup f = some ⟨oc, od, .func (PySem.W.fnOf x x (defArgs st) (defBody st) (defScope st) .none kV doc pm an (.ref c) ct), osl⟩
  cd : PySem.W.codeIn K (.ref c) x = true
  kp : PySem.W.keepIn K (.ref f) = true
  b : L2.Binds K (PySem.W.fnOf x x (defArgs st) (defBody st) (defScope st) .none kV doc pm an (.ref c) ct) ps []
  g : mg x = some (.ref f)
  m : Lm base mg T c P' (lamQ x)
def FnLam (K : PySem.W.Frag) (mg : Str → Option Value) (base : Heap) (T : List (Addr × Str)) (x : Str) (st : Stmt) (ps : List Str) : Prop :=
  ∃ f c P' oc od an osl kV doc pm ct, FnL K mg base T x st ps f c P' oc od an osl kV doc pm ct
section
variable {P : Program} {w : World} {K : PySem.W.Frag} {mg : Str → Option Value} {base : Heap} {T : List (Addr × Str)}
theorem fnQ {x : Str} {st : Stmt} {N ps : List Str} {k : Nat} {fb : Sto → Out} (n m : Nat) (Fn : FnLam K mg base T x st ps) (S : FnScope N ps (defScope st)) (hps : ps.length = n) (hN : N.length = n + m)
    (hbody : ∀ (f c P' : Addr), Lm base mg T c P' (lamQ x) → ∀ (A : Around) (outer : List Env) (s : Shared) (H : Hp) (E : XK), Room k (A.deeper (envOfC x (defScope st) s.heap.objs.size f (.ref c))) →
      DSs T (cxOf (L2N.CX P w) P w K mg base N x (defScope st) f (.ref c) A outer s H E) (fun c H => E (clsOf mg c) none H) (defBody st) fb) : FnQ P w K mg base T (k + 1) x ps (runF n m fb) := by
  obtain ⟨f, c, P', oc, od, an, osl, kV, doc, pm, ct, L⟩ := Fn
  exact ⟨f, _, fnL n m L.lk L.cd S hps hN (hbody f c P' L.m), L.kp, L.b, L.g⟩
/-- a def without lambdas of its own that calls such -/
theorem fnV {x : Str} {st : Stmt} {N ps : List Str} {k : Nat} {fb : Sto → Out} (n m : Nat) (Fn : FnT K mg x st ps) (S : FnScope N ps (defScope st)) (hps : ps.length = n) (hN : N.length = n + m)
    (hbody : ∀ (f : Addr) (cdv : Value) (A : Around) (outer : List Env) (s : Shared) (H : Hp) (E : XK), Room k (A.deeper (envOfC x (defScope st) s.heap.objs.size f cdv)) →
      DSs T (cxOf (L2N.CX P w) P w K mg base N x (defScope st) f cdv A outer s H E) (fun c H => E (clsOf mg c) none H) (defBody st) fb) : FnQ P w K mg base T (k + 1) x ps (runF n m fb) := by
  obtain ⟨f, fd, F, b, g⟩ := Fn
  obtain ⟨oc, od, kV, doc, pm, an, cdv, ct, osl, efd, lk, hcd⟩ := F.ex
  subst efd
  exact ⟨f, _, fnL n m lk hcd S hps hN (hbody f cdv), F.kp, b, g⟩
end
/-! ### the end with many tables -/
theorem walk_ofOwns {l : PySem.W.OpenLaw} {n k : Nat} {q : Program} {loose : List Str} {XP : (Str → Option Value) → Heap → Prop} {YP : World → Heap → Prop} {d : DefRec} {K : Params → PySem.W.Frag} {CX : World → CXT} {x : Str} (xs : List Str)
    (hn : l.most = some n) (hn2 : n ≤ sizeLine) (hdf : d.params.defaults = []) (hr : Room k callerA) (hrec : (xs.all fun y => (recsOf q).any fun e => e.name == y) = true) (hY : ∀ (w : World) (h : Heap), YP w h → (K w.params).In h)
    (F : ∀ (w : World) (mg : Str → Option Value) (fa : Addr) (h : Heap), YP w h → (K w.params).In h → h.Ns mainGlobals mg → mg d.name = some (.ref fa) → (∀ y ∈ xs, ∀ fa', mg y = some (.ref fa') → LamX.OwnTab (K w.params) fa' h) → LamX.LawAtS l w (K w.params) (CX w) k n x mg fa h)
    (hCX : ∀ (w : World) (H : Hp) (s : Shared) (e : Value) (s' : Shared), CX w [] H s (fun _ _ _ => False) e s' → False) :
    PySem.W.WalkO q loose XP YP l.row.toRowW d [] (fun f vs => PySem.call f vs) := by
  refine Att.attach_callB hn hdf fun w s₀ s₁ mg mb fa o pm cd doc a vs ns G Y ho hd hcd hmg hobj hints hlen hbits hg => ?_
  have KX := hY w _ Y
  have own : ∀ y ∈ xs, ∀ fa', mg y = some (.ref fa') → LamX.OwnTab (K w.params) fa' s₁.heap := fun y hy fa' hfa' c P o1 fd1 e dd vs1 sl k1 k2 k3 k4 k5 => by
    obtain ⟨dL, hm, hn1⟩ := List.any_eq_true.mp (List.all_eq_true.mp hrec y hy)
    have hn2 : dL.name = y := beq_iff_eq.mp hn1
    obtain ⟨a', o', fd', c', P', h1, h2, h3, h4, h5, h6⟩ := G.T.tab dL hm
    rw [hn2, hfa'] at h1
    cases h1
    have g1 := KX _ _ k1
    rw [g1] at h2
    cases h2
    rw [k2] at h3
    cases h3
    rw [k3] at h4
    cases h4
    obtain ⟨⟨oc, vc, e1, _, e3, e4⟩, hP⟩ := h6
    have g2 := KX _ _ k4
    rw [g2] at e1
    cases e1
    cases e3
    rw [k5] at e4
    cases e4
    exact hP
  obtain ⟨fd, cs, sp, hT, nT, C, hb, hsp, hF⟩ := F w mg fa _ Y KX G.T.g hmg own
  exact LamX.law_callTs KX G.T.g G.T.b G.T.builtins G.T.nolimit hg hT nT C G.T.bmain hobj hints (Nat.le_trans hlen hn2) hr hF hb (fun H hH hS => hsp H a ns hlen hbits hH hS) fun H e s' => hCX w H s₁ e s'
/-- a table of a def, as the written part tells it -/
structure TabK (K : PySem.W.Frag) (h : Heap) (c P' : Addr) : Prop where
  e : h.get? P' = some { cls := .none, data := .fields #[] }
  n : K.lookup P' = none
  c : PySem.W.CodeHd h c P'
theorem tabK_mk {K : PySem.W.Frag} {h : Heap} {mg : Str → Option Value} {x : Str} {st : Stmt} {f c P' : Addr} {oc : Value} {od an : Option Addr} {osl : Array (Option Value)} {kV doc pm ct : Value} {e : Value} {dd : Option Addr} {vs : Array Value} {sl : Array (Option Value)}
    (X : K.In h) (own : LamX.OwnTab K f h) (lk : K.lookup f = some ⟨oc, od, .func (PySem.W.fnOf x x (defArgs st) (defBody st) (defScope st) .none kV doc pm an (.ref c) ct), osl⟩)
    (lc : K.lookup c = some ⟨e, dd, .fields vs, sl⟩) (h11 : vs[11]? = some (.ref P')) (hd : PySem.W.codeHdIn K c P' = true) (np : K.lookup P' = none) : TabK K h c P' :=
  ⟨own c P' _ _ _ _ _ _ lk rfl rfl lc h11, np, PySem.W.codeHd_of_K X hd⟩
theorem law_atN {l : PySem.W.OpenLaw} {w : World} {K : PySem.W.Frag} {k : Nat} {mg : Str → Option Value} {fa f : Addr} {h : Heap} {st : Stmt} {cdv : Value} {an : Option Addr} {kV doc pm ct : Value} {d : List D → Res D}
    (cs : List (Addr × Addr)) (T : List (Addr × Str)) (hT : ∀ p ∈ T, ∃ q ∈ cs, q.2 = p.1) (X : K.In h) (G : h.Ns mainGlobals mg) (hfa : mg "law" = some (.ref fa)) (a : PySem.W.nsIn K mainGlobals "law" = some (some (.ref f)))
    (tb : ∀ p ∈ cs, TabK K h p.1 p.2)
    (hb : ∀ (s : Shared) (u : Value), BindsTo s (PySem.W.fnOf "law" "law" (defArgs st) (defBody st) (defScope st) .none kV doc pm an cdv ct) ⟨[u], []⟩ [("script", u)])
    (hm : ∀ ns : List Int, ns.length ≤ 63 → (∀ z ∈ ns, Builtin.Int.intBits z ≤ 1048576) → d [.scr ns] = .ok (.bl true))
    (hF : ∀ base : Heap, K.In base → base.Ns mainGlobals mg → (∀ p ∈ cs, LamX.TabB base mg p.1 p.2) → FnOk l.prog w K mg base (L2N.CX l.prog w) k f (PySem.W.fnOf "law" "law" (defArgs st) (defBody st) (defScope st) .none kV doc pm an cdv ct) ["script"] (spL K mg T d)) :
    LamX.LawAtS l w K (L2N.CX l.prog w) k 63 "script" mg fa h := by
  have e := hfa.symm.trans (PySem.W.mg_of X G a)
  cases e
  refine ⟨_, cs, spL K mg T d, fun p hp => (tb p hp).e, fun p hp => (tb p hp).n, fun p hp => (tb p hp).c, hb, fun H a ns hl hbits hH hS => ?_, fun base KX G' TB => hF base KX G' TB⟩
  refine law_start (fun p hp => ?_) hS (hm ns hl hbits)
  obtain ⟨q, hq, e⟩ := hT p hp
  rw [← e]
  exact hH q hq
theorem lm_mk {base : Heap} {mg : Str → Option Value} {cs : List (Addr × Addr)} {T : List (Addr × Str)} {c P' : Addr} {q : Str} (nd : (T.map (·.1)).Nodup) (TB : ∀ p ∈ cs, LamX.TabB base mg p.1 p.2) (hc : (c, P') ∈ cs) (hT : (P', q) ∈ T) : Lm base mg T c P' q := by
  refine ⟨TB _ hc, hT, fun p hp e => ?_⟩
  have : ∀ {T : List (Addr × Str)}, (T.map (·.1)).Nodup → ∀ {p r : Addr × Str}, p ∈ T → r ∈ T → p.1 = r.1 → p = r := by
    intro T nd
    induction T with
    | nil => intro p r hp; cases hp
    | cons t T ih =>
      intro p r hp hr e
      rw [List.map_cons, List.nodup_cons] at nd
      rcases List.mem_cons.mp hp with e1 | hp'
      · rcases List.mem_cons.mp hr with e2 | hr'
        · rw [e1, e2]
        · exact (nd.1 (List.mem_map.mpr ⟨r, hr', by rw [← e, e1]⟩)).elim
      · rcases List.mem_cons.mp hr with e2 | hr'
        · exact (nd.1 (List.mem_map.mpr ⟨p, hp', by rw [e, e2]⟩)).elim
        · exact ih nd.2 hp' hr' e
  have := this nd hp hT e
  rw [this]
end Dn


set_option Elab.async false
set_option linter.all false
set_option maxRecDepth 100000
set_option maxHeartbeats 4000000
namespace Dn
open PySem PySem.Spec PyProof.Rows L2
section
variable {T : List (Addr × Str)} {X : Cx} {W : Wi} {K : PySem.W.Frag} {mg : Str → Option Value}
/-! ### in, not in: a sign in a text, a flat thing in a list -/
def inA (x : D) : D → Res D
  | .lst ds => if flatD x = true ∧ ds.all flatD = true then .ok (.bl (ds.any fun y => eqFD y x)) else .stuck
  | y => inD x y
def ninA (x : D) : D → Res D
  | .lst ds => if flatD x = true ∧ ds.all flatD = true then .ok (.bl (!(ds.any fun y => eqFD y x))) else .stuck
  | y => ninD x y
theorem inV_rp {F : Hp} {v : V} {x : D} (rv : Rp K mg F v x) (hx : flatD x = true) : ∀ {us : List V} {ds : List D}, RpL K mg F us ds → ds.all flatD = true → inV v us = ds.any fun y => eqFD y x
  | _, _, .nil, _ => rfl
  | _, _, .cons r t, h => by
    rw [List.all_cons, Bool.and_eq_true] at h
    show (eqV _ v || inV v _) = (eqFD _ x || _)
    rw [inV_rp rv hx t h.2, eqF_rp r rv h.1 hx]
theorem r_inA {neg : Bool} {g : D → D → Res D} (hg : ∀ x ds, g x (.lst ds) = if flatD x = true ∧ ds.all flatD = true then .ok (.bl (if neg then !(ds.any fun y => eqFD y x) else ds.any fun y => eqFD y x)) else .stuck) {F H : Hp} {v u : V} {x : D} {ds : List D} {W : Wi} {Q : VK} (gd : Gd T F H) (rv : Rp K mg F v x) (ru : Rp K mg F u (.lst ds)) (h : PostE K mg T F H W Q (g x (.lst ds))) : rIn K neg v u H Q := by
  rw [hg] at h
  obtain ⟨⟨h1, h2⟩, h3⟩ := PostE.ite h
  obtain ⟨p, us, rfl, e1, q⟩ := ru.lst_inv
  refine ⟨p, us, rfl, .inl (.of (gd.sub _ _ e1)), flat_rp rv h1, all_flat q h2, ?_⟩
  rw [inV_rp rv h1 q h2]
  exact h3.here gd (.bl _)
theorem op_inA : OpR X (compareOp .In) (fun x y H Q => (∃ (c : Nat) (z : Str), x = .str ⟨#[c]⟩ ∧ y = .str z ∧ Q (.bl (decide (c ∈ z.cps.toList))) H) ∨ rIn X.K false x y H Q) := op_in_sign.or op_in_seq
theorem op_ninA : OpR X (compareOp .NotIn) (fun x y H Q => (∃ (c : Nat) (z : Str), x = .str ⟨#[c]⟩ ∧ y = .str z ∧ Q (.bl (!decide (c ∈ z.cps.toList))) H) ∨ rIn X.K true x y H Q) := op_notIn_sign.or op_notIn_seq
theorem r_inB : R2D K mg T (fun x y H Q => (∃ (c : Nat) (z : Str), x = .str ⟨#[c]⟩ ∧ y = .str z ∧ Q (.bl (decide (c ∈ z.cps.toList))) H) ∨ rIn K false x y H Q) inA := by
  intro F H v u x y W Q gd rv ru h
  cases y with
  | lst ds => exact .inr (r_inA (neg := false) (g := inA) (fun x ds => rfl) gd rv ru h)
  | _ => exact .inl (r_in F H v u x _ W Q gd rv ru h)
theorem r_ninB : R2D K mg T (fun x y H Q => (∃ (c : Nat) (z : Str), x = .str ⟨#[c]⟩ ∧ y = .str z ∧ Q (.bl (!decide (c ∈ z.cps.toList))) H) ∨ rIn K true x y H Q) ninA := by
  intro F H v u x y W Q gd rv ru h
  cases y with
  | lst ds => exact .inr (r_inA (neg := true) (g := ninA) (fun x ds => rfl) gd rv ru h)
  | _ => exact .inl (r_nin F H v u x _ W Q gd rv ru h)
/-! ### a, b, c, d = e -/
def tgU4 (i j k l : Nat) : D → Sto → Option Sto
  | .tup [a, b, c, d], δ => some ((((δ.set i (.val a)).set j (.val b)).set k (.val c)).set l (.val d))
  | _, _ => none
theorem RpL.four {F : Hp} {vs : List V} {a b c d : D} (r : RpL K mg F vs [a, b, c, d]) : ∃ v1 v2 v3 v4, vs = [v1, v2, v3, v4] ∧ Rp K mg F v1 a ∧ Rp K mg F v2 b ∧ Rp K mg F v3 c ∧ Rp K mg F v4 d := by
  cases r with
  | cons r1 t =>
    cases t with
    | cons r2 t =>
      obtain ⟨v3, v4, rfl, r3, r4⟩ := RpL.two t
      exact ⟨_, _, _, _, rfl, r1, r2, r3, r4⟩
theorem ds_unp4 {x1 x2 x3 x4 : Str} {e : Expr} {fe : Sto → Res D} {kk : Nat} {p1 p2 p3 p4 tpos pos : Pos} (i j k l : Nat) (hN : X.N.Nodup) (hc : X.calm = true) (he : DE T X W e fe) (hi : X.N[i]? = some x1 := by rfl) (hx : L2.Loc X.env.scope x1 := by first | exact Or.inl rfl | exact Or.inr rfl) (hj : X.N[j]? = some x2 := by rfl) (hy : L2.Loc X.env.scope x2 := by first | exact Or.inl rfl | exact Or.inr rfl)
    (hk : X.N[k]? = some x3 := by rfl) (hz : L2.Loc X.env.scope x3 := by first | exact Or.inl rfl | exact Or.inr rfl) (hl : X.N[l]? = some x4 := by rfl) (hw' : L2.Loc X.env.scope x4 := by first | exact Or.inl rfl | exact Or.inr rfl)
    (hf : X.fn x1 = true ∨ X.env.scope.names.lookup x1 = some .local := by first | exact .inl rfl | exact .inr rfl | assumption) (hf2 : X.fn x2 = true ∨ X.env.scope.names.lookup x2 = some .local := by first | exact .inl rfl | exact .inr rfl | assumption)
    (hf3 : X.fn x3 = true ∨ X.env.scope.names.lookup x3 = some .local := by first | exact .inl rfl | exact .inr rfl | assumption) (hf4 : X.fn x4 = true ∨ X.env.scope.names.lookup x4 = some .local := by first | exact .inl rfl | exact .inr rfl | assumption)
    (hs1 : (assignEach ((.Name x1 p1) :: [.Name x2 p2, .Name x3 p3, .Name x4 p4]) X.env).map (·.2) = assign (.Name x1 p1) X.env :: (assignEach [.Name x2 p2, .Name x3 p3, .Name x4 p4] X.env).map (·.2) := by rfl) (hs2 : (assignEach ((.Name x2 p2) :: [.Name x3 p3, .Name x4 p4]) X.env).map (·.2) = assign (.Name x2 p2) X.env :: (assignEach [.Name x3 p3, .Name x4 p4] X.env).map (·.2) := by rfl)
    (hs3 : (assignEach ((.Name x3 p3) :: [.Name x4 p4]) X.env).map (·.2) = assign (.Name x3 p3) X.env :: (assignEach [.Name x4 p4] X.env).map (·.2) := by rfl) (hs4 : (assignEach ((.Name x4 p4) :: []) X.env).map (·.2) = assign (.Name x4 p4) X.env :: (assignEach [] X.env).map (·.2) := by rfl)
    (hn : (assignEach [.Name x1 p1, .Name x2 p2, .Name x3 p3, .Name x4 p4] X.env).length = 4 := by rfl) (hst : (assignEach [.Name x1 p1, .Name x2 p2, .Name x3 p3, .Name x4 p4] X.env).findIdx? (·.1) = none := by rfl)
    (hs5 : swapsWithSole [.Tuple [.Name x1 p1, .Name x2 p2, .Name x3 p3, .Name x4 p4] kk tpos] e pos.line X.env = pure false := by rfl) (hw : swappedStores [.Tuple [.Name x1 p1, .Name x2 p2, .Name x3 p3, .Name x4 p4] kk tpos] e X.env = pure none := by rfl)
    (h1 : (assignEach [.Tuple [.Name x1 p1, .Name x2 p2, .Name x3 p3, .Name x4 p4] kk tpos] X.env).map (·.2) = [assign (.Tuple [.Name x1 p1, .Name x2 p2, .Name x3 p3, .Name x4 p4] kk tpos) X.env] := by rfl) :
    DS T X W (.Assign [.Tuple [.Name x1 p1, .Name x2 p2, .Name x3 p3, .Name x4 p4] kk tpos] e pos) (asgU (tgU4 i j k l) fe) :=
  weakS (ps_asg he (pg_tup hc (pgs_cons (pg_name (i := i) hN hi hx hf) (pgs_cons (pg_name (i := j) hN hj hy hf2) (pgs_cons (pg_name (i := k) hN hk hz hf3) (pgs_cons (pg_name (i := l) hN hl hw' hf4) pgs_nil hs4) hs3) hs2) hs1) hn hst) hs5 hw h1) fun D' σ H ⟨F0, H0, F, δ, S, h⟩ => by
    refine outE S h fun d v F1 H1 r1 S1 rd h1 => ?_
    unfold tgU4 at h1
    split at h1
    · rename_i δ' z
      split at z
      · cases z
        obtain ⟨p, vs, rfl, e1, q⟩ := rd.tup_inv
        obtain ⟨v1, v2, v3, v4, rfl, r1, r2, r3, r4⟩ := RpL.four q
        exact ⟨p, [v1, v2, v3, v4], rfl, .of (S1.loc.sub _ _ e1), rfl, v1, [v2, v3, v4], rfl, v2, [v3, v4], rfl, v3, [v4], rfl, v4, [], rfl, rfl, h1 _ F1 H1 (.refl F1) ((((S1.setVal r1).setVal r2).setVal r3).setVal r4)⟩
      · cases z
    · exact h1.elim
@[simp] theorem tgU4_tup {i j k l : Nat} {a b c d : D} {δ : Sto} : tgU4 i j k l (.tup [a, b, c, d]) δ = some ((((δ.set i (.val a)).set j (.val b)).set k (.val c)).set l (.val d)) := nrfl rfl
end
end Dn


set_option Elab.async false
set_option linter.all false
set_option maxRecDepth 100000
set_option maxHeartbeats 4000000
namespace Dn
open PySem PySem.Spec PyProof.Rows L2
/-! ### heaps that are joined, two by two -/
abbrev Hf := Int × Nat × List Nat
def ltH (x y : Hf) : Bool := SrtO.lexB (x.1, (x.2.1 : Int)) (y.1, (y.2.1 : Int))
def hD (h : Hf) : D := .tup [.int h.1, .int (h.2.1 : Int), .lst (h.2.2.map fun (i : Nat) => .int (i : Int))]
theorem k2_hD (h : Hf) : k2 (hD h) = (h.1, (h.2.1 : Int)) := rfl
theorem lt_hD (x y : Hf) : lt2D (hD x) (hD y) = ltH x y := rfl
def joinH (a b : Hf) : Hf := (a.1 + b.1, min a.2.1 b.2.1, a.2.2 ++ b.2.2)
def hcost : Nat → List Hf → Int
  | 0, _ => 0
  | n + 1, hs => match srtL ltH hs with
    | a :: b :: r => a.1 + b.1 + hcost n (r ++ [joinH a b])
    | _ => 0
theorem swo_H : SrtO.Swo ltH := by
  refine ⟨fun x y h => ?_, fun x y z h1 h2 => ?_⟩
  · have a := SrtO.lexB_iff.mp h
    refine SrtO.lexB_no.mpr ?_
    simp only at a ⊢
    omega
  · have a := SrtO.lexB_no.mp h1
    have b := SrtO.lexB_no.mp h2
    refine SrtO.lexB_no.mpr ?_
    simp only at a b ⊢
    omega
theorem w_srt (hs : List Hf) : (srtL ltH hs).map Prod.fst = srtL ltI (hs.map Prod.fst) := by
  refine perm_eq (fun a b => Int.le_antisymm) ?_ (srtI_le _) (((srt_perm ltH hs).map Prod.fst).trans (srt_perm ltI _).symm)
  refine List.pairwise_map.mpr ((srt_srtd swo_H hs).imp fun {x y} h => ?_)
  have := SrtO.lexB_no.mp h
  simp only at this
  omega
/-! ### one more for each of some -/
def bump (m : List Nat) (fs : List Nat) : List Nat := m.foldl (fun fs i => fs.set i (fs.getD i 0 + 1)) fs
theorem bump_len : ∀ (m fs : List Nat), (bump m fs).length = fs.length
  | [], fs => rfl
  | i :: m, fs => by
    show (bump m (fs.set i (fs.getD i 0 + 1))).length = _
    rw [bump_len m, List.length_set]
theorem getD_set (fs : List Nat) (i j x : Nat) (h : i < fs.length) : (fs.set i x).getD j 0 = if i = j then x else fs.getD j 0 := by
  rw [List.getD_eq_getElem?_getD, List.getElem?_set]
  by_cases e : i = j
  · subst e
    simp [h]
  · rw [if_neg e, if_neg e, List.getD_eq_getElem?_getD]
theorem bump_get : ∀ (m fs : List Nat), m.Nodup → (∀ i ∈ m, i < fs.length) → ∀ j, (bump m fs).getD j 0 = fs.getD j 0 + if j ∈ m then 1 else 0
  | [], fs, _, _, j => by simp [bump]
  | i :: m, fs, hn, hl, j => by
    show (bump m (fs.set i (fs.getD i 0 + 1))).getD j 0 = _
    obtain ⟨h1, h2⟩ := List.nodup_cons.mp hn
    rw [bump_get m _ h2 (fun k hk => by rw [List.length_set]; exact hl k (List.mem_cons_of_mem _ hk)), getD_set _ _ _ _ (hl i List.mem_cons_self)]
    by_cases e : i = j
    · subst e
      simp [h1]
    · have e' : ¬ j = i := fun z => e z.symm
      simp [e, e']
/-- counts times lengths -/
def wsum : List Int → List Nat → Int
  | c :: cs, f :: fs => c * (f : Int) + wsum cs fs
  | _, _ => 0
theorem wsum_set : ∀ (cs : List Int) (fs : List Nat) (i : Nat), i < fs.length → fs.length = cs.length → wsum cs (fs.set i (fs.getD i 0 + 1)) = wsum cs fs + cs.getD i 0
  | [], [], i, h, _ => by simp at h
  | [], _ :: _, _, _, e => by simp at e
  | _ :: _, [], _, h, _ => by simp at h
  | c :: cs, f :: fs, 0, _, _ => by
    show c * ((f + 1 : Nat) : Int) + wsum cs fs = c * (f : Int) + wsum cs fs + c
    rw [Int.natCast_add, Int.mul_add]
    omega
  | c :: cs, f :: fs, i + 1, h, e => by
    have ih := wsum_set cs fs i (by simpa using h) (by simpa using e)
    show c * (f : Int) + wsum cs (fs.set i (fs.getD i 0 + 1)) = c * (f : Int) + wsum cs fs + cs.getD i 0
    rw [ih]
    omega
theorem bump_cost (cs : List Int) : ∀ (m fs : List Nat), (∀ i ∈ m, i < fs.length) → fs.length = cs.length → wsum cs (bump m fs) = wsum cs fs + (m.map fun i => cs.getD i 0).sum
  | [], fs, _, _ => by simp [bump]
  | i :: m, fs, hl, e => by
    show wsum cs (bump m (fs.set i (fs.getD i 0 + 1))) = _
    rw [bump_cost cs m _ (fun k hk => by rw [List.length_set]; exact hl k (List.mem_cons_of_mem _ hk)) (by rw [List.length_set]; exact e), wsum_set cs fs i (hl i List.mem_cons_self) e, List.map_cons, List.sum_cons]
    omega
theorem wsum_zero : ∀ (cs : List Int) (n : Nat), wsum cs (List.replicate n 0) = 0
  | [], 0 => rfl
  | [], _ + 1 => rfl
  | _ :: _, 0 => rfl
  | c :: cs, n + 1 => by
    show c * ((0 : Nat) : Int) + wsum cs (List.replicate n 0) = 0
    rw [wsum_zero cs n]
    simp
/-! ### what holds of heaps and lengths -/
structure HInv (cs : List Int) (fs : List Nat) (hs : List Hf) : Prop where
  len : fs.length = cs.length
  mem : (hs.map fun h => h.2.2).flatten.Perm (List.range cs.length)
  at_ : ∀ h ∈ hs, h.2.1 ∈ h.2.2
  wt : ∀ h ∈ hs, h.1 = (h.2.2.map fun i => cs.getD i 0).sum
  kr : ∀ h ∈ hs, ∀ M, (∀ i ∈ h.2.2, fs.getD i 0 ≤ M) → (h.2.2.map fun i => 2 ^ (M - fs.getD i 0)).sum = 2 ^ M
  bd : ∀ i, fs.getD i 0 + hs.length ≤ cs.length ∨ fs.getD i 0 = 0
theorem HInv.nodup {cs : List Int} {fs : List Nat} {hs : List Hf} (I : HInv cs fs hs) : (hs.map fun h => h.2.2).flatten.Nodup := I.mem.nodup_iff.mpr List.nodup_range
theorem HInv.perm {cs : List Int} {fs : List Nat} {hs gs : List Hf} (I : HInv cs fs hs) (p : gs.Perm hs) : HInv cs fs gs :=
  ⟨I.len, ((p.map fun h => h.2.2).flatten).trans I.mem, fun h hh => I.at_ h (p.mem_iff.mp hh), fun h hh => I.wt h (p.mem_iff.mp hh), fun h hh => I.kr h (p.mem_iff.mp hh), fun i => by rw [p.length_eq]; exact I.bd i⟩
theorem HInv.lt {cs : List Int} {fs : List Nat} {hs : List Hf} (I : HInv cs fs hs) {h : Hf} (hh : h ∈ hs) {i : Nat} (hi : i ∈ h.2.2) : i < fs.length := by
  have : i ∈ (hs.map fun h => h.2.2).flatten := List.mem_flatten.mpr ⟨_, List.mem_map.mpr ⟨h, hh, rfl⟩, hi⟩
  rw [I.len]
  exact List.mem_range.mp (I.mem.mem_iff.mp this)
theorem HInv.keys {cs : List Int} {fs : List Nat} {hs : List Hf} (I : HInv cs fs hs) : ((hs.map hD).map k2).Nodup := by
  have h1 := (List.pairwise_flatten.mp I.nodup).2
  rw [List.map_map]
  rw [List.pairwise_map] at h1
  refine List.pairwise_map.mpr ?_
  refine (List.Pairwise.and_mem.mp h1).imp fun {x y} h => ?_
  obtain ⟨hx, hy, h⟩ := h
  intro e
  have e2 : ((x.2.1 : Nat) : Int) = ((y.2.1 : Nat) : Int) := congrArg Prod.snd e
  exact h _ (I.at_ x hx) _ (I.at_ y hy) (by omega)
theorem HInv.step {cs : List Int} {fs : List Nat} {a b : Hf} {r : List Hf} (I : HInv cs fs (a :: b :: r)) : HInv cs (bump (a.2.2 ++ b.2.2) fs) (r ++ [joinH a b]) ∧ wsum cs (bump (a.2.2 ++ b.2.2) fs) = wsum cs fs + (a.1 + b.1) := by
  have ha : a ∈ a :: b :: r := List.mem_cons_self
  have hb : b ∈ a :: b :: r := List.mem_cons_of_mem _ List.mem_cons_self
  have hlt : ∀ i ∈ a.2.2 ++ b.2.2, i < fs.length := fun i hi => (List.mem_append.mp hi).elim (I.lt ha) (I.lt hb)
  have nd := I.nodup
  have nd' : (a.2.2 ++ (b.2.2 ++ (r.map fun h => h.2.2).flatten)).Nodup := nd
  have nd1 : (a.2.2 ++ b.2.2).Nodup := by
    rw [← List.append_assoc] at nd'
    exact (List.nodup_append.mp nd').1
  have nd2 : ∀ i ∈ a.2.2 ++ b.2.2, ∀ h ∈ r, i ∉ h.2.2 := fun i hi h hh hn => by
    rw [← List.append_assoc] at nd'
    exact (List.nodup_append.mp nd').2.2 i hi i (List.mem_flatten.mpr ⟨_, List.mem_map.mpr ⟨h, hh, rfl⟩, hn⟩) rfl
  have get := bump_get (a.2.2 ++ b.2.2) fs nd1 hlt
  refine ⟨⟨by rw [bump_len]; exact I.len, ?_, fun h hh => ?_, fun h hh => ?_, fun h hh M hM => ?_, fun i => ?_⟩, ?_⟩
  · refine List.Perm.trans ?_ I.mem
    rw [List.map_append, List.flatten_append]
    show ((r.map fun (h : Hf) => h.2.2).flatten ++ ((a.2.2 ++ b.2.2) ++ [])).Perm (a.2.2 ++ (b.2.2 ++ (r.map fun (h : Hf) => h.2.2).flatten))
    rw [List.append_nil, ← List.append_assoc a.2.2]
    exact List.perm_append_comm
  · rcases List.mem_append.mp hh with hh | hh
    · exact I.at_ h (List.mem_cons_of_mem _ (List.mem_cons_of_mem _ hh))
    · rw [List.mem_singleton.mp hh]
      show min a.2.1 b.2.1 ∈ a.2.2 ++ b.2.2
      rcases (show min a.2.1 b.2.1 = a.2.1 ∨ min a.2.1 b.2.1 = b.2.1 by omega) with e | e
      · rw [e]; exact List.mem_append_left _ (I.at_ a ha)
      · rw [e]; exact List.mem_append_right _ (I.at_ b hb)
  · rcases List.mem_append.mp hh with hh | hh
    · exact I.wt h (List.mem_cons_of_mem _ (List.mem_cons_of_mem _ hh))
    · rw [List.mem_singleton.mp hh]
      show a.1 + b.1 = ((a.2.2 ++ b.2.2).map fun i => cs.getD i 0).sum
      rw [List.map_append, List.sum_append_int, ← I.wt a ha, ← I.wt b hb]
  · rcases List.mem_append.mp hh with hh | hh
    · have same : ∀ i ∈ h.2.2, (bump (a.2.2 ++ b.2.2) fs).getD i 0 = fs.getD i 0 := fun i hi => by
        rw [get, if_neg (fun z => nd2 i z h hh hi)]; rfl
      have := I.kr h (List.mem_cons_of_mem _ (List.mem_cons_of_mem _ hh)) M fun i hi => by rw [← same i hi]; exact hM i hi
      rw [← this]
      exact congrArg List.sum (List.map_congr_left fun i hi => by rw [same i hi])
    · rw [List.mem_singleton.mp hh] at hM ⊢
      have hM' : ∀ i ∈ a.2.2 ++ b.2.2, fs.getD i 0 + 1 ≤ M := fun i hi => by
        have := hM i hi
        rw [get, if_pos hi] at this
        exact this
      have part : ∀ g : Hf, g ∈ a :: b :: r → (∀ i ∈ g.2.2, i ∈ a.2.2 ++ b.2.2) → (g.2.2.map fun i => 2 ^ (M - (bump (a.2.2 ++ b.2.2) fs).getD i 0)).sum = 2 ^ (M - 1) := fun g hg hsub => by
        rw [← I.kr g hg (M - 1) fun i hi => by have := hM' i (hsub i hi); omega]
        refine congrArg List.sum (List.map_congr_left fun i hi => ?_)
        rw [get, if_pos (hsub i hi)]
        congr 1
        omega
      show ((a.2.2 ++ b.2.2).map fun i => 2 ^ (M - (bump (a.2.2 ++ b.2.2) fs).getD i 0)).sum = 2 ^ M
      rw [List.map_append, List.sum_append_nat, part a ha fun i hi => List.mem_append_left _ hi, part b hb fun i hi => List.mem_append_right _ hi]
      have h1 : 1 ≤ M := by
        have := hM' a.2.1 (List.mem_append_left _ (I.at_ a ha))
        omega
      obtain ⟨k, rfl⟩ : ∃ k, M = k + 1 := ⟨M - 1, by omega⟩
      rw [show k + 1 - 1 = k by omega, Nat.pow_succ]
      omega
  · rw [get]
    have hb := I.bd i
    have hl : (r ++ [joinH a b]).length + 1 = (a :: b :: r).length := by simp
    have hz : (a :: b :: r).length ≤ cs.length := by
      have h1 : (a :: b :: r).length ≤ ((a :: b :: r).map fun h => h.2.2).flatten.length := by
        have : ∀ gs : List Hf, (∀ g ∈ gs, g.2.1 ∈ g.2.2) → gs.length ≤ (gs.map fun h => h.2.2).flatten.length := fun gs => by
          induction gs with
          | nil => intro _; exact Nat.zero_le _
          | cons g gs ih =>
            intro h
            have := ih fun g hg => h g (List.mem_cons_of_mem _ hg)
            have h2 : 0 < g.2.2.length := List.length_pos_of_mem (h g List.mem_cons_self)
            rw [List.map_cons, List.flatten_cons, List.length_append, List.length_cons]
            omega
        exact this _ I.at_
      rw [I.mem.length_eq, List.length_range] at h1
      exact h1
    by_cases hi : i ∈ a.2.2 ++ b.2.2
    · rw [if_pos hi]
      left
      omega
    · rw [if_neg hi]
      omega
  · rw [bump_cost cs _ fs hlt I.len, List.map_append, List.sum_append_int, ← I.wt a ha, ← I.wt b hb]
theorem HInv.start (cs : List Int) : HInv cs (List.replicate cs.length 0) (cs.mapIdx fun i c => (c, i, [i])) := by
  have g0 : ∀ i, (List.replicate cs.length 0).getD i 0 = 0 := fun i => by
    rw [List.getD_eq_getElem?_getD]
    by_cases h : i < cs.length <;> simp [List.getElem?_replicate, h]
  refine ⟨by simp, ?_, fun h hh => ?_, fun h hh => ?_, fun h hh M hM => ?_, fun i => .inr (g0 i)⟩
  · have : ((cs.mapIdx fun i c => ((c, i, [i]) : Hf)).map fun h => h.2.2).flatten = List.range cs.length := by
      have e : (cs.mapIdx fun i c => ((c, i, [i]) : Hf)).map (fun h => h.2.2) = (List.range cs.length).map fun i => [i] := by
        apply List.ext_getElem?
        intro j
        simp only [List.getElem?_map, List.getElem?_mapIdx]
        by_cases h : j < cs.length
        · simp [h]
        · simp [List.getElem?_eq_none (Nat.le_of_not_lt h), List.getElem?_range, h]
      rw [e]
      generalize List.range cs.length = l
      induction l with
      | nil => rfl
      | cons x l ih => rw [List.map_cons, List.flatten_cons, ih]; rfl
    rw [this]
  · obtain ⟨i, hi, rfl⟩ := List.mem_mapIdx.mp hh
    exact List.mem_singleton.mpr rfl
  · obtain ⟨i, hi, rfl⟩ := List.mem_mapIdx.mp hh
    simp [hi]
  · obtain ⟨i, hi, rfl⟩ := List.mem_mapIdx.mp hh
    show ([i].map fun j => 2 ^ (M - (List.replicate cs.length 0).getD j 0)).sum = 2 ^ M
    rw [List.map_cons, g0]
    simp
/-- at the end: the lengths just fill -/
theorem HInv.fin {cs : List Int} {fs : List Nat} {h : Hf} (I : HInv cs fs [h]) (M : Nat) (hM : ∀ f ∈ fs, f ≤ M) : (fs.map fun f => 2 ^ (M - f)).sum = 2 ^ M := by
  have p : h.2.2.Perm (List.range cs.length) := by
    have := I.mem
    simpa using this
  have k := I.kr h List.mem_cons_self M fun i hi => by
    have := I.lt List.mem_cons_self hi
    rw [List.getD_eq_getElem?_getD, List.getElem?_eq_getElem this]
    exact hM _ (List.getElem_mem this)
  rw [← k]
  have e : fs.map (fun f => 2 ^ (M - f)) = (List.range cs.length).map fun i => 2 ^ (M - fs.getD i 0) := by
    apply List.ext_getElem?
    intro j
    simp only [List.getElem?_map]
    by_cases h : j < fs.length
    · rw [List.getElem?_range (by rw [← I.len]; exact h), List.getElem?_eq_getElem h]
      simp [h]
    · rw [List.getElem?_eq_none (Nat.le_of_not_lt h), List.getElem?_eq_none (by rw [List.length_range, ← I.len]; exact Nat.le_of_not_lt h)]
      rfl
  rw [e]
  exact ((p.map _).sum_nat).symm
end Dn


set_option Elab.async false
set_option linter.all false
set_option maxRecDepth 100000
set_option maxHeartbeats 4000000
namespace Lw
open PySem PySem.Spec PyProof.Rows L2 Dn
def topS (i : Nat) : Stmt := PySem.Challenge.pw_tersewood_k41_whole_coded.main.body.getD i (.Pass ⟨0, 0, 0, 0⟩)
abbrev s_in_bits : Stmt := topS 10
abbrev s_need_lengths : Stmt := topS 25
abbrev s_words : Stmt := topS 26
abbrev s_is_sign : Stmt := topS 17
abbrev s_need_text : Stmt := topS 18
abbrev s_letters_of : Stmt := topS 19
abbrev s_is_count : Stmt := topS 22
abbrev s_need_counts : Stmt := topS 23
abbrev s_lengths : Stmt := topS 24
abbrev s_coded : Stmt := topS 27
abbrev s_need_bits : Stmt := topS 11
abbrev s_decoded : Stmt := topS 28
abbrev s__law_cell : Stmt := topS 30
abbrev s__law_drawn : Stmt := topS 31
abbrev s__law_word : Stmt := topS 32
abbrev s__law_told : Stmt := topS 33
abbrev s__law_bits : Stmt := topS 35
abbrev s__law_text : Stmt := topS 36
abbrev s__law_least : Stmt := topS 37
abbrev s__law_read : Stmt := topS 38
abbrev s__law_refused_right : Stmt := topS 39
abbrev s_law : Stmt := topS 40
structure Txt (K : PySem.W.Frag) (mg : Str → Option Value) (CT c0 c1 c2 c3 c4 c5 c6 : Addr) : Prop where
  b_range : mg "range" = none
  b_str : mg "str" = none
  b_isinstance : mg "isinstance" = none
  b_int : mg "int" = none
  b_all : mg "all" = none
  b_max : mg "max" = none
  b_sum : mg "sum" = none
  b_len : mg "len" = none
  b_enumerate : mg "enumerate" = none
  b_sorted : mg "sorted" = none
  b_ord : mg "ord" = none
  b_set : mg "set" = none
  b_bool : mg "bool" = none
  b_min : mg "min" = none
  b_list : mg "list" = none
  b_ValueError : mg "ValueError" = none
  b_tuple : mg "tuple" = none
  k_MOST_COUNTS : ∃ t, mg "MOST_COUNTS" = some (.int 94 t)
  k_FIRST : ∃ t, mg "FIRST" = some (.str " " t)
  k_LAST : ∃ t, mg "LAST" = some (.str "~" t)
  k_BARRED : ∃ t, mg "BARRED" = some (.int 37 t)
  k_MOST : ∃ t, mg "MOST" = some (.int 512 t)
  tab : ExcTab K mg CT [c0, c1, c2, c3, c4, c5, c6]
  f_in_bits : FnT K mg "in_bits" s_in_bits ["number", "wide"]
  f_need_lengths : FnT K mg "need_lengths" s_need_lengths ["some"]
  f_words : FnT K mg "words" s_words ["some"]
  f_is_sign : FnT K mg "is_sign" s_is_sign ["thing"]
  f_need_text : FnT K mg "need_text" s_need_text ["text"]
  f_letters_of : FnT K mg "letters_of" s_letters_of ["text"]
  f_is_count : FnT K mg "is_count" s_is_count ["thing"]
  f_need_counts : FnT K mg "need_counts" s_need_counts ["counts"]
  f_lengths : FnT K mg "lengths" s_lengths ["counts"]
  f_coded : FnT K mg "coded" s_coded ["text"]
  f_need_bits : FnT K mg "need_bits" s_need_bits ["bits"]
  f_decoded : FnT K mg "decoded" s_decoded ["letters", "some", "many", "bits"]
  f__law_cell : FnT K mg "_law_cell" s__law_cell ["script", "k"]
  f__law_drawn : FnT K mg "_law_drawn" s__law_drawn ["cell", "k"]
  f__law_word : FnT K mg "_law_word" s__law_word ["e"]
  f__law_told : FnT K mg "_law_told" s__law_told ["deed"]
  f__law_bits : FnT K mg "_law_bits" s__law_bits ["number", "wide"]
  f__law_text : FnT K mg "_law_text" s__law_text ["more", "most"]
  f__law_least : FnT K mg "_law_least" s__law_least ["counts"]
  f__law_read : FnT K mg "_law_read" s__law_read ["letters", "row", "many", "bits"]
structure Lms (K : PySem.W.Frag) (mg : Str → Option Value) (base : Heap) (T : List (Addr × Str)) : Prop where
  l__law_refused_right : FnLam K mg base T "_law_refused_right" s__law_refused_right ["letters", "some", "many", "bits"]
section
variable {P : Program} {w : World} {K : PySem.W.Frag} {mg : Str → Option Value} {base : Heap} {CT c0 c1 c2 c3 c4 c5 c6 : Addr}
/-! ### in_bits -/
theorem sc_in_bits : FnScope ["number", "wide", "found", "turn"] ["number", "wide"] (defScope s_in_bits) := ⟨rfl, rfl, rfl, by decide +kernel, rfl, by decide +kernel, by decide +kernel⟩
def b_in_bits : Sto → Out := seqS (asg 2 (cst (.str [])))
  (seqS (forF (rngA asRng1 (consA (vr 1) (nilA))) (tgN 3) (seqS (asg 2 (bin addD (app strD (consA (bin modD (vr 0) (cst (.int 2))) (nilA))) (vr 2)))
  (asg 0 (bin fdivD (vr 0) (cst (.int 2))))))
  (retS (vr 2)))
def d_in_bits : List D → Res D := runF 2 2 b_in_bits
theorem ok_in_bits (tx : Txt K mg CT c0 c1 c2 c3 c4 c5 c6) : FnP P w K mg base 1 "in_bits" ["number", "wide"] d_in_bits := fnP 2 2 tx.f_in_bits sc_in_bits rfl rfl (fun f cdv A outer s H E hr => dss_cons (ds_set 2 sc_in_bits.nd (de_str))
  (dss_cons (ds_for (passes_of rfl) rfl (di_range1 tx.b_range (da_cons (de_var 1) (da_nil))) (dg_name 3 sc_in_bits.nd) (dss_cons (ds_set 2 sc_in_bits.nd (de_op op_addA r_add (de_callTy call_str_int rc_str tx.b_str (by decide +kernel) (da_cons (de_op op_mod r_mod (de_var 0) (de_int)) (da_nil))) (de_var 2)))
  (dss_one (ds_set 0 sc_in_bits.nd (de_op op_fdivW r_fdiv (de_var 0) (de_int))))))
  (dss_one (ds_ret (de_var 2)))))
/-! ### need_lengths -/
theorem sc_need_lengths : FnScope ["some", "most", "one"] ["some"] (defScope s_need_lengths) := ⟨rfl, rfl, rfl, by decide +kernel, rfl, by decide +kernel, by decide +kernel⟩
def b_need_lengths : Sto → Out := seqS (ifS (orT (tst (bin eqD (vr 0) (app mkL (nilA)))) (notT (tst (app allD (consA (lstE (lcF (itS (vr 0)) (tgN 2) [2] (yes) (andV (un isID (vr 2)) (chn leD leD (cst (.int 0)) (vr 2) (cst (.int (94))))))) (nilA)))))) (rais "BadCode") (nopS))
  (seqS (asg 1 (app maxD (consA (vr 0) (nilA))))
  (ifS (tst (bin neD (app sumD (consA (lstE (lcF (itS (vr 0)) (tgN 2) [2] (yes) (bin shlD (cst (.int 1)) (bin subD (vr 1) (vr 2))))) (nilA))) (bin shlD (cst (.int 1)) (vr 1)))) (rais "BadCode") (nopS)))
def d_need_lengths : List D → Res D := runF 1 2 b_need_lengths
theorem ok_need_lengths (tx : Txt K mg CT c0 c1 c2 c3 c4 c5 c6) : FnP P w K mg base 1 "need_lengths" ["some"] d_need_lengths := fnP 1 2 tx.f_need_lengths sc_need_lengths rfl rfl (fun f cdv A outer s H E hr => dss_cons (ds_if (dw_pt (dw_or (dt_cmp (op_eqA hr.units) r_eq (de_var 0) (de_lst (da_nil)) (nomark _)) (dw_or1 (dt_not (dt_val (de_callB (cr_all rfl) rc_all tx.b_all (by decide +kernel) (da_cons (dl_de (dl_lc (own := [("one", 2)]) rfl sc_need_lengths.nd (di_seq (de_var 0)) (blkOk_by (by kernel_rfl)) (tgok_name 2) (fun _ _ _ _ _ => pg_name (i := 2) sc_need_lengths.nd rfl (by first | exact Or.inl rfl | exact Or.inr rfl)) (fun _ _ _ _ _ => dts_nil) (fun _ _ _ _ _ => de_and (de_isI (de_var 2) tx.b_isinstance tx.b_int) (de_one (de_chn op_le r_le op_le r_le (de_int) (de_var 2) (de_gintE tx.k_MOST_COUNTS)))))) (da_nil)))))))) (dss_one (ds_raiseT tx.tab (i := 4) rfl rfl tk_def)) (dss_nil))
  (dss_cons (ds_set 1 sc_need_lengths.nd (de_callB (cr_max rfl) rc_max tx.b_max (by decide +kernel) (da_cons (de_var 0) (da_nil))))
  (dss_one (ds_if (dt_cmp (op_neA hr.units) r_ne (de_callB (cr_sum rfl) rc_sum tx.b_sum (by decide +kernel) (da_cons (dl_de (dl_lc (own := [("one", 2)]) rfl sc_need_lengths.nd (di_seq (de_var 0)) (blkOk_by (by kernel_rfl)) (tgok_name 2) (fun _ _ _ _ _ => pg_name (i := 2) sc_need_lengths.nd rfl (by first | exact Or.inl rfl | exact Or.inr rfl)) (fun _ _ _ _ _ => dts_nil) (fun _ _ _ _ _ => de_op op_shlW r_shl (de_int) (de_op op_sub r_sub (de_var 1) (de_var 2))))) (da_nil))) (de_op op_shlW r_shl (de_int) (de_var 1)) (nomark _)) (dss_one (ds_raiseT tx.tab (i := 4) rfl rfl tk_def)) (dss_nil)))))
/-! ### words -/
theorem sc_words : FnScope ["some", "found", "number", "wide", "one", "at"] ["some"] (defScope s_words) := ⟨rfl, rfl, rfl, by decide +kernel, rfl, by decide +kernel, by decide +kernel⟩
def lp_words_1 : Sto → Out := seqS (asg 2 (bin shlD (vr 2) (bin subD (vr 4) (vr 3))))
  (seqS (asg 3 (vr 4))
  (seqS (stoS 1 (vr 5) (app d_in_bits (consA (vr 2) (consA (vr 3) (nilA)))))
  (asg 2 (bin addD (vr 2) (cst (.int 1))))))
def b_words : Sto → Out := seqS (drp (app d_need_lengths (consA (vr 0) (nilA))))
  (seqS (asgN 1 (binN mulN (app mkL (consA (cst (.str [])) (nilA))) (app lenD (consA (vr 0) (nilA)))))
  (seqS (asg 2 (cst (.int 0)))
  (seqS (asg 3 (cst (.int 0)))
  (seqS (forF (itS (app sortedD (consA (lstE (lcF (rngA enumA (consA (vr 0) (nilA))) (tgP 5 4) [5, 4] (yes) (app mkT (consA (vr 4) (consA (vr 5) (nilA)))))) (nilA)))) (tgP 4 5) (lp_words_1))
  (frzS 1 (retS (vr 1)))))))
def d_words : List D → Res D := runF 1 5 b_words
theorem ok_words (tx : Txt K mg CT c0 c1 c2 c3 c4 c5 c6) : FnP P w K mg base 2 "words" ["some"] d_words := fnP 1 5 tx.f_words sc_words rfl rfl (fun f cdv A outer s H E hr => dss_cons (ds_expr (de_callP (ok_need_lengths tx) (hr.mono (by decide)) tk_def (da_cons (de_var 0) (da_nil))))
  (dss_cons (ds_setN 1 sc_words.nd (dl_rep (de_lst (da_cons (de_str) (da_nil))) (de_callB call_len rc_len tx.b_len PySem.boot_len (da_cons (de_var 0) (da_nil)))))
  (dss_cons (ds_set 2 sc_words.nd (de_int))
  (dss_cons (ds_set 3 sc_words.nd (de_int))
  (dss_cons (ds_for (passes_of rfl) rfl (di_seq (de_callB cr_sortedA rc_sorted tx.b_sorted (by decide +kernel) (da_cons (dl_de (dl_lc (own := [("at", 5), ("one", 4)]) rfl sc_words.nd (di_enumA tx.b_enumerate (da_cons (de_var 0) (da_nil))) (blkOk_by (by kernel_rfl)) (tgok_pair (i := 5) (j := 4) (by decide)) (fun _ _ _ _ _ => pg_tup rfl (pgs_cons (pg_name (i := 5) sc_words.nd rfl (by first | exact Or.inl rfl | exact Or.inr rfl)) (pgs_cons (pg_name (i := 4) sc_words.nd rfl (by first | exact Or.inl rfl | exact Or.inr rfl)) pgs_nil))) (fun _ _ _ _ _ => dts_nil) (fun _ _ _ _ _ => de_tup (da_cons (de_var 4) (da_cons (de_var 5) (da_nil)))))) (da_nil)))) (dg_pair 4 5 sc_words.nd rfl) (dss_cons (ds_set 2 sc_words.nd (de_op op_shlW r_shl (de_var 2) (de_op op_sub r_sub (de_var 4) (de_var 3))))
  (dss_cons (ds_set 3 sc_words.nd (de_var 4))
  (dss_cons (ds_sto 1 (de_callP (ok_in_bits tx) (hr.mono (by decide)) tk_def (da_cons (de_var 2) (da_cons (de_var 3) (da_nil)))) (de_var 5))
  (dss_one (ds_set 2 sc_words.nd (de_op op_addA r_add (de_var 2) (de_int))))))))
  (dss_one (ds_frz 1 (ds_ret (de_var 1)))))))))
/-! ### is_sign -/
theorem sc_is_sign : FnScope ["thing"] ["thing"] (defScope s_is_sign) := ⟨rfl, rfl, rfl, by decide +kernel, rfl, by decide +kernel, by decide +kernel⟩
def b_is_sign : Sto → Out := retS (andV (bin eqD (app lenD (consA (vr 0) (nilA))) (cst (.int 1))) (andV (chn leD leD (app ordD (consA (cst (.str [32])) (nilA))) (app ordD (consA (vr 0) (nilA))) (app ordD (consA (cst (.str [126])) (nilA)))) (bin neD (app ordD (consA (vr 0) (nilA))) (cst (.int (37))))))
def d_is_sign : List D → Res D := runF 1 0 b_is_sign
theorem ok_is_sign (tx : Txt K mg CT c0 c1 c2 c3 c4 c5 c6) : FnP P w K mg base 1 "is_sign" ["thing"] d_is_sign := fnP 1 0 tx.f_is_sign sc_is_sign rfl rfl (fun f cdv A outer s H E hr => dss_one (ds_ret (de_and (de_cmp (op_eqA hr.units) r_eq (de_callB call_len rc_len tx.b_len PySem.boot_len (da_cons (de_var 0) (da_nil))) (de_int) (nomark _)) (de_and (de_chn op_le r_le op_le r_le (de_callB call_ord rc_ord tx.b_ord (by decide +kernel) (da_cons (de_gstrE tx.k_FIRST) (da_nil))) (de_callB call_ord rc_ord tx.b_ord (by decide +kernel) (da_cons (de_var 0) (da_nil))) (de_callB call_ord rc_ord tx.b_ord (by decide +kernel) (da_cons (de_gstrE tx.k_LAST) (da_nil)))) (de_one (de_cmp (op_neA hr.units) r_ne (de_callB call_ord rc_ord tx.b_ord (by decide +kernel) (da_cons (de_var 0) (da_nil))) (de_gintE tx.k_BARRED) (nomark _)))))))
/-! ### need_text -/
theorem sc_need_text : FnScope ["text", "sign"] ["text"] (defScope s_need_text) := ⟨rfl, rfl, rfl, by decide +kernel, rfl, by decide +kernel, by decide +kernel⟩
def b_need_text : Sto → Out := ifS (orT (tst (bin gtD (app lenD (consA (vr 0) (nilA))) (cst (.int (512))))) (notT (tst (app allD (consA (lstE (lcF (itS (vr 0)) (tgN 1) [1] (yes) (app d_is_sign (consA (vr 1) (nilA))))) (nilA)))))) (rais "BadText") (nopS)
def d_need_text : List D → Res D := runF 1 1 b_need_text
theorem ok_need_text (tx : Txt K mg CT c0 c1 c2 c3 c4 c5 c6) : FnP P w K mg base 2 "need_text" ["text"] d_need_text := fnP 1 1 tx.f_need_text sc_need_text rfl rfl (fun f cdv A outer s H E hr => dss_one (ds_if (dw_pt (dw_or (dt_cmp op_gt r_gt (de_callB call_len rc_len tx.b_len PySem.boot_len (da_cons (de_var 0) (da_nil))) (de_gintE tx.k_MOST) (nomark _)) (dw_or1 (dt_not (dt_val (de_callB (cr_all rfl) rc_all tx.b_all (by decide +kernel) (da_cons (dl_de (dl_lc (own := [("sign", 1)]) rfl sc_need_text.nd (di_seq (de_var 0)) (blkOk_by (by kernel_rfl)) (tgok_name 1) (fun _ _ _ _ _ => pg_name (i := 1) sc_need_text.nd rfl (by first | exact Or.inl rfl | exact Or.inr rfl)) (fun _ _ _ _ _ => dts_nil) (fun _ _ _ _ _ => de_callP (ok_is_sign tx) (hr.mono (by decide)) tk_none (da_cons (de_var 1) (da_nil))))) (da_nil)))))))) (dss_one (ds_raiseT tx.tab (i := 3) rfl rfl tk_def)) (dss_nil)))
/-! ### letters_of -/
theorem sc_letters_of : FnScope ["text"] ["text"] (defScope s_letters_of) := ⟨rfl, rfl, rfl, by decide +kernel, rfl, by decide +kernel, by decide +kernel⟩
def b_letters_of : Sto → Out := retS (binS joinD (cst (.str [])) (app srtSD (consA (vr 0) (nilA))))
def d_letters_of : List D → Res D := runF 1 0 b_letters_of
theorem ok_letters_of (tx : Txt K mg CT c0 c1 c2 c3 c4 c5 c6) : FnP P w K mg base 1 "letters_of" ["text"] d_letters_of := fnP 1 0 tx.f_letters_of sc_letters_of rfl rfl (fun f cdv A outer s H E hr => dss_one (ds_ret (de_join (de_str) (de_srtSet rfl tx.b_sorted tx.b_set (da_cons (de_var 0) (da_nil))))))
/-! ### is_count -/
theorem sc_is_count : FnScope ["thing"] ["thing"] (defScope s_is_count) := ⟨rfl, rfl, rfl, by decide +kernel, rfl, by decide +kernel, by decide +kernel⟩
def b_is_count : Sto → Out := retS (andV (un isID (vr 0)) (andV (un notD (un isBD (vr 0))) (bin gtD (vr 0) (cst (.int 0)))))
def d_is_count : List D → Res D := runF 1 0 b_is_count
theorem ok_is_count (tx : Txt K mg CT c0 c1 c2 c3 c4 c5 c6) : FnP P w K mg base 1 "is_count" ["thing"] d_is_count := fnP 1 0 tx.f_is_count sc_is_count rfl rfl (fun f cdv A outer s H E hr => dss_one (ds_ret (de_and (de_isI (de_var 0) tx.b_isinstance tx.b_int) (de_and (de_not (de_isBo (de_var 0) tx.b_isinstance tx.b_bool)) (de_one (de_cmp op_gt r_gt (de_var 0) (de_int) (nomark _)))))))
/-! ### need_counts -/
theorem sc_need_counts : FnScope ["counts", "count"] ["counts"] (defScope s_need_counts) := ⟨rfl, rfl, rfl, by decide +kernel, rfl, by decide +kernel, by decide +kernel⟩
def b_need_counts : Sto → Out := ifS (orT (notT (tst (chn leD leD (cst (.int 1)) (app lenD (consA (vr 0) (nilA))) (cst (.int (94)))))) (notT (tst (app allD (consA (lstE (lcF (itS (vr 0)) (tgN 1) [1] (yes) (app d_is_count (consA (vr 1) (nilA))))) (nilA)))))) (rais "BadNumber") (nopS)
def d_need_counts : List D → Res D := runF 1 1 b_need_counts
theorem ok_need_counts (tx : Txt K mg CT c0 c1 c2 c3 c4 c5 c6) : FnP P w K mg base 2 "need_counts" ["counts"] d_need_counts := fnP 1 1 tx.f_need_counts sc_need_counts rfl rfl (fun f cdv A outer s H E hr => dss_one (ds_if (dw_pt (dw_or (dt_not (dt_chn op_le r_le op_le r_le (de_int) (de_callB call_len rc_len tx.b_len PySem.boot_len (da_cons (de_var 0) (da_nil))) (de_gintE tx.k_MOST_COUNTS))) (dw_or1 (dt_not (dt_val (de_callB (cr_all rfl) rc_all tx.b_all (by decide +kernel) (da_cons (dl_de (dl_lc (own := [("count", 1)]) rfl sc_need_counts.nd (di_seq (de_var 0)) (blkOk_by (by kernel_rfl)) (tgok_name 1) (fun _ _ _ _ _ => pg_name (i := 1) sc_need_counts.nd rfl (by first | exact Or.inl rfl | exact Or.inr rfl)) (fun _ _ _ _ _ => dts_nil) (fun _ _ _ _ _ => de_callP (ok_is_count tx) (hr.mono (by decide)) tk_none (da_cons (de_var 1) (da_nil))))) (da_nil)))))))) (dss_one (ds_raiseT tx.tab (i := 0) rfl rfl tk_def)) (dss_nil)))
/-! ### lengths -/
theorem sc_lengths : FnScope ["counts", "found", "heaps", "one", "other", "at", "count"] ["counts"] (defScope s_lengths) := ⟨rfl, rfl, rfl, by decide +kernel, rfl, by decide +kernel, by decide +kernel⟩
def wb_lengths_1 : Sto → Out := seqS (asg 2 (app sortedD (consA (vr 2) (nilA))))
  (seqS (asgU (tgU 3 4) (slc (vr 2) (noP) (part (cst (.int 2)))))
  (seqS (forF (itS (bin addD (bin ixD (vr 3) (cst (.int 2))) (bin ixD (vr 4) (cst (.int 2))))) (tgN 5) (stoS 1 (vr 5) (bin addD (ixO 1 (vr 5)) (cst (.int 1)))))
  (asg 2 (bin addD (slc (vr 2) (part (cst (.int 2))) (noP)) (app mkL (consA (app mkT (consA (bin addD (bin ixD (vr 3) (cst (.int 0))) (bin ixD (vr 4) (cst (.int 0)))) (consA (app min2D (consA (bin ixD (vr 3) (cst (.int 1))) (consA (bin ixD (vr 4) (cst (.int 1))) (nilA)))) (consA (bin addD (bin ixD (vr 3) (cst (.int 2))) (bin ixD (vr 4) (cst (.int 2)))) (nilA))))) (nilA)))))))
def b_lengths : Sto → Out := seqS (drp (app d_need_counts (consA (vr 0) (nilA))))
  (seqS (asgN 1 (binN mulN (app mkL (consA (cst (.int 0)) (nilA))) (app lenD (consA (vr 0) (nilA)))))
  (seqS (asg 2 (lstE (lcF (rngA enumA (consA (vr 0) (nilA))) (tgP 5 6) [5, 6] (yes) (app mkT (consA (vr 6) (consA (vr 5) (consA (app mkL (consA (vr 5) (nilA))) (nilA))))))))
  (seqS (whS (tst (bin gtD (app lenD (consA (vr 2) (nilA))) (cst (.int 1)))) (wb_lengths_1) 2000000)
  (frzS 1 (retS (vr 1))))))
def d_lengths : List D → Res D := runF 1 6 b_lengths
theorem ok_lengths (tx : Txt K mg CT c0 c1 c2 c3 c4 c5 c6) : FnP P w K mg base 3 "lengths" ["counts"] d_lengths := fnP 1 6 tx.f_lengths sc_lengths rfl rfl (fun f cdv A outer s H E hr => dss_cons (ds_expr (de_callP (ok_need_counts tx) (hr.mono (by decide)) tk_def (da_cons (de_var 0) (da_nil))))
  (dss_cons (ds_setN 1 sc_lengths.nd (dl_rep (de_lst (da_cons (de_int) (da_nil))) (de_callB call_len rc_len tx.b_len PySem.boot_len (da_cons (de_var 0) (da_nil)))))
  (dss_cons (ds_setLc (own := [("at", 5), ("count", 6)]) 2 rfl sc_lengths.nd (di_enumA tx.b_enumerate (da_cons (de_var 0) (da_nil))) (blkOk_by (by kernel_rfl)) (tgok_pair (i := 5) (j := 6) (by decide)) (fun _ _ _ _ _ => pg_tup rfl (pgs_cons (pg_name (i := 5) sc_lengths.nd rfl (by first | exact Or.inl rfl | exact Or.inr rfl)) (pgs_cons (pg_name (i := 6) sc_lengths.nd rfl (by first | exact Or.inl rfl | exact Or.inr rfl)) pgs_nil))) (fun _ _ _ _ _ => dts_nil) (fun _ _ _ _ _ => de_tup (da_cons (de_var 6) (da_cons (de_var 5) (da_cons (de_lst (da_cons (de_var 5) (da_nil))) (da_nil))))) (sw_true rfl rfl rfl (by decide +kernel)))
  (dss_cons (ds_while 2000000 (passes_of rfl) (dt_cmp op_gt r_gt (de_callB call_len rc_len tx.b_len PySem.boot_len (da_cons (de_var 2) (da_nil))) (de_int) (nomark _)) (dss_cons (ds_set 2 sc_lengths.nd (de_callB cr_sortedA rc_sorted tx.b_sorted (by decide +kernel) (da_cons (de_var 2) (da_nil))))
  (dss_cons (ds_unp 3 4 sc_lengths.nd rfl (de_slice (de_var 2) (do_none) (do_some (de_int))))
  (dss_cons (ds_for (passes_of rfl) rfl (di_seq (de_op op_addA r_add (de_ix (de_var 3) (de_int)) (de_ix (de_var 4) (de_int)))) (dg_name 5 sc_lengths.nd) (dss_one (ds_sto 1 (de_op op_addA r_add (de_ixO 1 (de_var 5)) (de_int)) (de_var 5))))
  (dss_one (ds_set 2 sc_lengths.nd (de_op op_addA r_add (de_slice (de_var 2) (do_some (de_int)) (do_none)) (de_lst (da_cons (de_tup (da_cons (de_op op_addA r_add (de_ix (de_var 3) (de_int)) (de_ix (de_var 4) (de_int))) (da_cons (de_callB (call_min2 rfl) rc_min2 tx.b_min (by decide +kernel) (da_cons (de_ix (de_var 3) (de_int)) (da_cons (de_ix (de_var 4) (de_int)) (da_nil)))) (da_cons (de_op op_addA r_add (de_ix (de_var 3) (de_int)) (de_ix (de_var 4) (de_int))) (da_nil))))) (da_nil))))))))))
  (dss_one (ds_frz 1 (ds_ret (de_var 1))))))))
/-! ### coded -/
theorem sc_coded : FnScope ["text", "letters", "some", "row", "sign"] ["text"] (defScope s_coded) := ⟨rfl, rfl, rfl, by decide +kernel, rfl, by decide +kernel, by decide +kernel⟩
def b_coded : Sto → Out := seqS (drp (app d_need_text (consA (vr 0) (nilA))))
  (seqS (ifS (tst (bin eqD (vr 0) (cst (.str [])))) (rais "BadText") (nopS))
  (seqS (asg 1 (app d_letters_of (consA (vr 0) (nilA))))
  (seqS (asg 2 (app d_lengths (consA (lstE (lcF (itS (vr 1)) (tgN 4) [4] (yes) (binS countD (vr 0) (vr 4)))) (nilA))))
  (seqS (asg 3 (app d_words (consA (vr 2) (nilA))))
  (retS (app mkT (consA (vr 1) (consA (vr 2) (consA (app lenD (consA (vr 0) (nilA))) (consA (binS joinD (cst (.str [])) (lstE (lcF (itS (vr 0)) (tgN 4) [4] (yes) (bin ixD (vr 3) (idxE (vr 1) (vr 4)))))) (nilA)))))))))))
def d_coded : List D → Res D := runF 1 4 b_coded
theorem ok_coded (tx : Txt K mg CT c0 c1 c2 c3 c4 c5 c6) : FnP P w K mg base 4 "coded" ["text"] d_coded := fnP 1 4 tx.f_coded sc_coded rfl rfl (fun f cdv A outer s H E hr => dss_cons (ds_expr (de_callP (ok_need_text tx) (hr.mono (by decide)) tk_def (da_cons (de_var 0) (da_nil))))
  (dss_cons (ds_if (dt_cmp (op_eqA hr.units) r_eq (de_var 0) (de_str) (nomark _)) (dss_one (ds_raiseT tx.tab (i := 3) rfl rfl tk_def)) (dss_nil))
  (dss_cons (ds_set 1 sc_coded.nd (de_callP (ok_letters_of tx) (hr.mono (by decide)) tk_def (da_cons (de_var 0) (da_nil))))
  (dss_cons (ds_set 2 sc_coded.nd (de_callP (ok_lengths tx) (hr.mono (by decide)) tk_def (da_cons (dl_de (dl_lc (own := [("sign", 4)]) rfl sc_coded.nd (di_seq (de_var 1)) (blkOk_by (by kernel_rfl)) (tgok_name 4) (fun _ _ _ _ _ => pg_name (i := 4) sc_coded.nd rfl (by first | exact Or.inl rfl | exact Or.inr rfl)) (fun _ _ _ _ _ => dts_nil) (fun _ _ _ _ _ => de_count (de_var 0) (de_var 4)))) (da_nil))))
  (dss_cons (ds_set 3 sc_coded.nd (de_callP (ok_words tx) (hr.mono (by decide)) tk_def (da_cons (de_var 2) (da_nil))))
  (dss_one (ds_ret (de_tup (da_cons (de_var 1) (da_cons (de_var 2) (da_cons (de_callB call_len rc_len tx.b_len PySem.boot_len (da_cons (de_var 0) (da_nil))) (da_cons (de_join (de_str) (dl_de (dl_lc (own := [("sign", 4)]) rfl sc_coded.nd (di_seq (de_var 0)) (blkOk_by (by kernel_rfl)) (tgok_name 4) (fun _ _ _ _ _ => pg_name (i := 4) sc_coded.nd rfl (by first | exact Or.inl rfl | exact Or.inr rfl)) (fun _ _ _ _ _ => dts_nil) (fun _ _ _ _ _ => de_ix (de_var 3) (de_idx (de_var 1) (de_var 4)))))) (da_nil)))))))))))))
/-! ### need_bits -/
theorem sc_need_bits : FnScope ["bits", "sign"] ["bits"] (defScope s_need_bits) := ⟨rfl, rfl, rfl, by decide +kernel, rfl, by decide +kernel, by decide +kernel⟩
def b_need_bits : Sto → Out := ifS (notT (tst (app allD (consA (lstE (lcF (itS (vr 0)) (tgN 1) [1] (yes) (bin inA (vr 1) (cst (.str [48, 49]))))) (nilA))))) (rais "BadBits") (nopS)
def d_need_bits : List D → Res D := runF 1 1 b_need_bits
theorem ok_need_bits (tx : Txt K mg CT c0 c1 c2 c3 c4 c5 c6) : FnP P w K mg base 1 "need_bits" ["bits"] d_need_bits := fnP 1 1 tx.f_need_bits sc_need_bits rfl rfl (fun f cdv A outer s H E hr => dss_one (ds_if (dt_not (dt_val (de_callB (cr_all rfl) rc_all tx.b_all (by decide +kernel) (da_cons (dl_de (dl_lc (own := [("sign", 1)]) rfl sc_need_bits.nd (di_seq (de_var 0)) (blkOk_by (by kernel_rfl)) (tgok_name 1) (fun _ _ _ _ _ => pg_name (i := 1) sc_need_bits.nd rfl (by first | exact Or.inl rfl | exact Or.inr rfl)) (fun _ _ _ _ _ => dts_nil) (fun _ _ _ _ _ => de_cmp op_inA r_inB (de_var 1) (de_str) rfl))) (da_nil))))) (dss_one (ds_raiseT tx.tab (i := 1) rfl rfl tk_def)) (dss_nil)))
/-! ### decoded -/
theorem sc_decoded : FnScope ["letters", "some", "many", "bits", "row", "found", "at", "turn", "end", "sign"] ["letters", "some", "many", "bits"] (defScope s_decoded) := ⟨rfl, rfl, rfl, by decide +kernel, rfl, by decide +kernel, by decide +kernel⟩
def lp_decoded_1 : Sto → Out := seqS (asg 8 (vr 6))
  (seqS (whS (andT (tst (bin ltD (vr 8) (app lenD (consA (vr 3) (nilA))))) (tst (bin ninA (slc (vr 3) (part (vr 6)) (part (vr 8))) (vr 4)))) (asg 8 (bin addD (vr 8) (cst (.int 1)))) 2000000)
  (seqS (ifS (tst (bin ninA (slc (vr 3) (part (vr 6)) (part (vr 8))) (vr 4))) (rais "BadBits") (nopS))
  (seqS (asg 5 (bin addD (vr 5) (bin ixD (vr 0) (idxE (vr 4) (slc (vr 3) (part (vr 6)) (part (vr 8)))))))
  (asg 6 (vr 8)))))
def b_decoded : Sto → Out := seqS (ifS (orT (notT (tst (app allD (consA (lstE (lcF (itS (vr 0)) (tgN 9) [9] (yes) (app d_is_sign (consA (vr 9) (nilA))))) (nilA))))) (tst (bin neD (app listA (consA (vr 0) (nilA))) (app srtSD (consA (vr 0) (nilA)))))) (rais "BadText") (nopS))
  (seqS (ifS (tst (bin neD (app lenD (consA (vr 1) (nilA))) (app lenD (consA (vr 0) (nilA))))) (rais "BadCode") (nopS))
  (seqS (asg 4 (app d_words (consA (vr 1) (nilA))))
  (seqS (drp (app d_need_bits (consA (vr 3) (nilA))))
  (seqS (ifS (notT (tst (chn leD leD (cst (.int 1)) (vr 2) (cst (.int (512)))))) (rais "BadBits") (nopS))
  (seqS (asg 5 (cst (.str [])))
  (seqS (asg 6 (cst (.int 0)))
  (seqS (forF (rngA asRng1 (consA (vr 2) (nilA))) (tgN 7) (lp_decoded_1))
  (seqS (ifS (tst (bin ltD (vr 6) (app lenD (consA (vr 3) (nilA))))) (rais "BadBits") (nopS))
  (retS (vr 5))))))))))
def d_decoded : List D → Res D := runF 4 6 b_decoded
theorem ok_decoded (tx : Txt K mg CT c0 c1 c2 c3 c4 c5 c6) : FnP P w K mg base 3 "decoded" ["letters", "some", "many", "bits"] d_decoded := fnP 4 6 tx.f_decoded sc_decoded rfl rfl (fun f cdv A outer s H E hr => dss_cons (ds_if (dw_pt (dw_or (dt_not (dt_val (de_callB (cr_all rfl) rc_all tx.b_all (by decide +kernel) (da_cons (dl_de (dl_lc (own := [("sign", 9)]) rfl sc_decoded.nd (di_seq (de_var 0)) (blkOk_by (by kernel_rfl)) (tgok_name 9) (fun _ _ _ _ _ => pg_name (i := 9) sc_decoded.nd rfl (by first | exact Or.inl rfl | exact Or.inr rfl)) (fun _ _ _ _ _ => dts_nil) (fun _ _ _ _ _ => de_callP (ok_is_sign tx) (hr.mono (by decide)) tk_none (da_cons (de_var 9) (da_nil))))) (da_nil))))) (dw_or1 (dt_cmp (op_neA hr.units) r_ne (de_callTy (cr_listA rfl) rc_listA tx.b_list (by decide +kernel) (da_cons (de_var 0) (da_nil))) (de_srtSet rfl tx.b_sorted tx.b_set (da_cons (de_var 0) (da_nil))) (nomark _))))) (dss_one (ds_raiseT tx.tab (i := 3) rfl rfl tk_def)) (dss_nil))
  (dss_cons (ds_if (dt_cmp (op_neA hr.units) r_ne (de_callB call_len rc_len tx.b_len PySem.boot_len (da_cons (de_var 1) (da_nil))) (de_callB call_len rc_len tx.b_len PySem.boot_len (da_cons (de_var 0) (da_nil))) (nomark _)) (dss_one (ds_raiseT tx.tab (i := 4) rfl rfl tk_def)) (dss_nil))
  (dss_cons (ds_set 4 sc_decoded.nd (de_callP (ok_words tx) (hr.mono (by decide)) tk_def (da_cons (de_var 1) (da_nil))))
  (dss_cons (ds_expr (de_callP (ok_need_bits tx) (hr.mono (by decide)) tk_def (da_cons (de_var 3) (da_nil))))
  (dss_cons (ds_if (dt_not (dt_chn op_le r_le op_le r_le (de_int) (de_var 2) (de_gintE tx.k_MOST))) (dss_one (ds_raiseT tx.tab (i := 1) rfl rfl tk_def)) (dss_nil))
  (dss_cons (ds_set 5 sc_decoded.nd (de_str))
  (dss_cons (ds_set 6 sc_decoded.nd (de_int))
  (dss_cons (ds_for (passes_of rfl) rfl (di_range1 tx.b_range (da_cons (de_var 2) (da_nil))) (dg_name 7 sc_decoded.nd) (dss_cons (ds_set 8 sc_decoded.nd (de_var 6))
  (dss_cons (ds_while 2000000 (passes_of rfl) (dw_pt (dw_and (dt_cmp op_ltA r_lt (de_var 8) (de_callB call_len rc_len tx.b_len PySem.boot_len (da_cons (de_var 3) (da_nil))) (nomark _)) (dw_and1 (dt_cmp op_ninA r_ninB (de_slice (de_var 3) (do_some (de_var 6)) (do_some (de_var 8))) (de_var 4) rfl)))) (dss_one (ds_set 8 sc_decoded.nd (de_op op_addA r_add (de_var 8) (de_int)))))
  (dss_cons (ds_if (dt_cmp op_ninA r_ninB (de_slice (de_var 3) (do_some (de_var 6)) (do_some (de_var 8))) (de_var 4) rfl) (dss_one (ds_raiseT tx.tab (i := 1) rfl rfl tk_def)) (dss_nil))
  (dss_cons (ds_set 5 sc_decoded.nd (de_op op_addA r_add (de_var 5) (de_ix (de_var 0) (de_idx (de_var 4) (de_slice (de_var 3) (do_some (de_var 6)) (do_some (de_var 8)))))))
  (dss_one (ds_set 6 sc_decoded.nd (de_var 8))))))))
  (dss_cons (ds_if (dt_cmp op_ltA r_lt (de_var 6) (de_callB call_len rc_len tx.b_len PySem.boot_len (da_cons (de_var 3) (da_nil))) (nomark _)) (dss_one (ds_raiseT tx.tab (i := 1) rfl rfl tk_def)) (dss_nil))
  (dss_one (ds_ret (de_var 5))))))))))))
/-! ### _law_cell -/
theorem sc__law_cell : FnScope ["script", "k"] ["script", "k"] (defScope s__law_cell) := ⟨rfl, rfl, rfl, by decide +kernel, rfl, by decide +kernel, by decide +kernel⟩
def b__law_cell : Sto → Out := seqS (ifS (tst (bin eqD (vr 0) (app mkL (nilA)))) (retS (bin mulD (vr 1) (cst (.int 7919)))) (nopS))
  (retS (bin addD (bin ixD (vr 0) (bin modD (vr 1) (app lenD (consA (vr 0) (nilA))))) (bin mulD (bin fdivD (vr 1) (app lenD (consA (vr 0) (nilA)))) (cst (.int 104729)))))
def d__law_cell : List D → Res D := runF 2 0 b__law_cell
theorem ok__law_cell (tx : Txt K mg CT c0 c1 c2 c3 c4 c5 c6) : FnP P w K mg base 1 "_law_cell" ["script", "k"] d__law_cell := fnP 2 0 tx.f__law_cell sc__law_cell rfl rfl (fun f cdv A outer s H E hr => dss_cons (ds_if (dt_cmp (op_eqA hr.units) r_eq (de_var 0) (de_lst (da_nil)) (nomark _)) (dss_one (ds_ret (de_op op_mulA r_mul (de_var 1) (de_int)))) (dss_nil))
  (dss_one (ds_ret (de_op op_addA r_add (de_ix (de_var 0) (de_op op_mod r_mod (de_var 1) (de_callB call_len rc_len tx.b_len PySem.boot_len (da_cons (de_var 0) (da_nil))))) (de_op op_mulA r_mul (de_op op_fdivW r_fdiv (de_var 1) (de_callB call_len rc_len tx.b_len PySem.boot_len (da_cons (de_var 0) (da_nil)))) (de_int))))))
/-! ### _law_drawn -/
theorem sc__law_drawn : FnScope ["cell", "k", "more"] ["cell", "k"] (defScope s__law_drawn) := ⟨rfl, rfl, rfl, by decide +kernel, rfl, by decide +kernel, by decide +kernel⟩
def b__law_drawn : Sto → Out := seqS (asg 2 (bin modD (bin addD (bin mulD (vr 0) (cst (.int 6364136223846793005))) (bin mulD (bin addD (vr 1) (cst (.int 1))) (cst (.int 1442695040888963407)))) (cst (.int 340282366920938463463374607431768211507))))
  (seqS (asg 2 (bin modD (bin mulD (vr 2) (vr 2)) (cst (.int 340282366920938463463374607431768211297))))
  (seqS (asg 2 (bin mulD (bin mulD (bin addD (bin modD (vr 2) (cst (.int 18446744073709551557))) (cst (.int 1))) (bin addD (bin fdivD (vr 2) (cst (.int 18446744073709551557))) (cst (.int 1)))) (vr 2)))
  (retS (bin modD (vr 2) (cst (.int 340282366920938463463374607431768211507))))))
def d__law_drawn : List D → Res D := runF 2 1 b__law_drawn
theorem ok__law_drawn (tx : Txt K mg CT c0 c1 c2 c3 c4 c5 c6) : FnP P w K mg base 1 "_law_drawn" ["cell", "k"] d__law_drawn := fnP 2 1 tx.f__law_drawn sc__law_drawn rfl rfl (fun f cdv A outer s H E hr => dss_cons (ds_set 2 sc__law_drawn.nd (de_op op_mod r_mod (de_op op_addA r_add (de_op op_mulA r_mul (de_var 0) (de_int)) (de_op op_mulA r_mul (de_op op_addA r_add (de_var 1) (de_int)) (de_int))) (de_int)))
  (dss_cons (ds_set 2 sc__law_drawn.nd (de_op op_mod r_mod (de_op op_mulA r_mul (de_var 2) (de_var 2)) (de_int)))
  (dss_cons (ds_set 2 sc__law_drawn.nd (de_op op_mulA r_mul (de_op op_mulA r_mul (de_op op_addA r_add (de_op op_mod r_mod (de_var 2) (de_int)) (de_int)) (de_op op_addA r_add (de_op op_fdivW r_fdiv (de_var 2) (de_int)) (de_int))) (de_var 2)))
  (dss_one (ds_ret (de_op op_mod r_mod (de_var 2) (de_int)))))))
/-! ### _law_word -/
theorem sc__law_word : FnScope ["e", "flags"] ["e"] (defScope s__law_word) := ⟨rfl, rfl, rfl, by decide +kernel, rfl, by decide +kernel, by decide +kernel⟩
/-! ### _law_told -/
theorem sc__law_told : FnScope ["deed", "e"] ["deed"] (defScope s__law_told) := ⟨rfl, rfl, rfl, by decide +kernel, rfl, by decide +kernel, by decide +kernel⟩
theorem told_ok (tx : Txt K mg CT c0 c1 c2 c3 c4 c5 c6) : ∃ fT fdT fW fdW, ToldOk P w K mg base s__law_told s__law_word fT fW CT fdT fdW [c0, c1, c2, c3, c4, c5, c6] := by
  obtain ⟨fT, fdT, FT, bT, gT⟩ := tx.f__law_told
  obtain ⟨fW, fdW, FW, bW, gW⟩ := tx.f__law_word
  refine ⟨fT, fdT, fW, fdW, ⟨tx.tab, FT, sc__law_told, bT, gT, FW, sc__law_word, bW, gW, ⟨_, _, _, _, _, _, _, _, _, _, rfl⟩, ⟨rfl, rfl, rfl, rfl⟩, fun cdv A outer s H E a oe j C hj hx => ?_⟩⟩
  have hj7 : j < 7 := (List.getElem?_eq_some_iff.mp hj).1
  have EE := tx.tab.each j _ C (List.getElem?_eq_getElem (show j < exc7.length from hj7)) hj
  exact dss_cons (ds_set 1 sc__law_word.nd (de_lst (da_cons (de_isO (i := 0) hx EE.c tx.b_isinstance (tx.tab.each 0 _ _ rfl rfl).g (tx.tab.kit j 0 _ _ hj rfl)) (da_cons (de_isO (i := 0) hx EE.c tx.b_isinstance (tx.tab.each 1 _ _ rfl rfl).g (tx.tab.kit j 1 _ _ hj rfl)) (da_cons (de_isO (i := 0) hx EE.c tx.b_isinstance (tx.tab.each 2 _ _ rfl rfl).g (tx.tab.kit j 2 _ _ hj rfl)) (da_nil))))))
    (dss_cons (ds_set 1 sc__law_word.nd (de_op op_addA r_add (de_var 1) (de_lst (da_cons (de_isO (i := 0) hx EE.c tx.b_isinstance (tx.tab.each 3 _ _ rfl rfl).g (tx.tab.kit j 3 _ _ hj rfl)) (da_nil)))))
    (dss_cons (ds_set 1 sc__law_word.nd (de_op op_addA r_add (de_var 1) (de_lst (da_cons (de_isO (i := 0) hx EE.c tx.b_isinstance (tx.tab.each 4 _ _ rfl rfl).g (tx.tab.kit j 4 _ _ hj rfl)) (da_cons (de_isO (i := 0) hx EE.c tx.b_isinstance (tx.tab.each 5 _ _ rfl rfl).g (tx.tab.kit j 5 _ _ hj rfl)) (da_cons (de_isO (i := 0) hx EE.c tx.b_isinstance (tx.tab.each 6 _ _ rfl rfl).g (tx.tab.kit j 6 _ _ hj rfl)) (da_nil)))))))
    (dss_cons (ds_if (dw_pt (dw_or (dt_cmp op_ne r_neI (de_callB (cr_sumH hx) rc_sum tx.b_sum (by decide +kernel) (da_cons (dl_de (dl_lcH hx tx.b_int (de_var 1) (by decide +kernel) (by decide +kernel) rfl (by decide +kernel) rfl rfl rfl)) da_nil)) de_int (nomark _)) (dw_or1 (dt_not (dt_val (de_isB (i := 0) (n := "ValueError") hx EE.c tx.b_isinstance tx.b_ValueError (by decide +kernel) EE.ve))))))
      (dss_one (ds_ret de_str)) dss_nil)
    (dss_one (ds_ret (de_ix (de_lst (da_cons de_str (da_cons de_str (da_cons de_str (da_cons de_str (da_cons de_str (da_cons de_str (da_cons de_str (da_nil))))))))) (de_index (de_var 1) de_bl)))))))
/-! ### _law_bits -/
theorem sc__law_bits : FnScope ["number", "wide", "found", "turn"] ["number", "wide"] (defScope s__law_bits) := ⟨rfl, rfl, rfl, by decide +kernel, rfl, by decide +kernel, by decide +kernel⟩
def b__law_bits : Sto → Out := seqS (asg 2 (cst (.str [])))
  (seqS (forF (rngA asRng1 (consA (vr 1) (nilA))) (tgN 3) (seqS (asg 2 (bin addD (app strD (consA (bin modD (vr 0) (cst (.int 2))) (nilA))) (vr 2)))
  (asg 0 (bin fdivD (vr 0) (cst (.int 2))))))
  (retS (vr 2)))
def d__law_bits : List D → Res D := runF 2 2 b__law_bits
theorem ok__law_bits (tx : Txt K mg CT c0 c1 c2 c3 c4 c5 c6) : FnP P w K mg base 1 "_law_bits" ["number", "wide"] d__law_bits := fnP 2 2 tx.f__law_bits sc__law_bits rfl rfl (fun f cdv A outer s H E hr => dss_cons (ds_set 2 sc__law_bits.nd (de_str))
  (dss_cons (ds_for (passes_of rfl) rfl (di_range1 tx.b_range (da_cons (de_var 1) (da_nil))) (dg_name 3 sc__law_bits.nd) (dss_cons (ds_set 2 sc__law_bits.nd (de_op op_addA r_add (de_callTy call_str_int rc_str tx.b_str (by decide +kernel) (da_cons (de_op op_mod r_mod (de_var 0) (de_int)) (da_nil))) (de_var 2)))
  (dss_one (ds_set 0 sc__law_bits.nd (de_op op_fdivW r_fdiv (de_var 0) (de_int))))))
  (dss_one (ds_ret (de_var 2)))))
/-! ### _law_text -/
theorem sc__law_text : FnScope ["more", "most", "letters", "found", "j", "here"] ["more", "most"] (defScope s__law_text) := ⟨rfl, rfl, rfl, by decide +kernel, rfl, by decide +kernel, by decide +kernel⟩
def b__law_text : Sto → Out := seqS (asg 2 (bin ixD (app mkL (consA (cst (.str [97, 98])) (consA (cst (.str [97])) (consA (cst (.str [97, 98, 99, 100, 32, 126])) (consA (cst (.str [116, 104, 101, 32, 113, 117, 105, 99, 107, 32, 98, 114, 111, 119, 110, 32, 102, 111, 120, 32, 106, 117, 109, 112, 115])) (consA (cst (.str [33, 48, 97, 65, 122, 90, 126])) (consA (cst (.str [32])) (nilA)))))))) (bin modD (vr 0) (cst (.int 6)))))
  (seqS (asg 3 (cst (.str [])))
  (seqS (forF (rngA asRng1 (consA (bin modD (bin fdivD (vr 0) (cst (.int 8))) (bin addD (vr 1) (cst (.int 1)))) (nilA))) (tgN 4) (seqS (asg 5 (app d__law_drawn (consA (vr 0) (consA (vr 4) (nilA)))))
  (ifS (tst (bin gtD (bin modD (vr 5) (cst (.int 3))) (cst (.int 0)))) (asg 3 (bin addD (vr 3) (bin ixD (vr 2) (bin modD (bin fdivD (vr 5) (cst (.int 8))) (app min2D (consA (app lenD (consA (vr 2) (nilA))) (consA (cst (.int 2)) (nilA)))))))) (asg 3 (bin addD (vr 3) (bin ixD (vr 2) (bin modD (bin fdivD (vr 5) (cst (.int 8))) (app lenD (consA (vr 2) (nilA))))))))))
  (retS (vr 3))))
def d__law_text : List D → Res D := runF 2 4 b__law_text
theorem ok__law_text (tx : Txt K mg CT c0 c1 c2 c3 c4 c5 c6) : FnP P w K mg base 2 "_law_text" ["more", "most"] d__law_text := fnP 2 4 tx.f__law_text sc__law_text rfl rfl (fun f cdv A outer s H E hr => dss_cons (ds_set 2 sc__law_text.nd (de_ix (de_lst (da_cons (de_str) (da_cons (de_str) (da_cons (de_str) (da_cons (de_str) (da_cons (de_str) (da_cons (de_str) (da_nil)))))))) (de_op op_mod r_mod (de_var 0) (de_int))))
  (dss_cons (ds_set 3 sc__law_text.nd (de_str))
  (dss_cons (ds_for (passes_of rfl) rfl (di_range1 tx.b_range (da_cons (de_op op_mod r_mod (de_op op_fdivW r_fdiv (de_var 0) (de_int)) (de_op op_addA r_add (de_var 1) (de_int))) (da_nil))) (dg_name 4 sc__law_text.nd) (dss_cons (ds_set 5 sc__law_text.nd (de_callP (ok__law_drawn tx) (hr.mono (by decide)) tk_def (da_cons (de_var 0) (da_cons (de_var 4) (da_nil)))))
  (dss_one (ds_if (dt_cmp op_gt r_gt (de_op op_mod r_mod (de_var 5) (de_int)) (de_int) (nomark _)) (dss_one (ds_set 3 sc__law_text.nd (de_op op_addA r_add (de_var 3) (de_ix (de_var 2) (de_op op_mod r_mod (de_op op_fdivW r_fdiv (de_var 5) (de_int)) (de_callB (call_min2 rfl) rc_min2 tx.b_min (by decide +kernel) (da_cons (de_callB call_len rc_len tx.b_len PySem.boot_len (da_cons (de_var 2) (da_nil))) (da_cons (de_int) (da_nil))))))))) (dss_one (ds_set 3 sc__law_text.nd (de_op op_addA r_add (de_var 3) (de_ix (de_var 2) (de_op op_mod r_mod (de_op op_fdivW r_fdiv (de_var 5) (de_int)) (de_callB call_len rc_len tx.b_len PySem.boot_len (da_cons (de_var 2) (da_nil))))))))))))
  (dss_one (ds_ret (de_var 3))))))
/-! ### _law_least -/
theorem sc__law_least : FnScope ["counts", "row", "found"] ["counts"] (defScope s__law_least) := ⟨rfl, rfl, rfl, by decide +kernel, rfl, by decide +kernel, by decide +kernel⟩
def b__law_least : Sto → Out := seqS (asg 1 (app sortedD (consA (vr 0) (nilA))))
  (seqS (asg 2 (cst (.int 0)))
  (seqS (whS (tst (bin gtD (app lenD (consA (vr 1) (nilA))) (cst (.int 1)))) (seqS (asg 2 (bin addD (bin addD (vr 2) (bin ixD (vr 1) (cst (.int 0)))) (bin ixD (vr 1) (cst (.int 1)))))
  (asg 1 (app sortedD (consA (bin addD (slc (vr 1) (part (cst (.int 2))) (noP)) (app mkL (consA (bin addD (bin ixD (vr 1) (cst (.int 0))) (bin ixD (vr 1) (cst (.int 1)))) (nilA)))) (nilA))))) 2000000)
  (retS (vr 2))))
def d__law_least : List D → Res D := runF 1 2 b__law_least
theorem ok__law_least (tx : Txt K mg CT c0 c1 c2 c3 c4 c5 c6) : FnP P w K mg base 1 "_law_least" ["counts"] d__law_least := fnP 1 2 tx.f__law_least sc__law_least rfl rfl (fun f cdv A outer s H E hr => dss_cons (ds_set 1 sc__law_least.nd (de_callB cr_sortedA rc_sorted tx.b_sorted (by decide +kernel) (da_cons (de_var 0) (da_nil))))
  (dss_cons (ds_set 2 sc__law_least.nd (de_int))
  (dss_cons (ds_while 2000000 (passes_of rfl) (dt_cmp op_gt r_gt (de_callB call_len rc_len tx.b_len PySem.boot_len (da_cons (de_var 1) (da_nil))) (de_int) (nomark _)) (dss_cons (ds_set 2 sc__law_least.nd (de_op op_addA r_add (de_op op_addA r_add (de_var 2) (de_ix (de_var 1) (de_int))) (de_ix (de_var 1) (de_int))))
  (dss_one (ds_set 1 sc__law_least.nd (de_callB cr_sortedA rc_sorted tx.b_sorted (by decide +kernel) (da_cons (de_op op_addA r_add (de_slice (de_var 1) (do_some (de_int)) (do_none)) (de_lst (da_cons (de_op op_addA r_add (de_ix (de_var 1) (de_int)) (de_ix (de_var 1) (de_int))) (da_nil)))) (da_nil)))))))
  (dss_one (ds_ret (de_var 2))))))
/-! ### _law_read -/
theorem sc__law_read : FnScope ["letters", "row", "many", "bits", "found", "turn", "fit", "at"] ["letters", "row", "many", "bits"] (defScope s__law_read) := ⟨rfl, rfl, rfl, by decide +kernel, rfl, by decide +kernel, by decide +kernel⟩
def lp__law_read_1 : Sto → Out := seqS (asg 6 (lstE (lcF (rngA asRng1 (consA (app lenD (consA (vr 1) (nilA))) (nilA))) (tgN 7) [7] (tst (bin eqD (slc (vr 3) (noP) (part (app lenD (consA (bin ixD (vr 1) (vr 7)) (nilA))))) (bin ixD (vr 1) (vr 7)))) (vr 7))))
  (seqS (ifS (tst (bin eqD (vr 6) (app mkL (nilA)))) (retS (cst (.str [66, 97, 100, 66, 105, 116, 115]))) (nopS))
  (seqS (asg 4 (bin addD (vr 4) (bin ixD (vr 0) (bin ixD (vr 6) (cst (.int 0))))))
  (asg 3 (slc (vr 3) (part (app lenD (consA (bin ixD (vr 1) (bin ixD (vr 6) (cst (.int 0)))) (nilA)))) (noP)))))
def b__law_read : Sto → Out := seqS (asg 4 (cst (.str [])))
  (seqS (forF (rngA asRng1 (consA (vr 2) (nilA))) (tgN 5) (lp__law_read_1))
  (retS (ifE (tst (bin eqD (vr 3) (cst (.str [])))) (vr 4) (cst (.str [66, 97, 100, 66, 105, 116, 115])))))
def d__law_read : List D → Res D := runF 4 4 b__law_read
theorem ok__law_read (tx : Txt K mg CT c0 c1 c2 c3 c4 c5 c6) : FnP P w K mg base 1 "_law_read" ["letters", "row", "many", "bits"] d__law_read := fnP 4 4 tx.f__law_read sc__law_read rfl rfl (fun f cdv A outer s H E hr => dss_cons (ds_set 4 sc__law_read.nd (de_str))
  (dss_cons (ds_for (passes_of rfl) rfl (di_range1 tx.b_range (da_cons (de_var 2) (da_nil))) (dg_name 5 sc__law_read.nd) (dss_cons (ds_setLc (own := [("at", 7)]) 6 rfl sc__law_read.nd (di_range1 tx.b_range (da_cons (de_callB call_len rc_len tx.b_len PySem.boot_len (da_cons (de_var 1) (da_nil))) (da_nil))) (blkOk_by (by kernel_rfl)) (tgok_name 7) (fun _ _ _ _ _ => pg_name (i := 7) sc__law_read.nd rfl (by first | exact Or.inl rfl | exact Or.inr rfl)) (fun _ _ _ _ _ => dts_one (dt_cmp (op_eqA hr.units) r_eq (de_slice (de_var 3) (do_none) (do_some (de_callB call_len rc_len tx.b_len PySem.boot_len (da_cons (de_ix (de_var 1) (de_var 7)) (da_nil))))) (de_ix (de_var 1) (de_var 7)) (nomark _))) (fun _ _ _ _ _ => de_var 7) (sw_true rfl rfl rfl (by decide +kernel)))
  (dss_cons (ds_if (dt_cmp (op_eqA hr.units) r_eq (de_var 6) (de_lst (da_nil)) (nomark _)) (dss_one (ds_ret (de_str))) (dss_nil))
  (dss_cons (ds_set 4 sc__law_read.nd (de_op op_addA r_add (de_var 4) (de_ix (de_var 0) (de_ix (de_var 6) (de_int)))))
  (dss_one (ds_set 3 sc__law_read.nd (de_slice (de_var 3) (do_some (de_callB call_len rc_len tx.b_len PySem.boot_len (da_cons (de_ix (de_var 1) (de_ix (de_var 6) (de_int))) (da_nil)))) (do_none))))))))
  (dss_one (ds_ret (de_ifexp (dt_cmp (op_eqA hr.units) r_eq (de_var 3) (de_str) (nomark _)) (de_var 4) (de_str))))))
/-! ### _law_refused_right -/
theorem sc__law_refused_right : FnScope ["letters", "some", "many", "bits", "told", "some_bad"] ["letters", "some", "many", "bits"] (defScope s__law_refused_right) := ⟨rfl, rfl, rfl, by decide +kernel, rfl, by decide +kernel, by decide +kernel⟩
def b__law_refused_right : Sto → Out := seqS (asg 4 (app mkL (consA (told (app d_decoded (consA (bin addD (vr 0) (bin ixD (vr 0) (cst (.int 0)))) (consA (vr 1) (consA (vr 2) (consA (cst (.str [120])) (nilA))))))) (nilA))))
  (seqS (asg 4 (bin addD (vr 4) (app mkL (consA (told (app d_decoded (consA (vr 0) (consA (bin addD (vr 1) (app mkL (consA (cst (.int 1)) (nilA)))) (consA (vr 2) (consA (cst (.str [120])) (nilA))))))) (nilA)))))
  (seqS (asg 4 (bin addD (vr 4) (app mkL (consA (told (app d_decoded (consA (cst (.str [97, 98])) (consA (app mkL (consA (cst (.int 1)) (consA (cst (.int 2)) (nilA)))) (consA (vr 2) (consA (cst (.str [120])) (nilA))))))) (nilA)))))
  (seqS (asg 4 (bin addD (vr 4) (app mkL (consA (told (app d_decoded (consA (vr 0) (consA (vr 1) (consA (vr 2) (consA (bin addD (vr 3) (cst (.str [120]))) (nilA))))))) (nilA)))))
  (seqS (ifS (tst (bin neD (vr 4) (app mkL (consA (cst (.str [66, 97, 100, 84, 101, 120, 116])) (consA (cst (.str [66, 97, 100, 67, 111, 100, 101])) (consA (cst (.str [66, 97, 100, 67, 111, 100, 101])) (consA (cst (.str [66, 97, 100, 66, 105, 116, 115])) (nilA)))))))) (retS (cst (.bl false))) (nopS))
  (seqS (asgN 5 (newA (consA (told (app d_coded (consA (cst (.str [])) (nilA)))) (nilA))))
  (seqS (appS 5 (told (app d_coded (consA (cst (.str [97, 10])) (nilA)))))
  (seqS (frzS 5 (asgN 5 (binN addN (vr 5) (app mkL (consA (told (app d_coded (consA (bin mulD (cst (.str [97])) (cst (.int 513))) (nilA)))) (nilA))))))
  (seqS (frzS 5 (ifS (tst (bin neD (bin addD (vr 5) (app mkL (consA (told (app d_decoded (consA (cst (.str [97, 10])) (consA (app mkL (consA (cst (.int 1)) (consA (cst (.int 1)) (nilA)))) (consA (cst (.int 1)) (consA (cst (.str [48])) (nilA))))))) (nilA)))) (bin mulD (app mkL (consA (cst (.str [66, 97, 100, 84, 101, 120, 116])) (nilA))) (cst (.int 4))))) (retS (cst (.bl false))) (nopS)))
  (retS (cst (.bl true)))))))))))
def d__law_refused_right : List D → Res D := runF 4 2 b__law_refused_right
def q__law_refused_right : List D → Res D := fun xs => okO (d__law_refused_right xs)
theorem ok__law_refused_right {T : List (Addr × Str)} (tx : Txt K mg CT c0 c1 c2 c3 c4 c5 c6) (lm : Lms K mg base T) : FnQ P w K mg base T 7 "_law_refused_right" ["letters", "some", "many", "bits"] d__law_refused_right := by
  obtain ⟨fT, fdT, fW, fdW, O⟩ := told_ok (P := P) (w := w) (base := base) tx
  exact fnQ 4 2 lm.l__law_refused_right sc__law_refused_right rfl rfl (fun f c P' L A outer s H E hr => dss_cons (ds_set 4 sc__law_refused_right.nd (de_lst (da_cons (de_told (k := 3) O L.TB rfl L.hm L.hu (hr.mono (by decide)) (LamX.lamS_by (by kernel_rfl)) (fun A outer s H E f c' hr => de_callP (ok_decoded tx) (hr.mono (by decide)) tk_def (da_cons (de_op op_addA r_add (de_var 0) (de_ix (de_var 0) (de_int))) (da_cons (de_var 1) (da_cons (de_var 2) (da_cons (de_str) (da_nil))))))) (da_nil))))
  (dss_cons (ds_set 4 sc__law_refused_right.nd (de_op op_addA r_add (de_var 4) (de_lst (da_cons (de_told (k := 3) O L.TB rfl L.hm L.hu (hr.mono (by decide)) (LamX.lamS_by (by kernel_rfl)) (fun A outer s H E f c' hr => de_callP (ok_decoded tx) (hr.mono (by decide)) tk_def (da_cons (de_var 0) (da_cons (de_op op_addA r_add (de_var 1) (de_lst (da_cons (de_int) (da_nil)))) (da_cons (de_var 2) (da_cons (de_str) (da_nil))))))) (da_nil)))))
  (dss_cons (ds_set 4 sc__law_refused_right.nd (de_op op_addA r_add (de_var 4) (de_lst (da_cons (de_told (k := 3) O L.TB rfl L.hm L.hu (hr.mono (by decide)) (LamX.lamS_by (by kernel_rfl)) (fun A outer s H E f c' hr => de_callP (ok_decoded tx) (hr.mono (by decide)) tk_def (da_cons (de_str) (da_cons (de_lst (da_cons (de_int) (da_cons (de_int) (da_nil)))) (da_cons (de_var 2) (da_cons (de_str) (da_nil))))))) (da_nil)))))
  (dss_cons (ds_set 4 sc__law_refused_right.nd (de_op op_addA r_add (de_var 4) (de_lst (da_cons (de_told (k := 3) O L.TB rfl L.hm L.hu (hr.mono (by decide)) (LamX.lamS_by (by kernel_rfl)) (fun A outer s H E f c' hr => de_callP (ok_decoded tx) (hr.mono (by decide)) tk_def (da_cons (de_var 0) (da_cons (de_var 1) (da_cons (de_var 2) (da_cons (de_op op_addA r_add (de_var 3) (de_str)) (da_nil))))))) (da_nil)))))
  (dss_cons (ds_if (dt_cmp (op_neA hr.units) r_ne (de_var 4) (de_lst (da_cons (de_str) (da_cons (de_str) (da_cons (de_str) (da_cons (de_str) (da_nil)))))) (nomark _)) (dss_one (ds_ret (de_bl))) (dss_nil))
  (dss_cons (ds_setN 5 sc__law_refused_right.nd (dl_lst (da_cons (de_told (k := 4) O L.TB rfl L.hm L.hu (hr.mono (by decide)) (LamX.lamS_by (by kernel_rfl)) (fun A outer s H E f c' hr => de_callP (ok_coded tx) (hr.mono (by decide)) tk_def (da_cons (de_str) (da_nil)))) (da_nil))))
  (dss_cons (ds_app 5 (de_told (k := 4) O L.TB rfl L.hm L.hu (hr.mono (by decide)) (LamX.lamS_by (by kernel_rfl)) (fun A outer s H E f c' hr => de_callP (ok_coded tx) (hr.mono (by decide)) tk_def (da_cons (de_str) (da_nil)))))
  (dss_cons (ds_frz 5 (ds_setN 5 sc__law_refused_right.nd (dl_add (de_var 5) (de_lst (da_cons (de_told (k := 4) O L.TB rfl L.hm L.hu (hr.mono (by decide)) (LamX.lamS_by (by kernel_rfl)) (fun A outer s H E f c' hr => de_callP (ok_coded tx) (hr.mono (by decide)) tk_def (da_cons (de_op op_mulA r_mul (de_str) (de_int)) (da_nil)))) (da_nil))))))
  (dss_cons (ds_frz 5 (ds_if (dt_cmp (op_neA hr.units) r_ne (de_op op_addA r_add (de_var 5) (de_lst (da_cons (de_told (k := 3) O L.TB rfl L.hm L.hu (hr.mono (by decide)) (LamX.lamS_by (by kernel_rfl)) (fun A outer s H E f c' hr => de_callP (ok_decoded tx) (hr.mono (by decide)) tk_def (da_cons (de_str) (da_cons (de_lst (da_cons (de_int) (da_cons (de_int) (da_nil)))) (da_cons (de_int) (da_cons (de_str) (da_nil))))))) (da_nil)))) (de_op op_mulA r_mul (de_lst (da_cons (de_str) (da_nil))) (de_int)) (nomark _)) (dss_one (ds_ret (de_bl))) (dss_nil)))
  (dss_one (ds_ret (de_bl))))))))))))
/-! ### law -/
theorem sc_law : FnScope ["script", "k", "more", "text", "found", "letters", "some", "many", "bits", "counts", "row", "drawn", "pairs", "other", "count", "sign"] ["script"] (defScope s_law) := ⟨rfl, rfl, rfl, by decide +kernel, rfl, by decide +kernel, by decide +kernel⟩
def lp_law_1 : Sto → Out := seqS (asg 2 (app d__law_drawn (consA (app d__law_cell (consA (vr 0) (consA (vr 1) (nilA)))) (consA (vr 1) (nilA)))))
  (seqS (asg 3 (bin addD (app d__law_text (consA (vr 2) (consA (cst (.int 89)) (nilA)))) (cst (.str [101]))))
  (seqS (asg 4 (told (app d_coded (consA (vr 3) (nilA)))))
  (seqS (ifS (orT (notT (tst (un isPD (vr 4)))) (tst (bin neD (app lenD (consA (vr 4) (nilA))) (cst (.int 4))))) (retS (cst (.bl false))) (nopS))
  (seqS (asgU (tgU4 5 6 7 8) (vr 4))
  (seqS (asg 9 (lstE (lcF (itS (vr 5)) (tgN 15) [15] (yes) (binS countD (vr 3) (vr 15)))))
  (seqS (ifS (orT (tst (bin neD (vr 5) (binS joinD (cst (.str [])) (app srtSD (consA (vr 3) (nilA)))))) (orT (tst (bin neD (vr 7) (app lenD (consA (vr 3) (nilA))))) (tst (bin neD (app lenD (consA (vr 8) (nilA))) (app d__law_least (consA (vr 9) (nilA))))))) (retS (cst (.bl false))) (nopS))
  (seqS (asg 10 (app d_words (consA (vr 6) (nilA))))
  (seqS (ifS (tst (bin neD (vr 8) (binS joinD (cst (.str [])) (lstE (lcF (itS (vr 3)) (tgN 15) [15] (yes) (bin ixD (vr 10) (idxE (vr 5) (vr 15)))))))) (retS (cst (.bl false))) (nopS))
  (seqS (ifS (tst (bin neD (told (app d_decoded (consA (vr 5) (consA (vr 6) (consA (vr 7) (consA (vr 8) (nilA))))))) (vr 3))) (retS (cst (.bl false))) (nopS))
  (seqS (asg 11 (app d__law_bits (consA (bin modD (bin fdivD (vr 2) (bin powD (cst (.int 2)) (cst (.int 20)))) (bin powD (cst (.int 2)) (cst (.int 40)))) (consA (bin modD (bin fdivD (vr 2) (bin powD (cst (.int 2)) (cst (.int 60)))) (cst (.int 41))) (nilA)))))
  (seqS (asg 12 (app mkL (consA (app mkT (consA (bin addD (vr 8) (cst (.str [49]))) (consA (vr 7) (nilA)))) (consA (app mkT (consA (slc (vr 8) (part (cst (.int 1))) (noP)) (consA (vr 7) (nilA)))) (consA (app mkT (consA (vr 8) (consA (bin addD (vr 7) (cst (.int 1))) (nilA)))) (nilA))))))
  (seqS (asg 12 (bin addD (vr 12) (app mkL (consA (app mkT (consA (vr 11) (consA (bin addD (bin modD (bin fdivD (vr 2) (cst (.int 64))) (cst (.int 20))) (cst (.int 1))) (nilA)))) (nilA)))))
  (seqS (forF (itS (bin addD (vr 12) (app mkL (consA (app mkT (consA (bin addD (vr 8) (vr 11)) (consA (bin addD (vr 7) (cst (.int 3))) (nilA)))) (nilA))))) (tgP 13 14) (ifS (tst (bin neD (told (app d_decoded (consA (vr 5) (consA (vr 6) (consA (vr 14) (consA (vr 13) (nilA))))))) (app d__law_read (consA (vr 5) (consA (vr 10) (consA (vr 14) (consA (vr 13) (nilA)))))))) (retS (cst (.bl false))) (nopS)))
  (seqS (ifS (tst (bin neD (lstE (lcF (itS (app mkL (consA (cst (.int 0)) (consA (un negD (cst (.int 1))) (consA (cst (.int 513)) (nilA)))))) (tgN 14) [14] (yes) (told (app d_decoded (consA (vr 5) (consA (vr 6) (consA (vr 14) (consA (vr 8) (nilA))))))))) (bin mulD (app mkL (consA (cst (.str [66, 97, 100, 66, 105, 116, 115])) (nilA))) (cst (.int 3))))) (retS (cst (.bl false))) (nopS))
  (ifS (notT (tst (app q__law_refused_right (consA (vr 5) (consA (vr 6) (consA (vr 7) (consA (vr 8) (nilA)))))))) (retS (cst (.bl false))) (nopS))))))))))))))))
def b_law : Sto → Out := seqS (forF (rngA asRng1 (consA (app max2D (consA (cst (.int 1)) (consA (app min2D (consA (cst (.int 4)) (consA (app lenD (consA (vr 0) (nilA))) (nilA)))) (nilA)))) (nilA))) (tgN 1) (lp_law_1))
  (retS (cst (.bl true)))
def d_law : List D → Res D := runF 1 15 b_law
theorem ok_law {T : List (Addr × Str)} {f c P' : Addr} {oc : Value} {od an : Option Addr} {osl : Array (Option Value)} {kV doc pm ct : Value} (tx : Txt K mg CT c0 c1 c2 c3 c4 c5 c6) (lm : Lms K mg base T) (L : Lm base mg T c P' (lamQ "law"))
    (lk : K.lookup f = some ⟨oc, od, .func (PySem.W.fnOf "law" "law" (defArgs s_law) (defBody s_law) (defScope s_law) .none kV doc pm an (.ref c) ct), osl⟩) (hcd : PySem.W.codeIn K (.ref c) "law" = true) :
    FnOk P w K mg base (L2N.CX P w) 8 f (PySem.W.fnOf "law" "law" (defArgs s_law) (defBody s_law) (defScope s_law) .none kV doc pm an (.ref c) ct) ["script"] (spL K mg T d_law) := by
  obtain ⟨fT, fdT, fW, fdW, O⟩ := told_ok (P := P) (w := w) (base := base) tx
  exact fnL 1 15 lk hcd sc_law rfl rfl (fun A outer s H E hr => dss_cons (ds_for (passes_of rfl) rfl (di_range1 tx.b_range (da_cons (de_callB (call_max2 rfl) rc_max2 tx.b_max (by decide +kernel) (da_cons (de_int) (da_cons (de_callB (call_min2 rfl) rc_min2 tx.b_min (by decide +kernel) (da_cons (de_int) (da_cons (de_callB call_len rc_len tx.b_len PySem.boot_len (da_cons (de_var 0) (da_nil))) (da_nil)))) (da_nil)))) (da_nil))) (dg_name 1 sc_law.nd) (dss_cons (ds_set 2 sc_law.nd (de_callP (ok__law_drawn tx) (hr.mono (by decide)) tk_def (da_cons (de_callP (ok__law_cell tx) (hr.mono (by decide)) tk_def (da_cons (de_var 0) (da_cons (de_var 1) (da_nil)))) (da_cons (de_var 1) (da_nil)))))
  (dss_cons (ds_set 3 sc_law.nd (de_op op_addA r_add (de_callP (ok__law_text tx) (hr.mono (by decide)) tk_def (da_cons (de_var 2) (da_cons (de_int) (da_nil)))) (de_str)))
  (dss_cons (ds_set 4 sc_law.nd (de_told (k := 4) O L.TB rfl L.hm L.hu (hr.mono (by decide)) (LamX.lamS_by (by kernel_rfl)) (fun A outer s H E f c' hr => de_callP (ok_coded tx) (hr.mono (by decide)) tk_def (da_cons (de_var 3) (da_nil)))))
  (dss_cons (ds_if (dw_pt (dw_or (dt_not (dt_val (de_isP (de_var 4) tx.b_isinstance tx.b_tuple))) (dw_or1 (dt_cmp (op_neA hr.units) r_ne (de_callB call_len rc_len tx.b_len PySem.boot_len (da_cons (de_var 4) (da_nil))) (de_int) (nomark _))))) (dss_one (ds_ret (de_bl))) (dss_nil))
  (dss_cons (ds_unp4 5 6 7 8 sc_law.nd rfl (de_var 4))
  (dss_cons (ds_setLc (own := [("sign", 15)]) 9 rfl sc_law.nd (di_seq (de_var 5)) (blkOk_by (by kernel_rfl)) (tgok_name 15) (fun _ _ _ _ _ => pg_name (i := 15) sc_law.nd rfl (by first | exact Or.inl rfl | exact Or.inr rfl)) (fun _ _ _ _ _ => dts_nil) (fun _ _ _ _ _ => de_count (de_var 3) (de_var 15)) (sw_true rfl rfl rfl (by decide +kernel)))
  (dss_cons (ds_if (dw_pt (dw_or (dt_cmp (op_neA hr.units) r_ne (de_var 5) (de_join (de_str) (de_srtSet rfl tx.b_sorted tx.b_set (da_cons (de_var 3) (da_nil)))) (nomark _)) (dw_or (dt_cmp (op_neA hr.units) r_ne (de_var 7) (de_callB call_len rc_len tx.b_len PySem.boot_len (da_cons (de_var 3) (da_nil))) (nomark _)) (dw_or1 (dt_cmp (op_neA hr.units) r_ne (de_callB call_len rc_len tx.b_len PySem.boot_len (da_cons (de_var 8) (da_nil))) (de_callP (ok__law_least tx) (hr.mono (by decide)) tk_def (da_cons (de_var 9) (da_nil))) (nomark _)))))) (dss_one (ds_ret (de_bl))) (dss_nil))
  (dss_cons (ds_set 10 sc_law.nd (de_callP (ok_words tx) (hr.mono (by decide)) tk_def (da_cons (de_var 6) (da_nil))))
  (dss_cons (ds_if (dt_cmp (op_neA hr.units) r_ne (de_var 8) (de_join (de_str) (dl_de (dl_lc (own := [("sign", 15)]) rfl sc_law.nd (di_seq (de_var 3)) (blkOk_by (by kernel_rfl)) (tgok_name 15) (fun _ _ _ _ _ => pg_name (i := 15) sc_law.nd rfl (by first | exact Or.inl rfl | exact Or.inr rfl)) (fun _ _ _ _ _ => dts_nil) (fun _ _ _ _ _ => de_ix (de_var 10) (de_idx (de_var 5) (de_var 15)))))) (nomark _)) (dss_one (ds_ret (de_bl))) (dss_nil))
  (dss_cons (ds_if (dt_cmp (op_neA hr.units) r_ne (de_told (k := 3) O L.TB rfl L.hm L.hu (hr.mono (by decide)) (LamX.lamS_by (by kernel_rfl)) (fun A outer s H E f c' hr => de_callP (ok_decoded tx) (hr.mono (by decide)) tk_def (da_cons (de_var 5) (da_cons (de_var 6) (da_cons (de_var 7) (da_cons (de_var 8) (da_nil))))))) (de_var 3) (nomark _)) (dss_one (ds_ret (de_bl))) (dss_nil))
  (dss_cons (ds_set 11 sc_law.nd (de_callP (ok__law_bits tx) (hr.mono (by decide)) tk_def (da_cons (de_op op_mod r_mod (de_op op_fdivW r_fdiv (de_var 2) (de_op op_pow r_pow (de_int) (de_int))) (de_op op_pow r_pow (de_int) (de_int))) (da_cons (de_op op_mod r_mod (de_op op_fdivW r_fdiv (de_var 2) (de_op op_pow r_pow (de_int) (de_int))) (de_int)) (da_nil)))))
  (dss_cons (ds_set 12 sc_law.nd (de_lst (da_cons (de_tup (da_cons (de_op op_addA r_add (de_var 8) (de_str)) (da_cons (de_var 7) (da_nil)))) (da_cons (de_tup (da_cons (de_slice (de_var 8) (do_some (de_int)) (do_none)) (da_cons (de_var 7) (da_nil)))) (da_cons (de_tup (da_cons (de_var 8) (da_cons (de_op op_addA r_add (de_var 7) (de_int)) (da_nil)))) (da_nil))))))
  (dss_cons (ds_set 12 sc_law.nd (de_op op_addA r_add (de_var 12) (de_lst (da_cons (de_tup (da_cons (de_var 11) (da_cons (de_op op_addA r_add (de_op op_mod r_mod (de_op op_fdivW r_fdiv (de_var 2) (de_int)) (de_int)) (de_int)) (da_nil)))) (da_nil)))))
  (dss_cons (ds_for (passes_of rfl) rfl (di_seq (de_op op_addA r_add (de_var 12) (de_lst (da_cons (de_tup (da_cons (de_op op_addA r_add (de_var 8) (de_var 11)) (da_cons (de_op op_addA r_add (de_var 7) (de_int)) (da_nil)))) (da_nil))))) (dg_pair 13 14 sc_law.nd rfl) (dss_one (ds_if (dt_cmp (op_neA hr.units) r_ne (de_told (k := 3) O L.TB rfl L.hm L.hu (hr.mono (by decide)) (LamX.lamS_by (by kernel_rfl)) (fun A outer s H E f c' hr => de_callP (ok_decoded tx) (hr.mono (by decide)) tk_def (da_cons (de_var 5) (da_cons (de_var 6) (da_cons (de_var 14) (da_cons (de_var 13) (da_nil))))))) (de_callP (ok__law_read tx) (hr.mono (by decide)) tk_def (da_cons (de_var 5) (da_cons (de_var 10) (da_cons (de_var 14) (da_cons (de_var 13) (da_nil)))))) (nomark _)) (dss_one (ds_ret (de_bl))) (dss_nil))))
  (dss_cons (ds_if (dt_cmp (op_neA hr.units) r_ne (dl_de (dl_lc (own := [("count", 14)]) rfl sc_law.nd (di_seq (de_lst (da_cons (de_int) (da_cons (de_un un_neg r_neg (de_int)) (da_cons (de_int) (da_nil)))))) (blkOk_by (by kernel_rfl)) (tgok_name 14) (fun _ _ _ _ _ => pg_name (i := 14) sc_law.nd rfl (by first | exact Or.inl rfl | exact Or.inr rfl)) (fun _ _ _ _ _ => dts_nil) (fun _ _ _ _ _ => de_told (k := 3) O L.TB rfl L.hm L.hu (hr.mono (by decide)) (LamX.lamS_by (by kernel_rfl)) (fun A outer s H E f c' hr => de_callP (ok_decoded tx) (hr.mono (by decide)) tk_def (da_cons (de_var 5) (da_cons (de_var 6) (da_cons (de_var 14) (da_cons (de_var 8) (da_nil))))))))) (de_op op_mulA r_mul (de_lst (da_cons (de_str) (da_nil))) (de_int)) (nomark _)) (dss_one (ds_ret (de_bl))) (dss_nil))
  (dss_one (ds_if (dt_not (dt_val (de_callQ (ok__law_refused_right tx lm) (hr.mono (by decide)) tk_def (da_cons (de_var 5) (da_cons (de_var 6) (da_cons (de_var 7) (da_cons (de_var 8) (da_nil)))))))) (dss_one (ds_ret (de_bl))) (dss_nil)))))))))))))))))))
  (dss_one (ds_ret (de_bl))))
end
end Lw


set_option Elab.async false
set_option linter.all false
set_option maxRecDepth 100000
set_option maxHeartbeats 4000000
namespace Lw
open PySem PySem.Spec L2 Dn
theorem cut_to {α : Type} (l : List α) (j : Nat) : cutL l none (some (j : Int)) = l.take j := by
  unfold cutL
  rw [sIx_nat, HT.sIx_none, List.drop_zero, Nat.sub_zero]
  by_cases h : j ≤ l.length
  · rw [Nat.min_eq_left h]
  · rw [Nat.min_eq_right (by omega), List.take_length, List.take_of_length_le (by omega)]
theorem cut_from {α : Type} (l : List α) (i : Nat) : cutL l (some (i : Int)) none = l.drop i := by
  unfold cutL
  rw [sIx_nat, HT.sIx_none]
  by_cases h : i ≤ l.length
  · rw [Nat.min_eq_left h, List.take_of_length_le (by rw [List.length_drop]; omega)]
  · rw [Nat.min_eq_right (by omega), List.drop_length, List.drop_of_length_le (by omega)]
    simp
theorem slD_lst {xs : List D} (lo hi : Option Int) : slD (.lst xs) lo hi = .ok (.lst (cutL xs lo hi)) := rfl
theorem at_nat {α : Type} {l : List α} {p : Int} (h0 : 0 ≤ p) (h : p.toNat < l.length) : atI l p = some l[p.toNat] := by
  unfold atI ixN
  rw [if_pos h0, if_pos (by omega)]
  exact List.getElem?_eq_getElem h
/-! ### counts -/
def isCnt : D → Bool
  | .int z => decide (0 < z)
  | _ => false
def flatC : D → Prop
  | .int _ => True
  | .bl _ => True
  | .non => True
  | _ => False
theorem is_count_is (d : D) (h : flatC d) : d_is_count [d] = .ok (.bl (isCnt d)) := by
  rw [d_is_count, run_eq (by rfl)]; unfold b_is_count
  cases d <;> first | exact h.elim | skip
  · simp [andV, isCnt]
  · simp [andV, isCnt]
  · simp [andV, isCnt]
theorem all_map {α : Type} (f : α → Bool) (l : List α) : allD [.lst (l.map fun x => .bl (f x))] = .ok (.bl (l.all f)) := by
  have e : (l.map fun x => D.bl (f x)) = (l.map f).map D.bl := by rw [List.map_map]; rfl
  rw [e]
  show (match boolsO ((l.map f).map D.bl) with | some ns => Res.ok (D.bl (ns.all id)) | _ => .stuck) = _
  rw [bools_map]
  simp
def okCs (xs : List D) : Bool := decide (1 ≤ xs.length) && decide (xs.length ≤ 94) && xs.all isCnt
theorem need_counts_is (xs : List D) (hf : ∀ d ∈ xs, flatC d) (hl : xs.length ≤ line) : d_need_counts [.lst xs] = if okCs xs = true then .ok .non else .rs "BadNumber" := by
  rw [d_need_counts, run_eq (by rfl)]; unfold b_need_counts
  have e := lcN_map (δ := [.val (.lst xs), .no]) (vs := [1]) (j := 1) (fe := app d_is_count (consA (vr 1) nilA)) (fi := itS (vr 0)) (xs := xs) (f := fun d => .bl (isCnt d)) (by simp) hl fun x hx => by
    simp only [seqS_eq, seq_nx, seq_rt, seq_rs, asg_eq, asgN_eq, drp_eq, retS_eq, retN_eq, rais_eq, ifS_eq, forF_eq, itS_eq, rngA_eq, vr_eq, cst_eq, bin_eq, un_eq, consA_eq, nilA_eq, app_eq, tst_eq, asB_bl, andT_eq, orT_eq, notT_eq, notD_bl, ifE_eq, newA_eq, lstE_eq, noP_eq, part_eq, asP_int, slc_eq, binS_eq, yes_eq, List.getElem?_cons_succ, List.getElem?_cons_zero, List.set, bind_ok, bind_rs, out_ok, out_rs, fin_rt, fin_rs, fin_nx, if_true, Bool.false_eq_true, if_false, Bool.not_true, Bool.not_false, decide_true, decide_false, nopS_eq, addD_int, subD_int, negD_int, ltD_int, leD_int, gtD_int, geD_int, eqD_int, neD_int, eqD_str, neD_str, lenD_lst, lenD_tup, lenD_scr, max2D_int, min2D_int, asSeq_lst, asSeq_tup, asSeq_str, binN_eq, frzS_eq, appS_eq, ixO_eq, stoS_eq, lenO_eq, asgU_eq, tgU_tup, tgU_lst, tgP_tup, asg2_eq, chn_eq, lnk_bl, isID_int, isID_bl, isID_non, isBD_int, isBD_bl, isBD_non, isPD_tup, isLD_lst, isLD_str, enumD_lst, zipD_lst, List.map_cons, List.map_nil, List.replicate_succ, List.replicate_zero, List.cons_append, List.nil_append, enumA_lst, wipeS, is_count_is x (hf x hx)]
  have e2 := all_map isCnt xs
  by_cases h1 : 1 ≤ xs.length
  · by_cases h2 : xs.length ≤ 94
    · have a1 : decide ((1 : Int) ≤ (xs.length : Int)) = true := decide_eq_true (by omega)
      have a2 : decide ((xs.length : Int) ≤ 94) = true := decide_eq_true (by omega)
      simp only [seqS_eq, seq_nx, seq_rt, seq_rs, asg_eq, asgN_eq, drp_eq, retS_eq, retN_eq, rais_eq, ifS_eq, forF_eq, itS_eq, rngA_eq, vr_eq, cst_eq, bin_eq, un_eq, consA_eq, nilA_eq, app_eq, tst_eq, asB_bl, andT_eq, orT_eq, notT_eq, notD_bl, ifE_eq, newA_eq, lstE_eq, noP_eq, part_eq, asP_int, slc_eq, binS_eq, yes_eq, List.getElem?_cons_succ, List.getElem?_cons_zero, List.set, bind_ok, bind_rs, out_ok, out_rs, fin_rt, fin_rs, fin_nx, if_true, Bool.false_eq_true, if_false, Bool.not_true, Bool.not_false, decide_true, decide_false, nopS_eq, addD_int, subD_int, negD_int, ltD_int, leD_int, gtD_int, geD_int, eqD_int, neD_int, eqD_str, neD_str, lenD_lst, lenD_tup, lenD_scr, max2D_int, min2D_int, asSeq_lst, asSeq_tup, asSeq_str, binN_eq, frzS_eq, appS_eq, ixO_eq, stoS_eq, lenO_eq, asgU_eq, tgU_tup, tgU_lst, tgP_tup, asg2_eq, chn_eq, lnk_bl, isID_int, isID_bl, isID_non, isBD_int, isBD_bl, isBD_non, isPD_tup, isLD_lst, isLD_str, enumD_lst, zipD_lst, List.map_cons, List.map_nil, List.replicate_succ, List.replicate_zero, List.cons_append, List.nil_append, enumA_lst, a1, a2, e, e2, okCs, decide_eq_true h1, decide_eq_true h2, Bool.true_and]
      cases xs.all isCnt <;> rfl
    · have a1 : decide ((1 : Int) ≤ (xs.length : Int)) = true := decide_eq_true (by omega)
      have a2 : decide ((xs.length : Int) ≤ 94) = false := decide_eq_false (by omega)
      simp only [seqS_eq, seq_nx, seq_rt, seq_rs, asg_eq, asgN_eq, drp_eq, retS_eq, retN_eq, rais_eq, ifS_eq, forF_eq, itS_eq, rngA_eq, vr_eq, cst_eq, bin_eq, un_eq, consA_eq, nilA_eq, app_eq, tst_eq, asB_bl, andT_eq, orT_eq, notT_eq, notD_bl, ifE_eq, newA_eq, lstE_eq, noP_eq, part_eq, asP_int, slc_eq, binS_eq, yes_eq, List.getElem?_cons_succ, List.getElem?_cons_zero, List.set, bind_ok, bind_rs, out_ok, out_rs, fin_rt, fin_rs, fin_nx, if_true, Bool.false_eq_true, if_false, Bool.not_true, Bool.not_false, decide_true, decide_false, nopS_eq, addD_int, subD_int, negD_int, ltD_int, leD_int, gtD_int, geD_int, eqD_int, neD_int, eqD_str, neD_str, lenD_lst, lenD_tup, lenD_scr, max2D_int, min2D_int, asSeq_lst, asSeq_tup, asSeq_str, binN_eq, frzS_eq, appS_eq, ixO_eq, stoS_eq, lenO_eq, asgU_eq, tgU_tup, tgU_lst, tgP_tup, asg2_eq, chn_eq, lnk_bl, isID_int, isID_bl, isID_non, isBD_int, isBD_bl, isBD_non, isPD_tup, isLD_lst, isLD_str, enumD_lst, zipD_lst, List.map_cons, List.map_nil, List.replicate_succ, List.replicate_zero, List.cons_append, List.nil_append, enumA_lst, a1, a2, okCs, decide_eq_true h1, decide_eq_false h2, Bool.true_and, Bool.false_and]
  · have a1 : decide ((1 : Int) ≤ (xs.length : Int)) = false := decide_eq_false (by omega)
    simp only [seqS_eq, seq_nx, seq_rt, seq_rs, asg_eq, asgN_eq, drp_eq, retS_eq, retN_eq, rais_eq, ifS_eq, forF_eq, itS_eq, rngA_eq, vr_eq, cst_eq, bin_eq, un_eq, consA_eq, nilA_eq, app_eq, tst_eq, asB_bl, andT_eq, orT_eq, notT_eq, notD_bl, ifE_eq, newA_eq, lstE_eq, noP_eq, part_eq, asP_int, slc_eq, binS_eq, yes_eq, List.getElem?_cons_succ, List.getElem?_cons_zero, List.set, bind_ok, bind_rs, out_ok, out_rs, fin_rt, fin_rs, fin_nx, if_true, Bool.false_eq_true, if_false, Bool.not_true, Bool.not_false, decide_true, decide_false, nopS_eq, addD_int, subD_int, negD_int, ltD_int, leD_int, gtD_int, geD_int, eqD_int, neD_int, eqD_str, neD_str, lenD_lst, lenD_tup, lenD_scr, max2D_int, min2D_int, asSeq_lst, asSeq_tup, asSeq_str, binN_eq, frzS_eq, appS_eq, ixO_eq, stoS_eq, lenO_eq, asgU_eq, tgU_tup, tgU_lst, tgP_tup, asg2_eq, chn_eq, lnk_bl, isID_int, isID_bl, isID_non, isBD_int, isBD_bl, isBD_non, isPD_tup, isLD_lst, isLD_str, enumD_lst, zipD_lst, List.map_cons, List.map_nil, List.replicate_succ, List.replicate_zero, List.cons_append, List.nil_append, enumA_lst, a1, okCs, decide_eq_false h1, Bool.false_and]
/-! ### lengths -/
def fsD (fs : List Nat) : List D := fs.map fun (f : Nat) => .int (f : Int)
def isD (m : List Nat) : List D := m.map fun (i : Nat) => .int (i : Int)
theorem fsD_len (fs : List Nat) : (fsD fs).length = fs.length := List.length_map _
theorem ixN_nat {n i : Nat} (h : i < n) : ixN n (i : Int) = some i := by
  unfold ixN
  rw [if_pos (by omega), if_pos (by omega), Int.toNat_natCast]
theorem ix_nat {xs : List D} {i : Nat} {d : D} (h : xs[i]? = some d) : ixD (.lst xs) (.int (i : Int)) = .ok d := by
  have hi : i < xs.length := (List.getElem?_eq_some_iff.mp h).1
  show (match atI xs (i : Int) with | some d => Res.ok d | none => .stuck) = _
  unfold atI
  rw [ixN_nat hi]
  show (match xs[i]? with | some d => Res.ok d | none => .stuck) = _
  rw [h]
theorem for_bump (v0 v2 v3 v4 v6 : Slot) : ∀ (m fs : List Nat) (s5 : Slot), (∀ i ∈ m, i < fs.length) → ∃ s5', forS (tgN 5) (stoS 1 (vr 5) (bin addD (ixO 1 (vr 5)) (cst (.int 1)))) (isD m) [v0, .own (fsD fs), v2, v3, v4, s5, v6] = .nx [v0, .own (fsD (bump m fs)), v2, v3, v4, s5', v6]
  | [], fs, s5, _ => ⟨s5, rfl⟩
  | i :: m, fs, s5, h => by
    have hi := h i List.mem_cons_self
    obtain ⟨s5', e⟩ := for_bump v0 v2 v3 v4 v6 m (fs.set i (fs.getD i 0 + 1)) (.val (.int (i : Int))) fun k hk => by rw [List.length_set]; exact h k (List.mem_cons_of_mem _ hk)
    refine ⟨s5', ?_⟩
    have g : (fsD fs)[i]? = some (.int ((fs.getD i 0 : Nat) : Int)) := by
      unfold fsD
      rw [List.getElem?_map, List.getElem?_eq_getElem hi, List.getD_eq_getElem?_getD, List.getElem?_eq_getElem hi]; rfl
    have st : (fsD fs).set i (.int (((fs.getD i 0 : Nat) : Int) + 1)) = fsD (fs.set i (fs.getD i 0 + 1)) := by
      unfold fsD
      rw [List.map_set]; rfl
    show forS _ _ (.int (i : Int) :: isD m) _ = _
    rw [for_step (δ1 := [v0, .own (fsD fs), v2, v3, v4, .val (.int (i : Int)), v6]) (δ' := [v0, .own (fsD (fs.set i (fs.getD i 0 + 1))), v2, v3, v4, .val (.int (i : Int)), v6]) rfl (by
      simp only [seqS_eq, seq_nx, seq_rt, seq_rs, asg_eq, asgN_eq, drp_eq, retS_eq, retN_eq, rais_eq, ifS_eq, forF_eq, itS_eq, rngA_eq, vr_eq, cst_eq, bin_eq, un_eq, consA_eq, nilA_eq, app_eq, tst_eq, asB_bl, andT_eq, orT_eq, notT_eq, notD_bl, ifE_eq, newA_eq, lstE_eq, noP_eq, part_eq, asP_int, slc_eq, binS_eq, yes_eq, List.getElem?_cons_succ, List.getElem?_cons_zero, List.set, bind_ok, bind_rs, out_ok, out_rs, fin_rt, fin_rs, fin_nx, if_true, Bool.false_eq_true, if_false, Bool.not_true, Bool.not_false, decide_true, decide_false, nopS_eq, addD_int, subD_int, negD_int, ltD_int, leD_int, gtD_int, geD_int, eqD_int, neD_int, eqD_str, neD_str, lenD_lst, lenD_tup, lenD_scr, max2D_int, min2D_int, asSeq_lst, asSeq_tup, asSeq_str, binN_eq, frzS_eq, appS_eq, ixO_eq, stoS_eq, lenO_eq, asgU_eq, tgU_tup, tgU_lst, tgP_tup, asg2_eq, chn_eq, lnk_bl, isID_int, isID_bl, isID_non, isBD_int, isBD_bl, isBD_non, isPD_tup, isLD_lst, isLD_str, enumD_lst, zipD_lst, List.map_cons, List.map_nil, List.replicate_succ, List.replicate_zero, List.cons_append, List.nil_append, enumA_lst, ix_nat g, fsD_len, ixN_nat hi, st]), e]
    rfl
theorem hs_P3 (hs : List Hf) : (hs.map hD).all isP3 = true := List.all_eq_true.mpr fun d hd => by
  obtain ⟨h, _, rfl⟩ := List.mem_map.mp hd
  rfl
theorem body_len (v0 : Slot) (fs : List Nat) (hs : List Hf) (a b : Hf) (r : List Hf) (e : srtL ltH hs = a :: b :: r) (hk : ((hs.map hD).map k2).Nodup) (hm : ∀ i ∈ a.2.2 ++ b.2.2, i < fs.length) (hl : a.2.2.length + b.2.2.length ≤ 1000) (hl2 : r.length ≤ 1000) (s3 s4 s5 s6 : Slot) :
    ∃ s5', wb_lengths_1 [v0, .own (fsD fs), .val (.lst (hs.map hD)), s3, s4, s5, s6] = .nx [v0, .own (fsD (bump (a.2.2 ++ b.2.2) fs)), .val (.lst ((r ++ [joinH a b]).map hD)), .val (hD a), .val (hD b), s5', s6] := by
  unfold wb_lengths_1
  have so : sortedD [.lst (hs.map hD)] = .ok (.lst (hD a :: hD b :: r.map hD)) := by
    rw [sorted_tups (.inr ⟨hs_P3 hs, hk⟩), srt_map (lt := ltH) hD lt_hD, e]; rfl
  have sl1 : cutL (hD a :: hD b :: r.map hD) none (some 2) = [hD a, hD b] := cut_to _ 2
  have sl2 : cutL (hD a :: hD b :: r.map hD) (some 2) none = r.map hD := cut_from _ 2
  have ia2 : ixD (hD a) (.int 2) = .ok (.lst (isD a.2.2)) := rfl
  have ib2 : ixD (hD b) (.int 2) = .ok (.lst (isD b.2.2)) := rfl
  have ia1 : ixD (hD a) (.int 1) = .ok (.int (a.2.1 : Int)) := rfl
  have ib1 : ixD (hD b) (.int 1) = .ok (.int (b.2.1 : Int)) := rfl
  have ia0 : ixD (hD a) (.int 0) = .ok (.int a.1) := rfl
  have ib0 : ixD (hD b) (.int 0) = .ok (.int b.1) := rfl
  have ad : addD (.lst (isD a.2.2)) (.lst (isD b.2.2)) = .ok (.lst (isD (a.2.2 ++ b.2.2))) := by
    rw [addD_lst (by unfold isD; simp only [List.length_map, line]; omega)]
    unfold isD; rw [List.map_append]
  obtain ⟨s5', eb⟩ := for_bump v0 (.val (.lst (hD a :: hD b :: r.map hD))) (.val (hD a)) (.val (hD b)) s6 (a.2.2 ++ b.2.2) fs s5 hm
  refine ⟨s5', ?_⟩
  rw [seq_to (δ' := [v0, .own (fsD fs), .val (.lst (hD a :: hD b :: r.map hD)), s3, s4, s5, s6]) (by simp only [seqS_eq, seq_nx, seq_rt, seq_rs, asg_eq, asgN_eq, drp_eq, retS_eq, retN_eq, rais_eq, ifS_eq, forF_eq, itS_eq, rngA_eq, vr_eq, cst_eq, bin_eq, un_eq, consA_eq, nilA_eq, app_eq, tst_eq, asB_bl, andT_eq, orT_eq, notT_eq, notD_bl, ifE_eq, newA_eq, lstE_eq, noP_eq, part_eq, asP_int, slc_eq, binS_eq, yes_eq, List.getElem?_cons_succ, List.getElem?_cons_zero, List.set, bind_ok, bind_rs, out_ok, out_rs, fin_rt, fin_rs, fin_nx, if_true, Bool.false_eq_true, if_false, Bool.not_true, Bool.not_false, decide_true, decide_false, nopS_eq, addD_int, subD_int, negD_int, ltD_int, leD_int, gtD_int, geD_int, eqD_int, neD_int, eqD_str, neD_str, lenD_lst, lenD_tup, lenD_scr, max2D_int, min2D_int, asSeq_lst, asSeq_tup, asSeq_str, binN_eq, frzS_eq, appS_eq, ixO_eq, stoS_eq, lenO_eq, asgU_eq, tgU_tup, tgU_lst, tgP_tup, asg2_eq, chn_eq, lnk_bl, isID_int, isID_bl, isID_non, isBD_int, isBD_bl, isBD_non, isPD_tup, isLD_lst, isLD_str, enumD_lst, zipD_lst, List.map_cons, List.map_nil, List.replicate_succ, List.replicate_zero, List.cons_append, List.nil_append, enumA_lst, so])]
  rw [seq_to (δ' := [v0, .own (fsD fs), .val (.lst (hD a :: hD b :: r.map hD)), .val (hD a), .val (hD b), s5, s6]) (by simp only [seqS_eq, seq_nx, seq_rt, seq_rs, asg_eq, asgN_eq, drp_eq, retS_eq, retN_eq, rais_eq, ifS_eq, forF_eq, itS_eq, rngA_eq, vr_eq, cst_eq, bin_eq, un_eq, consA_eq, nilA_eq, app_eq, tst_eq, asB_bl, andT_eq, orT_eq, notT_eq, notD_bl, ifE_eq, newA_eq, lstE_eq, noP_eq, part_eq, asP_int, slc_eq, binS_eq, yes_eq, List.getElem?_cons_succ, List.getElem?_cons_zero, List.set, bind_ok, bind_rs, out_ok, out_rs, fin_rt, fin_rs, fin_nx, if_true, Bool.false_eq_true, if_false, Bool.not_true, Bool.not_false, decide_true, decide_false, nopS_eq, addD_int, subD_int, negD_int, ltD_int, leD_int, gtD_int, geD_int, eqD_int, neD_int, eqD_str, neD_str, lenD_lst, lenD_tup, lenD_scr, max2D_int, min2D_int, asSeq_lst, asSeq_tup, asSeq_str, binN_eq, frzS_eq, appS_eq, ixO_eq, stoS_eq, lenO_eq, asgU_eq, tgU_tup, tgU_lst, tgP_tup, asg2_eq, chn_eq, lnk_bl, isID_int, isID_bl, isID_non, isBD_int, isBD_bl, isBD_non, isPD_tup, isLD_lst, isLD_str, enumD_lst, zipD_lst, List.map_cons, List.map_nil, List.replicate_succ, List.replicate_zero, List.cons_append, List.nil_append, enumA_lst, slD_lst, sl1])]
  rw [seq_to (δ' := [v0, .own (fsD (bump (a.2.2 ++ b.2.2) fs)), .val (.lst (hD a :: hD b :: r.map hD)), .val (hD a), .val (hD b), s5', s6]) (by simp only [seqS_eq, seq_nx, seq_rt, seq_rs, asg_eq, asgN_eq, drp_eq, retS_eq, retN_eq, rais_eq, ifS_eq, forF_eq, itS_eq, rngA_eq, vr_eq, cst_eq, bin_eq, un_eq, consA_eq, nilA_eq, app_eq, tst_eq, asB_bl, andT_eq, orT_eq, notT_eq, notD_bl, ifE_eq, newA_eq, lstE_eq, noP_eq, part_eq, asP_int, slc_eq, binS_eq, yes_eq, List.getElem?_cons_succ, List.getElem?_cons_zero, List.set, bind_ok, bind_rs, out_ok, out_rs, fin_rt, fin_rs, fin_nx, if_true, Bool.false_eq_true, if_false, Bool.not_true, Bool.not_false, decide_true, decide_false, nopS_eq, addD_int, subD_int, negD_int, ltD_int, leD_int, gtD_int, geD_int, eqD_int, neD_int, eqD_str, neD_str, lenD_lst, lenD_tup, lenD_scr, max2D_int, min2D_int, asSeq_lst, asSeq_tup, asSeq_str, binN_eq, frzS_eq, appS_eq, ixO_eq, stoS_eq, lenO_eq, asgU_eq, tgU_tup, tgU_lst, tgP_tup, asg2_eq, chn_eq, lnk_bl, isID_int, isID_bl, isID_non, isBD_int, isBD_bl, isBD_non, isPD_tup, isLD_lst, isLD_str, enumD_lst, zipD_lst, List.map_cons, List.map_nil, List.replicate_succ, List.replicate_zero, List.cons_append, List.nil_append, enumA_lst, ia2, ib2, ad, eb])]
  have mt : mkT [.int (a.1 + b.1), .int (min (a.2.1 : Int) (b.2.1 : Int)), .lst (isD (a.2.2 ++ b.2.2))] = .ok (hD (joinH a b)) := by
    have e3 : mkT [.int (a.1 + b.1), .int (min (a.2.1 : Int) (b.2.1 : Int)), .lst (isD (a.2.2 ++ b.2.2))] = .ok (.tup [.int (a.1 + b.1), .int (min (a.2.1 : Int) (b.2.1 : Int)), .lst (isD (a.2.2 ++ b.2.2))]) := if_pos (by show 3 ≤ line; decide)
    rw [e3]
    unfold hD joinH isD
    rw [show min (a.2.1 : Int) (b.2.1 : Int) = ((min a.2.1 b.2.1 : Nat) : Int) by omega]
  have ml : mkL [hD (joinH a b)] = .ok (.lst [hD (joinH a b)]) := mkL_ok (by show 1 ≤ line; decide)
  have ad2 : addD (.lst (r.map hD)) (.lst [hD (joinH a b)]) = .ok (.lst ((r ++ [joinH a b]).map hD)) := by
    rw [addD_lst (by simp only [List.length_map, List.length_singleton, line]; omega), List.map_append]; rfl
  simp only [seqS_eq, seq_nx, seq_rt, seq_rs, asg_eq, asgN_eq, drp_eq, retS_eq, retN_eq, rais_eq, ifS_eq, forF_eq, itS_eq, rngA_eq, vr_eq, cst_eq, bin_eq, un_eq, consA_eq, nilA_eq, app_eq, tst_eq, asB_bl, andT_eq, orT_eq, notT_eq, notD_bl, ifE_eq, newA_eq, lstE_eq, noP_eq, part_eq, asP_int, slc_eq, binS_eq, yes_eq, List.getElem?_cons_succ, List.getElem?_cons_zero, List.set, bind_ok, bind_rs, out_ok, out_rs, fin_rt, fin_rs, fin_nx, if_true, Bool.false_eq_true, if_false, Bool.not_true, Bool.not_false, decide_true, decide_false, nopS_eq, addD_int, subD_int, negD_int, ltD_int, leD_int, gtD_int, geD_int, eqD_int, neD_int, eqD_str, neD_str, lenD_lst, lenD_tup, lenD_scr, max2D_int, min2D_int, asSeq_lst, asSeq_tup, asSeq_str, binN_eq, frzS_eq, appS_eq, ixO_eq, stoS_eq, lenO_eq, asgU_eq, tgU_tup, tgU_lst, tgP_tup, asg2_eq, chn_eq, lnk_bl, isID_int, isID_bl, isID_non, isBD_int, isBD_bl, isBD_non, isPD_tup, isLD_lst, isLD_str, enumD_lst, zipD_lst, List.map_cons, List.map_nil, List.replicate_succ, List.replicate_zero, List.cons_append, List.nil_append, enumA_lst, slD_lst, sl2, ia0, ia1, ia2, ib0, ib1, ib2, ad, mt, ml, ad2]
theorem srt_two (hs : List Hf) (h : 2 ≤ hs.length) : ∃ a b r, srtL ltH hs = a :: b :: r ∧ r.length + 2 = hs.length := by
  have hl := srt_len ltH hs
  match e : srtL ltH hs with
  | [] => rw [e] at hl; simp at hl; omega
  | [_] => rw [e] at hl; simp at hl; omega
  | a :: b :: r => exact ⟨a, b, r, rfl, by rw [e] at hl; simpa using hl⟩
theorem hcost_one (n : Nat) (hs : List Hf) (h : hs.length ≤ 1) : hcost n hs = 0 := by
  cases n with
  | zero => rfl
  | succ n =>
    have hl := srt_len ltH hs
    unfold hcost
    match e : srtL ltH hs with
    | [] => rfl
    | [_] => rfl
    | _ :: _ :: _ => rw [e] at hl; simp at hl; omega
theorem hcost_two (n : Nat) (hs : List Hf) (a b : Hf) (r : List Hf) (e : srtL ltH hs = a :: b :: r) : hcost (n + 1) hs = a.1 + b.1 + hcost n (r ++ [joinH a b]) := by
  rw [hcost, e]
theorem mem_len {cs : List Int} {fs : List Nat} {hs : List Hf} (I : HInv cs fs hs) {h : Hf} (hh : h ∈ hs) : h.2.2.length ≤ cs.length := by
  have h1 : h.2.2.length ≤ (hs.map fun h => h.2.2).flatten.length := by
    obtain ⟨x, y, rfl⟩ := List.append_of_mem hh
    rw [List.map_append, List.map_cons, List.flatten_append, List.flatten_cons, List.length_append, List.length_append]
    omega
  rw [I.mem.length_eq, List.length_range] at h1
  exact h1
theorem wh_len (cs : List Int) (hcs : cs.length ≤ 94) (v0 s6 : Slot) : ∀ (N m : Nat) (hs : List Hf) (fs : List Nat) (s3 s4 s5 : Slot), HInv cs fs hs → 1 ≤ hs.length → hs.length < N → hs.length ≤ m → hs.length ≤ 94 →
    ∃ fs' h s3' s4' s5', whS (tst (bin gtD (app lenD (consA (vr 2) nilA)) (cst (.int 1)))) wb_lengths_1 N [v0, .own (fsD fs), .val (.lst (hs.map hD)), s3, s4, s5, s6] = .nx [v0, .own (fsD fs'), .val (.lst [hD h]), s3', s4', s5', s6] ∧ HInv cs fs' [h] ∧ wsum cs fs' = wsum cs fs + hcost m hs
  | 0, _, _, _, _, _, _, _, _, h, _, _ => absurd h (Nat.not_lt_zero _)
  | N + 1, m, hs, fs, s3, s4, s5, I, h1, h2, h3, h4 => by
    by_cases hl : 2 ≤ hs.length
    · obtain ⟨a, b, r, e, hr⟩ := srt_two hs hl
      have I2 : HInv cs fs (a :: b :: r) := e ▸ I.perm (srt_perm ltH hs)
      obtain ⟨I3, hw⟩ := I2.step
      obtain ⟨m', rfl⟩ : ∃ m', m = m' + 1 := ⟨m - 1, by omega⟩
      have la := mem_len I2 (h := a) List.mem_cons_self
      have lb := mem_len I2 (h := b) (List.mem_cons_of_mem _ List.mem_cons_self)
      obtain ⟨s5', eb⟩ := body_len v0 fs hs a b r e I.keys (fun i hi => (List.mem_append.mp hi).elim (I2.lt List.mem_cons_self) (I2.lt (List.mem_cons_of_mem _ List.mem_cons_self))) (by omega) (by omega) s3 s4 s5 s6
      have hl' : (r ++ [joinH a b]).length = r.length + 1 := by simp
      obtain ⟨fs', h, s3', s4', s5'', ew, I', hw'⟩ := wh_len cs hcs v0 s6 N m' (r ++ [joinH a b]) (bump (a.2.2 ++ b.2.2) fs) (.val (hD a)) (.val (hD b)) s5' I3 (by omega) (by omega) (by omega) (by omega)
      refine ⟨fs', h, s3', s4', s5'', ?_, I', ?_⟩
      · rw [wh_step (by simp only [seqS_eq, seq_nx, seq_rt, seq_rs, asg_eq, asgN_eq, drp_eq, retS_eq, retN_eq, rais_eq, ifS_eq, forF_eq, itS_eq, rngA_eq, vr_eq, cst_eq, bin_eq, un_eq, consA_eq, nilA_eq, app_eq, tst_eq, asB_bl, andT_eq, orT_eq, notT_eq, notD_bl, ifE_eq, newA_eq, lstE_eq, noP_eq, part_eq, asP_int, slc_eq, binS_eq, yes_eq, List.getElem?_cons_succ, List.getElem?_cons_zero, List.set, bind_ok, bind_rs, out_ok, out_rs, fin_rt, fin_rs, fin_nx, if_true, Bool.false_eq_true, if_false, Bool.not_true, Bool.not_false, decide_true, decide_false, nopS_eq, addD_int, subD_int, negD_int, ltD_int, leD_int, gtD_int, geD_int, eqD_int, neD_int, eqD_str, neD_str, lenD_lst, lenD_tup, lenD_scr, max2D_int, min2D_int, asSeq_lst, asSeq_tup, asSeq_str, binN_eq, frzS_eq, appS_eq, ixO_eq, stoS_eq, lenO_eq, asgU_eq, tgU_tup, tgU_lst, tgP_tup, asg2_eq, chn_eq, lnk_bl, isID_int, isID_bl, isID_non, isBD_int, isBD_bl, isBD_non, isPD_tup, isLD_lst, isLD_str, enumD_lst, zipD_lst, List.map_cons, List.map_nil, List.replicate_succ, List.replicate_zero, List.cons_append, List.nil_append, enumA_lst, List.length_map]; rw [decide_eq_true (by omega)]) eb, ew]
      · rw [hw', hw, hcost_two m' hs a b r e]
        omega
    · match hs, h1, hl with
      | [h], _, _ =>
        refine ⟨fs, h, s3, s4, s5, ?_, I, ?_⟩
        · rw [wh_end (by simp only [seqS_eq, seq_nx, seq_rt, seq_rs, asg_eq, asgN_eq, drp_eq, retS_eq, retN_eq, rais_eq, ifS_eq, forF_eq, itS_eq, rngA_eq, vr_eq, cst_eq, bin_eq, un_eq, consA_eq, nilA_eq, app_eq, tst_eq, asB_bl, andT_eq, orT_eq, notT_eq, notD_bl, ifE_eq, newA_eq, lstE_eq, noP_eq, part_eq, asP_int, slc_eq, binS_eq, yes_eq, List.getElem?_cons_succ, List.getElem?_cons_zero, List.set, bind_ok, bind_rs, out_ok, out_rs, fin_rt, fin_rs, fin_nx, if_true, Bool.false_eq_true, if_false, Bool.not_true, Bool.not_false, decide_true, decide_false, nopS_eq, addD_int, subD_int, negD_int, ltD_int, leD_int, gtD_int, geD_int, eqD_int, neD_int, eqD_str, neD_str, lenD_lst, lenD_tup, lenD_scr, max2D_int, min2D_int, asSeq_lst, asSeq_tup, asSeq_str, binN_eq, frzS_eq, appS_eq, ixO_eq, stoS_eq, lenO_eq, asgU_eq, tgU_tup, tgU_lst, tgP_tup, asg2_eq, chn_eq, lnk_bl, isID_int, isID_bl, isID_non, isBD_int, isBD_bl, isBD_non, isPD_tup, isLD_lst, isLD_str, enumD_lst, zipD_lst, List.map_cons, List.map_nil, List.replicate_succ, List.replicate_zero, List.cons_append, List.nil_append, enumA_lst]; rfl)]
          rfl
        · rw [hcost_one m [h] (by simp)]
          omega
      | [], h1, _ => simp at h1
      | _ :: _ :: _, _, hl => simp at hl
def hs0 (cs : List Int) : List Hf := cs.mapIdx fun i c => (c, i, [i])
theorem okCs_ints (cs : List Int) (h1 : 1 ≤ cs.length) (h2 : cs.length ≤ 94) (hp : ∀ c ∈ cs, 0 < c) : okCs (cs.map .int) = true := by
  unfold okCs
  rw [List.length_map, decide_eq_true h1, decide_eq_true h2]
  simp only [Bool.true_and]
  refine List.all_eq_true.mpr fun d hd => ?_
  obtain ⟨c, hc, rfl⟩ := List.mem_map.mp hd
  exact decide_eq_true (hp c hc)
theorem flat_ints (cs : List Int) : ∀ d ∈ cs.map D.int, flatC d := fun d hd => by
  obtain ⟨c, _, rfl⟩ := List.mem_map.mp hd
  exact True.intro
theorem mapIdx_map' {α β γ : Type} (g : α → β) (f : Nat → β → γ) (l : List α) : (l.map g).mapIdx f = l.mapIdx fun i a => f i (g a) := by
  apply List.ext_getElem?
  intro j
  simp only [List.getElem?_mapIdx, List.getElem?_map]
  cases l[j]? <;> rfl
theorem map_mapIdx' {α β γ : Type} (g : β → γ) (f : Nat → α → β) (l : List α) : (l.mapIdx f).map g = l.mapIdx fun i a => g (f i a) := by
  apply List.ext_getElem?
  intro j
  simp only [List.getElem?_mapIdx, List.getElem?_map]
  cases l[j]? <;> rfl
theorem enum_ints (cs : List Int) : (cs.map D.int).mapIdx (fun i d => D.tup [.int (i : Int), d]) = cs.mapIdx fun i c => D.tup [.int (i : Int), .int c] := by
  rw [mapIdx_map']
theorem lengths_is (cs : List Int) (h1 : 1 ≤ cs.length) (h2 : cs.length ≤ 94) (hp : ∀ c ∈ cs, 0 < c) : ∃ fs h, d_lengths [.lst (cs.map .int)] = .ok (.lst (fsD fs)) ∧ HInv cs fs [h] ∧ wsum cs fs = hcost cs.length (hs0 cs) := by
  have hl0 : (hs0 cs).length = cs.length := by unfold hs0; rw [List.length_mapIdx]
  obtain ⟨fs, h, s3, s4, s5, ew, I, hw⟩ := wh_len cs h2 (.val (.lst (cs.map .int))) .no 2000000 cs.length (hs0 cs) (List.replicate cs.length 0) .no .no .no (HInv.start cs) (by omega) (by omega) (by omega) (by omega)
  refine ⟨fs, h, ?_, I, by rw [hw, wsum_zero]; omega⟩
  rw [d_lengths, run_eq (by rfl)]; unfold b_lengths
  have nc := need_counts_is (cs.map .int) (flat_ints cs) (by simp only [List.length_map, line]; omega)
  rw [if_pos (okCs_ints cs h1 h2 hp)] at nc
  have mk1 : mkL [D.int 0] = .ok (.lst [.int 0]) := mkL_ok (by show 1 ≤ line; decide)
  have rep : mulN (.lst [D.int 0]) (.int (cs.length : Int)) = .ok (fsD (List.replicate cs.length 0)) := by
    rw [mulN_lst ⟨by omega, by omega, by simp only [List.length_singleton, Int.toNat_natCast, line]; omega⟩, Int.toNat_natCast]
    unfold repL fsD
    rw [List.flatten_replicate_singleton, List.map_replicate]
    rfl
  show (seqS _ _ [.val (.lst (cs.map .int)), .no, .no, .no, .no, .no, .no]).fin = _
  rw [seq_to (δ' := [.val (.lst (cs.map .int)), .no, .no, .no, .no, .no, .no]) (by simp only [seqS_eq, seq_nx, seq_rt, seq_rs, asg_eq, asgN_eq, drp_eq, retS_eq, retN_eq, rais_eq, ifS_eq, forF_eq, itS_eq, rngA_eq, vr_eq, cst_eq, bin_eq, un_eq, consA_eq, nilA_eq, app_eq, tst_eq, asB_bl, andT_eq, orT_eq, notT_eq, notD_bl, ifE_eq, newA_eq, lstE_eq, noP_eq, part_eq, asP_int, slc_eq, binS_eq, yes_eq, List.getElem?_cons_succ, List.getElem?_cons_zero, List.set, bind_ok, bind_rs, out_ok, out_rs, fin_rt, fin_rs, fin_nx, if_true, Bool.false_eq_true, if_false, Bool.not_true, Bool.not_false, decide_true, decide_false, nopS_eq, addD_int, subD_int, negD_int, ltD_int, leD_int, gtD_int, geD_int, eqD_int, neD_int, eqD_str, neD_str, lenD_lst, lenD_tup, lenD_scr, max2D_int, min2D_int, asSeq_lst, asSeq_tup, asSeq_str, binN_eq, frzS_eq, appS_eq, ixO_eq, stoS_eq, lenO_eq, asgU_eq, tgU_tup, tgU_lst, tgP_tup, asg2_eq, chn_eq, lnk_bl, isID_int, isID_bl, isID_non, isBD_int, isBD_bl, isBD_non, isPD_tup, isLD_lst, isLD_str, enumD_lst, zipD_lst, List.map_cons, List.map_nil, List.replicate_succ, List.replicate_zero, List.cons_append, List.nil_append, enumA_lst, nc])]
  rw [seq_to (δ' := [.val (.lst (cs.map .int)), .own (fsD (List.replicate cs.length 0)), .no, .no, .no, .no, .no]) (by simp only [seqS_eq, seq_nx, seq_rt, seq_rs, asg_eq, asgN_eq, drp_eq, retS_eq, retN_eq, rais_eq, ifS_eq, forF_eq, itS_eq, rngA_eq, vr_eq, cst_eq, bin_eq, un_eq, consA_eq, nilA_eq, app_eq, tst_eq, asB_bl, andT_eq, orT_eq, notT_eq, notD_bl, ifE_eq, newA_eq, lstE_eq, noP_eq, part_eq, asP_int, slc_eq, binS_eq, yes_eq, List.getElem?_cons_succ, List.getElem?_cons_zero, List.set, bind_ok, bind_rs, out_ok, out_rs, fin_rt, fin_rs, fin_nx, if_true, Bool.false_eq_true, if_false, Bool.not_true, Bool.not_false, decide_true, decide_false, nopS_eq, addD_int, subD_int, negD_int, ltD_int, leD_int, gtD_int, geD_int, eqD_int, neD_int, eqD_str, neD_str, lenD_lst, lenD_tup, lenD_scr, max2D_int, min2D_int, asSeq_lst, asSeq_tup, asSeq_str, binN_eq, frzS_eq, appS_eq, ixO_eq, stoS_eq, lenO_eq, asgU_eq, tgU_tup, tgU_lst, tgP_tup, asg2_eq, chn_eq, lnk_bl, isID_int, isID_bl, isID_non, isBD_int, isBD_bl, isBD_non, isPD_tup, isLD_lst, isLD_str, enumD_lst, zipD_lst, List.map_cons, List.map_nil, List.replicate_succ, List.replicate_zero, List.cons_append, List.nil_append, enumA_lst, mk1, List.length_map, rep])]
  have lc := lcF_map (δ := [.val (.lst (cs.map .int)), .own (fsD (List.replicate cs.length 0)), .no, .no, .no, .no, .no]) (gt := tgP 5 6) (vs := [5, 6]) (ft := yes) (fe := app mkT (consA (vr 6) (consA (vr 5) (consA (app mkL (consA (vr 5) nilA)) nilA)))) (fi := rngA enumA (consA (vr 0) nilA)) (xs := cs.mapIdx fun i c => D.tup [.int (i : Int), .int c]) (f := fun d => match d with | .tup [i, c] => .tup [c, i, .lst [i]] | d => d)
    (by simp only [seqS_eq, seq_nx, seq_rt, seq_rs, asg_eq, asgN_eq, drp_eq, retS_eq, retN_eq, rais_eq, ifS_eq, forF_eq, itS_eq, rngA_eq, vr_eq, cst_eq, bin_eq, un_eq, consA_eq, nilA_eq, app_eq, tst_eq, asB_bl, andT_eq, orT_eq, notT_eq, notD_bl, ifE_eq, newA_eq, lstE_eq, noP_eq, part_eq, asP_int, slc_eq, binS_eq, yes_eq, List.getElem?_cons_succ, List.getElem?_cons_zero, List.set, bind_ok, bind_rs, out_ok, out_rs, fin_rt, fin_rs, fin_nx, if_true, Bool.false_eq_true, if_false, Bool.not_true, Bool.not_false, decide_true, decide_false, nopS_eq, addD_int, subD_int, negD_int, ltD_int, leD_int, gtD_int, geD_int, eqD_int, neD_int, eqD_str, neD_str, lenD_lst, lenD_tup, lenD_scr, max2D_int, min2D_int, asSeq_lst, asSeq_tup, asSeq_str, binN_eq, frzS_eq, appS_eq, ixO_eq, stoS_eq, lenO_eq, asgU_eq, tgU_tup, tgU_lst, tgP_tup, asg2_eq, chn_eq, lnk_bl, isID_int, isID_bl, isID_non, isBD_int, isBD_bl, isBD_non, isPD_tup, isLD_lst, isLD_str, enumD_lst, zipD_lst, List.map_cons, List.map_nil, List.replicate_succ, List.replicate_zero, List.cons_append, List.nil_append, enumA_lst, enum_ints]) (by rw [List.length_mapIdx]; simp only [line]; omega) (fun x hx => by
      obtain ⟨i, hi, rfl⟩ := List.mem_mapIdx.mp hx
      refine ⟨_, tgP_tup, rfl, ?_⟩
      have m1 : mkL [D.int (i : Int)] = .ok (.lst [.int (i : Int)]) := mkL_ok (by show 1 ≤ line; decide)
      have m3 : ∀ x y z : D, mkT [x, y, z] = .ok (.tup [x, y, z]) := fun x y z => if_pos (by show 3 ≤ line; decide)
      simp only [seqS_eq, seq_nx, seq_rt, seq_rs, asg_eq, asgN_eq, drp_eq, retS_eq, retN_eq, rais_eq, ifS_eq, forF_eq, itS_eq, rngA_eq, vr_eq, cst_eq, bin_eq, un_eq, consA_eq, nilA_eq, app_eq, tst_eq, asB_bl, andT_eq, orT_eq, notT_eq, notD_bl, ifE_eq, newA_eq, lstE_eq, noP_eq, part_eq, asP_int, slc_eq, binS_eq, yes_eq, List.getElem?_cons_succ, List.getElem?_cons_zero, List.set, bind_ok, bind_rs, out_ok, out_rs, fin_rt, fin_rs, fin_nx, if_true, Bool.false_eq_true, if_false, Bool.not_true, Bool.not_false, decide_true, decide_false, nopS_eq, addD_int, subD_int, negD_int, ltD_int, leD_int, gtD_int, geD_int, eqD_int, neD_int, eqD_str, neD_str, lenD_lst, lenD_tup, lenD_scr, max2D_int, min2D_int, asSeq_lst, asSeq_tup, asSeq_str, binN_eq, frzS_eq, appS_eq, ixO_eq, stoS_eq, lenO_eq, asgU_eq, tgU_tup, tgU_lst, tgP_tup, asg2_eq, chn_eq, lnk_bl, isID_int, isID_bl, isID_non, isBD_int, isBD_bl, isBD_non, isPD_tup, isLD_lst, isLD_str, enumD_lst, zipD_lst, List.map_cons, List.map_nil, List.replicate_succ, List.replicate_zero, List.cons_append, List.nil_append, enumA_lst, wipeS, m1, m3])
  have e2 : (cs.mapIdx fun i c => D.tup [.int (i : Int), .int c]).map (fun d => match d with | .tup [i, c] => D.tup [c, i, .lst [i]] | d => d) = (hs0 cs).map hD := by
    unfold hs0
    rw [map_mapIdx', map_mapIdx']
    rfl
  rw [e2] at lc
  rw [seq_to (δ' := [.val (.lst (cs.map .int)), .own (fsD (List.replicate cs.length 0)), .val (.lst ((hs0 cs).map hD)), .no, .no, .no, .no]) (by
    rw [asg_eq, lstE_eq, lc]; rfl)]
  rw [seq_to ew]
  rfl
end Lw


set_option Elab.async false
set_option linter.all false
set_option maxRecDepth 100000
set_option maxHeartbeats 4000000
namespace Lw
open PySem PySem.Spec L2 Dn
/-! ### lists of ints, equal or not -/
theorem eqv_ints : ∀ a b : List Int, PyData.eqvAll (toPys (a.map .int)) (toPys (b.map .int)) = decide (a = b)
  | [], [] => by rw [List.map_nil, toPys, PyData.eqvAll]; rfl
  | [], y :: b => by rw [List.map_nil, List.map_cons, toPys, toPys, PyData.eqvAll]; rfl
  | x :: a, [] => by rw [List.map_nil, List.map_cons, toPys, toPys, PyData.eqvAll]; rfl
  | x :: a, y :: b => by
    rw [List.map_cons, List.map_cons, toPys, toPys, PyData.eqvAll, eqv_ints a b, toPy, toPy, PyData.eqv]
    by_cases h : x = y
    · subst h
      simp
    · simp [h]
theorem eq_ints (a b : List Int) : eqD (.lst (a.map .int)) (.lst (b.map .int)) = .ok (.bl (decide (a = b))) := by
  unfold eqD
  show (if (pl (.lst (a.map .int)) && pl (.lst (b.map .int))) = true then (Res.ok (D.bl (PyData.eqv (toPy (.lst (a.map .int))) (toPy (.lst (b.map .int)))))) else .stuck) = _
  rw [pl_ints, pl_ints]
  show Res.ok (D.bl (PyData.eqv (toPy (.lst (a.map .int))) (toPy (.lst (b.map .int))))) = _
  rw [toPy, toPy, PyData.eqv, eqv_ints]
theorem sum_ints (a : List Int) : sumD [.lst (a.map .int)] = .ok (.int a.sum) := by
  show (match intsO (a.map D.int) with | some ns => Res.ok (D.int ns.sum) | _ => .stuck) = _
  rw [ints_map]
theorem sum_cast (l : List Nat) : (l.map fun (n : Nat) => (n : Int)).sum = ((l.sum : Nat) : Int) := by
  induction l with
  | nil => rfl
  | cons x l ih => rw [List.map_cons, List.sum_cons, ih, List.sum_cons]; omega
theorem for_bits : ∀ (xs : List D) (n : Int) (v : Slot) (f : List Nat) (s : Slot), xs.length + f.length ≤ line → ∃ s', forS (tgN 3) (seqS (asg 2 (bin addD (app strD (consA (bin modD (vr 0) (cst (.int 2))) nilA)) (vr 2))) (asg 0 (bin fdivD (vr 0) (cst (.int 2))))) xs [.val (.int n), v, .val (.str f), s] = .nx [.val (.int (n / 2 ^ xs.length)), v, .val (.str (tb xs.length n ++ f)), s']
  | [], n, v, f, s, _ => ⟨s, by simp [tb]⟩
  | x :: xs, n, v, f, s, h => by
    have h' : xs.length + 1 + f.length ≤ line := h
    obtain ⟨s', e⟩ := for_bits xs (n / 2) v ([48 + (n % 2).toNat] ++ f) (.val x) (by simp; omega)
    refine ⟨s', ?_⟩
    have h1 : strD [.int (n % 2)] = .ok (.str [48 + (n % 2).toNat]) := if_pos ⟨by omega, by omega⟩
    rw [for_step (δ1 := [.val (.int n), v, .val (.str f), .val x]) (δ' := [.val (.int (n / 2)), v, .val (.str ([48 + (n % 2).toNat] ++ f)), .val x]) rfl
      (by simp [modD_int, h1, addD_str, fdivD_int, show 1 + f.length ≤ line by omega]), e]
    have e2 : n / 2 / 2 ^ xs.length = n / 2 ^ (xs.length + 1) := by rw [Int.ediv_ediv_of_nonneg (by decide), Int.pow_succ, Int.mul_comm]
    rw [e2, List.length_cons, tb, List.append_assoc]
theorem upTo_len (a : Int) (n : Nat) : (Dn.upTo a n).length = n := by unfold Dn.upTo; simp
theorem in_bits_is (n w : Int) (h0 : 0 ≤ w) (h : w ≤ 100000) : d_in_bits [.int n, .int w] = .ok (.str (tb w.toNat n)) := by
  rw [d_in_bits, run_eq (by rfl)]; unfold b_in_bits
  obtain ⟨s', e⟩ := for_bits (Dn.upTo 0 w.toNat) n (.val (.int w)) [] .no (by rw [upTo_len]; simp only [List.length_nil, line]; omega)
  rw [upTo_len] at e
  simp [rng1 (okI_of h0 (by omega)), e]
theorem law_bits_is (n w : Int) (h0 : 0 ≤ w) (h : w ≤ 100000) : d__law_bits [.int n, .int w] = .ok (.str (tb w.toNat n)) := in_bits_is n w h0 h
/-! ### the law's own joining -/
theorem hs0_w (cs : List Int) : (hs0 cs).map Prod.fst = cs := by
  unfold hs0
  rw [map_mapIdx']
  show cs.mapIdx (fun _ a => a) = cs
  apply List.ext_getElem?
  intro j
  rw [List.getElem?_mapIdx]
  cases cs[j]? <;> rfl
theorem wh_least (v0 : Slot) : ∀ (N m : Nat) (hs : List Hf) (c : Int), 1 ≤ hs.length → hs.length < N → hs.length ≤ m → hs.length ≤ 1000 →
    ∃ s1, whS (tst (bin gtD (app lenD (consA (vr 1) (nilA))) (cst (.int 1)))) (seqS (asg 2 (bin addD (bin addD (vr 2) (bin ixD (vr 1) (cst (.int 0)))) (bin ixD (vr 1) (cst (.int 1))))) (asg 1 (app sortedD (consA (bin addD (slc (vr 1) (part (cst (.int 2))) (noP)) (app mkL (consA (bin addD (bin ixD (vr 1) (cst (.int 0))) (bin ixD (vr 1) (cst (.int 1)))) (nilA)))) (nilA))))) N
      [v0, .val (.lst ((srtL ltI (hs.map Prod.fst)).map .int)), .val (.int c)] = .nx [v0, s1, .val (.int (c + hcost m hs))]
  | 0, _, _, _, _, h, _, _ => absurd h (Nat.not_lt_zero _)
  | N + 1, m, hs, c, h1, h2, h3, h4 => by
    have hlen : (srtL ltI (hs.map Prod.fst)).length = hs.length := by rw [srt_len, List.length_map]
    by_cases hl : 2 ≤ hs.length
    · obtain ⟨a, b, r, e, hr⟩ := srt_two hs hl
      obtain ⟨m', rfl⟩ : ∃ m', m = m' + 1 := ⟨m - 1, by omega⟩
      have hl' : (r ++ [joinH a b]).length = r.length + 1 := by simp
      obtain ⟨s1, ew⟩ := wh_least v0 N m' (r ++ [joinH a b]) (c + a.1 + b.1) (by omega) (by omega) (by omega) (by omega)
      refine ⟨s1, ?_⟩
      have es : (srtL ltI (hs.map Prod.fst)).map D.int = .int a.1 :: .int b.1 :: (r.map Prod.fst).map .int := by rw [← w_srt, e]; rfl
      have i0 : ixD (.lst (.int a.1 :: .int b.1 :: (r.map Prod.fst).map .int)) (.int 0) = .ok (.int a.1) := ix_nat (i := 0) rfl
      have i1 : ixD (.lst (.int a.1 :: .int b.1 :: (r.map Prod.fst).map .int)) (.int 1) = .ok (.int b.1) := ix_nat (i := 1) rfl
      have sl : cutL (D.int a.1 :: .int b.1 :: (r.map Prod.fst).map .int) (some 2) none = (r.map Prod.fst).map .int := cut_from _ 2
      have ml : ∀ d : D, mkL [d] = .ok (.lst [d]) := fun d => mkL_ok (by show 1 ≤ line; decide)
      have ad : addD (.lst ((r.map Prod.fst).map .int)) (.lst [.int (a.1 + b.1)]) = .ok (.lst (((r ++ [joinH a b]).map Prod.fst).map .int)) := by
        rw [addD_lst (by simp only [List.length_map, List.length_singleton, line]; omega), List.map_append, List.map_append]; rfl
      rw [es, wh_step (δ' := [v0, .val (.lst ((srtL ltI ((r ++ [joinH a b]).map Prod.fst)).map .int)), .val (.int (c + a.1 + b.1))]) (by
        simp only [seqS_eq, seq_nx, seq_rt, seq_rs, asg_eq, asgN_eq, drp_eq, retS_eq, retN_eq, rais_eq, ifS_eq, forF_eq, itS_eq, rngA_eq, vr_eq, cst_eq, bin_eq, un_eq, consA_eq, nilA_eq, app_eq, tst_eq, asB_bl, andT_eq, orT_eq, notT_eq, notD_bl, ifE_eq, newA_eq, lstE_eq, noP_eq, part_eq, asP_int, slc_eq, binS_eq, yes_eq, List.getElem?_cons_succ, List.getElem?_cons_zero, List.set, bind_ok, bind_rs, out_ok, out_rs, fin_rt, fin_rs, fin_nx, if_true, Bool.false_eq_true, if_false, Bool.not_true, Bool.not_false, decide_true, decide_false, nopS_eq, addD_int, subD_int, negD_int, ltD_int, leD_int, gtD_int, geD_int, eqD_int, neD_int, eqD_str, neD_str, lenD_lst, lenD_tup, lenD_scr, max2D_int, min2D_int, asSeq_lst, asSeq_tup, asSeq_str, binN_eq, frzS_eq, appS_eq, ixO_eq, stoS_eq, lenO_eq, asgU_eq, tgU_tup, tgU_lst, tgP_tup, asg2_eq, chn_eq, lnk_bl, isID_int, isID_bl, isID_non, isBD_int, isBD_bl, isBD_non, isPD_tup, isLD_lst, isLD_str, enumD_lst, zipD_lst, List.map_cons, List.map_nil, List.replicate_succ, List.replicate_zero, List.cons_append, List.nil_append, enumA_lst, List.length_cons, List.length_map]; rw [decide_eq_true (by omega)]) (by
        simp only [seqS_eq, seq_nx, seq_rt, seq_rs, asg_eq, asgN_eq, drp_eq, retS_eq, retN_eq, rais_eq, ifS_eq, forF_eq, itS_eq, rngA_eq, vr_eq, cst_eq, bin_eq, un_eq, consA_eq, nilA_eq, app_eq, tst_eq, asB_bl, andT_eq, orT_eq, notT_eq, notD_bl, ifE_eq, newA_eq, lstE_eq, noP_eq, part_eq, asP_int, slc_eq, binS_eq, yes_eq, List.getElem?_cons_succ, List.getElem?_cons_zero, List.set, bind_ok, bind_rs, out_ok, out_rs, fin_rt, fin_rs, fin_nx, if_true, Bool.false_eq_true, if_false, Bool.not_true, Bool.not_false, decide_true, decide_false, nopS_eq, addD_int, subD_int, negD_int, ltD_int, leD_int, gtD_int, geD_int, eqD_int, neD_int, eqD_str, neD_str, lenD_lst, lenD_tup, lenD_scr, max2D_int, min2D_int, asSeq_lst, asSeq_tup, asSeq_str, binN_eq, frzS_eq, appS_eq, ixO_eq, stoS_eq, lenO_eq, asgU_eq, tgU_tup, tgU_lst, tgP_tup, asg2_eq, chn_eq, lnk_bl, isID_int, isID_bl, isID_non, isBD_int, isBD_bl, isBD_non, isPD_tup, isLD_lst, isLD_str, enumD_lst, zipD_lst, List.map_cons, List.map_nil, List.replicate_succ, List.replicate_zero, List.cons_append, List.nil_append, enumA_lst, i0, i1, slD_lst, sl, ml, ad, sorted_ints]), ew, hcost_two m' hs a b r e]
      rw [show c + a.1 + b.1 + hcost m' (r ++ [joinH a b]) = c + (a.1 + b.1 + hcost m' (r ++ [joinH a b])) by omega]
    · refine ⟨.val (.lst ((srtL ltI (hs.map Prod.fst)).map .int)), ?_⟩
      rw [hcost_one m hs (by omega), Int.add_zero]
      refine wh_end ?_
      simp only [seqS_eq, seq_nx, seq_rt, seq_rs, asg_eq, asgN_eq, drp_eq, retS_eq, retN_eq, rais_eq, ifS_eq, forF_eq, itS_eq, rngA_eq, vr_eq, cst_eq, bin_eq, un_eq, consA_eq, nilA_eq, app_eq, tst_eq, asB_bl, andT_eq, orT_eq, notT_eq, notD_bl, ifE_eq, newA_eq, lstE_eq, noP_eq, part_eq, asP_int, slc_eq, binS_eq, yes_eq, List.getElem?_cons_succ, List.getElem?_cons_zero, List.set, bind_ok, bind_rs, out_ok, out_rs, fin_rt, fin_rs, fin_nx, if_true, Bool.false_eq_true, if_false, Bool.not_true, Bool.not_false, decide_true, decide_false, nopS_eq, addD_int, subD_int, negD_int, ltD_int, leD_int, gtD_int, geD_int, eqD_int, neD_int, eqD_str, neD_str, lenD_lst, lenD_tup, lenD_scr, max2D_int, min2D_int, asSeq_lst, asSeq_tup, asSeq_str, binN_eq, frzS_eq, appS_eq, ixO_eq, stoS_eq, lenO_eq, asgU_eq, tgU_tup, tgU_lst, tgP_tup, asg2_eq, chn_eq, lnk_bl, isID_int, isID_bl, isID_non, isBD_int, isBD_bl, isBD_non, isPD_tup, isLD_lst, isLD_str, enumD_lst, zipD_lst, List.map_cons, List.map_nil, List.replicate_succ, List.replicate_zero, List.cons_append, List.nil_append, enumA_lst, List.length_map, hlen]
      rw [decide_eq_false (by omega)]
theorem least_is (cs : List Int) (h1 : 1 ≤ cs.length) (h2 : cs.length ≤ 94) : d__law_least [.lst (cs.map .int)] = .ok (.int (hcost cs.length (hs0 cs))) := by
  rw [d__law_least, run_eq (by rfl)]; unfold b__law_least
  have hl0 : (hs0 cs).length = cs.length := by unfold hs0; rw [List.length_mapIdx]
  obtain ⟨s1, ew⟩ := wh_least (.val (.lst (cs.map .int))) 2000000 cs.length (hs0 cs) 0 (by omega) (by omega) (by omega) (by omega)
  rw [hs0_w, Int.zero_add] at ew
  show (seqS _ _ [.val (.lst (cs.map .int)), .no, .no]).fin = _
  rw [seq_to (δ' := [.val (.lst (cs.map .int)), .val (.lst ((srtL ltI cs).map .int)), .no]) (by simp only [seqS_eq, seq_nx, seq_rt, seq_rs, asg_eq, asgN_eq, drp_eq, retS_eq, retN_eq, rais_eq, ifS_eq, forF_eq, itS_eq, rngA_eq, vr_eq, cst_eq, bin_eq, un_eq, consA_eq, nilA_eq, app_eq, tst_eq, asB_bl, andT_eq, orT_eq, notT_eq, notD_bl, ifE_eq, newA_eq, lstE_eq, noP_eq, part_eq, asP_int, slc_eq, binS_eq, yes_eq, List.getElem?_cons_succ, List.getElem?_cons_zero, List.set, bind_ok, bind_rs, out_ok, out_rs, fin_rt, fin_rs, fin_nx, if_true, Bool.false_eq_true, if_false, Bool.not_true, Bool.not_false, decide_true, decide_false, nopS_eq, addD_int, subD_int, negD_int, ltD_int, leD_int, gtD_int, geD_int, eqD_int, neD_int, eqD_str, neD_str, lenD_lst, lenD_tup, lenD_scr, max2D_int, min2D_int, asSeq_lst, asSeq_tup, asSeq_str, binN_eq, frzS_eq, appS_eq, ixO_eq, stoS_eq, lenO_eq, asgU_eq, tgU_tup, tgU_lst, tgP_tup, asg2_eq, chn_eq, lnk_bl, isID_int, isID_bl, isID_non, isBD_int, isBD_bl, isBD_non, isPD_tup, isLD_lst, isLD_str, enumD_lst, zipD_lst, List.map_cons, List.map_nil, List.replicate_succ, List.replicate_zero, List.cons_append, List.nil_append, enumA_lst, sorted_ints])]
  rw [seq_to (δ' := [.val (.lst (cs.map .int)), .val (.lst ((srtL ltI cs).map .int)), .val (.int 0)]) (by simp only [seqS_eq, seq_nx, seq_rt, seq_rs, asg_eq, asgN_eq, drp_eq, retS_eq, retN_eq, rais_eq, ifS_eq, forF_eq, itS_eq, rngA_eq, vr_eq, cst_eq, bin_eq, un_eq, consA_eq, nilA_eq, app_eq, tst_eq, asB_bl, andT_eq, orT_eq, notT_eq, notD_bl, ifE_eq, newA_eq, lstE_eq, noP_eq, part_eq, asP_int, slc_eq, binS_eq, yes_eq, List.getElem?_cons_succ, List.getElem?_cons_zero, List.set, bind_ok, bind_rs, out_ok, out_rs, fin_rt, fin_rs, fin_nx, if_true, Bool.false_eq_true, if_false, Bool.not_true, Bool.not_false, decide_true, decide_false, nopS_eq, addD_int, subD_int, negD_int, ltD_int, leD_int, gtD_int, geD_int, eqD_int, neD_int, eqD_str, neD_str, lenD_lst, lenD_tup, lenD_scr, max2D_int, min2D_int, asSeq_lst, asSeq_tup, asSeq_str, binN_eq, frzS_eq, appS_eq, ixO_eq, stoS_eq, lenO_eq, asgU_eq, tgU_tup, tgU_lst, tgP_tup, asg2_eq, chn_eq, lnk_bl, isID_int, isID_bl, isID_non, isBD_int, isBD_bl, isBD_non, isPD_tup, isLD_lst, isLD_str, enumD_lst, zipD_lst, List.map_cons, List.map_nil, List.replicate_succ, List.replicate_zero, List.cons_append, List.nil_append, enumA_lst])]
  rw [seq_to ew]
  rfl
end Lw


set_option Elab.async false
set_option linter.all false
set_option maxRecDepth 100000
set_option maxHeartbeats 4000000
namespace Lw
open PySem PySem.Spec L2 Dn
/-! ### the greatest, the least -/
theorem max_of (x : Int) (xs : List Int) : ∃ m, maxD [.lst ((x :: xs).map .int)] = .ok (.int m) ∧ m ∈ x :: xs ∧ ∀ y ∈ x :: xs, y ≤ m := by
  obtain ⟨h1, h2, h3⟩ := foldl_max xs x
  refine ⟨xs.foldl max x, ?_, ?_, fun y hy => (List.mem_cons.mp hy).elim (fun e => by rw [e]; exact h1) (h2 y)⟩
  · show (match intsO ((x :: xs).map D.int) with | some (n :: ns) => Res.ok (D.int (ns.foldl max n)) | _ => .stuck) = _
    rw [ints_map]
  · rcases h3 with e | e
    · rw [e]; exact List.mem_cons_self
    · exact List.mem_cons_of_mem _ e
theorem min_of (x : Int) (xs : List Int) : ∃ m, minD [.lst ((x :: xs).map .int)] = .ok (.int m) ∧ m ∈ x :: xs ∧ ∀ y ∈ x :: xs, m ≤ y := by
  obtain ⟨h1, h2, h3⟩ := foldl_min xs x
  refine ⟨xs.foldl min x, ?_, ?_, fun y hy => (List.mem_cons.mp hy).elim (fun e => by rw [e]; exact h1) (h2 y)⟩
  · show (match intsO ((x :: xs).map D.int) with | some (n :: ns) => Res.ok (D.int (ns.foldl min n)) | _ => .stuck) = _
    rw [ints_map]
  · rcases h3 with e | e
    · rw [e]; exact List.mem_cons_self
    · exact List.mem_cons_of_mem _ e
theorem fsD_ints (ns : List Nat) : fsD ns = (ns.map fun (n : Nat) => (n : Int)).map .int := by unfold fsD; rw [List.map_map]; rfl
theorem max_nat (ns : List Nat) (h : ns ≠ []) : ∃ m : Nat, maxD [.lst (fsD ns)] = .ok (.int (m : Int)) ∧ m ∈ ns ∧ ∀ n ∈ ns, n ≤ m := by
  cases ns with
  | nil => exact (h rfl).elim
  | cons x xs =>
    obtain ⟨m, h1, h2, h3⟩ := max_of (x : Int) (xs.map fun (n : Nat) => (n : Int))
    rw [fsD_ints]
    have e : (x : Int) :: xs.map (fun (n : Nat) => (n : Int)) = (x :: xs).map fun (n : Nat) => (n : Int) := rfl
    rw [e] at h1 h2 h3
    obtain ⟨k, hk, rfl⟩ := List.mem_map.mp h2
    exact ⟨k, h1, hk, fun n hn => by have := h3 _ (List.mem_map.mpr ⟨n, hn, rfl⟩); omega⟩
theorem min_nat (ns : List Nat) (h : ns ≠ []) : ∃ m : Nat, minD [.lst (fsD ns)] = .ok (.int (m : Int)) := by
  cases ns with
  | nil => exact (h rfl).elim
  | cons x xs =>
    obtain ⟨m, h1, h2, h3⟩ := min_of (x : Int) (xs.map fun (n : Nat) => (n : Int))
    rw [fsD_ints]
    have e : (x : Int) :: xs.map (fun (n : Nat) => (n : Int)) = (x :: xs).map fun (n : Nat) => (n : Int) := rfl
    rw [e] at h1 h2
    obtain ⟨k, hk, rfl⟩ := List.mem_map.mp h2
    exact ⟨k, h1⟩
/-! ### shifts of noughts and ones -/
theorem shl_nat (a k : Nat) (ha : a < 2 ^ 200) (hk : k ≤ 10000) : shlD (.int (a : Int)) (.int (k : Int)) = .ok (.int ((a * 2 ^ k : Nat) : Int)) := by
  rw [shlD_int ⟨by omega, by omega, by
    rw [Int.natAbs_natCast]
    exact Nat.lt_trans ha (Nat.pow_lt_pow_right (by decide) (by decide))⟩, Int.toNat_natCast]
  norm_cast
theorem shl_one (k : Nat) (hk : k ≤ 10000) : shlD (.int 1) (.int (k : Int)) = .ok (.int ((2 ^ k : Nat) : Int)) := by
  have := shl_nat 1 k (by decide) hk
  rw [Nat.one_mul] at this
  exact this
/-- the sum of the words' shares, as the program and the law sum it -/
theorem sh_sum (ns : List Nat) (m : Nat) (hm : ∀ n ∈ ns, n ≤ m) (hm2 : m ≤ 10000) (hl : ns.length ≤ 1000) {δ : Sto} {i j v : Nat} (hij : j ≠ i) (hvj : v ≠ j) (hj : j < δ.length) (hi : δ[i]? = some (.val (.int (m : Int)))) (hv : δ[v]? = some (.val (.lst (fsD ns)))) :
    (app sumD (consA (lstE (lcF (itS (vr v)) (tgN j) [j] yes (bin shlD (cst (.int 1)) (bin subD (vr i) (vr j))))) nilA)) δ = .ok (.int (((ns.map fun n => 2 ^ (m - n)).sum : Nat) : Int)) := by
  have lc := lcN_map (δ := δ) (vs := [j]) (j := j) (fe := bin shlD (cst (.int 1)) (bin subD (vr i) (vr j))) (fi := itS (vr v)) (xs := fsD ns) (f := fun d => match d with | .int z => .int ((2 ^ (m - z.toNat) : Nat) : Int) | d => d) (by rw [itS_eq, vr_eq, hv]; rfl) (by rw [fsD_len]; simp only [line]; omega) (fun x hx => by
    unfold fsD at hx
    obtain ⟨n, hn, rfl⟩ := List.mem_map.mp hx
    have a1 : ((wipeS δ [j]).set j (.val (.int (n : Int))))[j]? = some (.val (.int (n : Int))) := by simp [wipeS, hj]
    have a2 : ((wipeS δ [j]).set j (.val (.int (n : Int))))[i]? = some (.val (.int (m : Int))) := by
      simp [wipeS, List.getElem?_set_ne hij, hi]
    have := hm n hn
    rw [bin_eq, cst_eq, bin_eq, vr_eq, vr_eq, a1, a2]
    simp only [bind_ok, subD_int]
    rw [show (m : Int) - (n : Int) = ((m - n : Nat) : Int) by omega, shl_one _ (by omega), Int.toNat_natCast])
  have e2 : (fsD ns).map (fun d => match d with | .int z => D.int ((2 ^ (m - z.toNat) : Nat) : Int) | d => d) = ((ns.map fun n => 2 ^ (m - n)).map fun (n : Nat) => (n : Int)).map .int := by
    unfold fsD
    rw [List.map_map, List.map_map, List.map_map]
    rfl
  rw [e2] at lc
  rw [app_eq, consA_eq, lstE_eq, lc]
  simp only [bind_ok, nilA_eq]
  rw [sum_ints, sum_cast]
/-- lengths by which words just fill -/
def fills (ns : List Nat) : Prop := (ns.map fun n => 2 ^ (94 - n)).sum = 2 ^ 94
instance (ns : List Nat) : Decidable (fills ns) := inferInstanceAs (Decidable (_ = _))
theorem sum_mul (k : Nat) (l : List Nat) : (l.map fun n => k * n).sum = k * l.sum := by
  induction l with
  | nil => rfl
  | cons x l ih => rw [List.map_cons, List.sum_cons, ih, List.sum_cons, Nat.mul_add]
theorem fills_iff (ns : List Nat) (m : Nat) (hm : ∀ n ∈ ns, n ≤ m) (h94 : m ≤ 94) : (ns.map fun n => 2 ^ (m - n)).sum = 2 ^ m ↔ fills ns := by
  have e : (ns.map fun n => 2 ^ (94 - n)).sum = 2 ^ (94 - m) * (ns.map fun n => 2 ^ (m - n)).sum := by
    rw [← sum_mul, List.map_map]
    refine congrArg List.sum (List.map_congr_left fun n hn => ?_)
    show 2 ^ (94 - n) = 2 ^ (94 - m) * 2 ^ (m - n)
    rw [← Nat.pow_add]
    congr 1
    have := hm n hn
    omega
  have e2 : 2 ^ 94 = 2 ^ (94 - m) * 2 ^ m := by rw [← Nat.pow_add]; congr 1; omega
  unfold fills
  rw [e, e2]
  exact ⟨fun h => by rw [h], fun h => Nat.eq_of_mul_eq_mul_left (Nat.two_pow_pos _) h⟩
/-! ### need_lengths -/
def okR (xs : List Int) : Bool := xs.all fun x => decide (0 ≤ x) && decide (x ≤ 94)
theorem need_len_start (xs : List Int) (hl : xs.length ≤ 1000) : ∃ c : Bool, ifS (orT (tst (bin eqD (vr 0) (app mkL (nilA)))) (notT (tst (app allD (consA (lstE (lcF (itS (vr 0)) (tgN 2) [2] (yes) (andV (un isID (vr 2)) (chn leD leD (cst (.int 0)) (vr 2) (cst (.int (94))))))) (nilA)))))) (rais "BadCode") (nopS) [.val (.lst (xs.map .int)), .no, .no] = (if c = true then .nx [.val (.lst (xs.map .int)), .no, .no] else .rs "BadCode") ∧ (c = true ↔ xs ≠ [] ∧ okR xs = true) := by
  have mk0 : mkL [] = .ok (.lst []) := mkL_ok (by decide)
  have eq0 : eqD (.lst (xs.map .int)) (.lst []) = .ok (.bl (decide (xs = []))) := eq_ints xs []
  have lc := lcN_map (δ := [.val (.lst (xs.map .int)), .no, .no]) (vs := [2]) (j := 2) (fe := andV (un isID (vr 2)) (chn leD leD (cst (.int 0)) (vr 2) (cst (.int (94))))) (fi := itS (vr 0)) (xs := xs.map .int) (f := fun d => match d with | .int x => .bl (decide (0 ≤ x) && decide (x ≤ 94)) | d => d) (by simp only [seqS_eq, seq_nx, seq_rt, seq_rs, asg_eq, asgN_eq, drp_eq, retS_eq, retN_eq, rais_eq, ifS_eq, forF_eq, itS_eq, rngA_eq, vr_eq, cst_eq, bin_eq, un_eq, consA_eq, nilA_eq, app_eq, tst_eq, asB_bl, andT_eq, orT_eq, notT_eq, notD_bl, ifE_eq, newA_eq, lstE_eq, noP_eq, part_eq, asP_int, slc_eq, binS_eq, yes_eq, List.getElem?_cons_succ, List.getElem?_cons_zero, List.set, bind_ok, bind_rs, out_ok, out_rs, fin_rt, fin_rs, fin_nx, if_true, Bool.false_eq_true, if_false, Bool.not_true, Bool.not_false, decide_true, decide_false, nopS_eq, addD_int, subD_int, negD_int, ltD_int, leD_int, gtD_int, geD_int, eqD_int, neD_int, eqD_str, neD_str, lenD_lst, lenD_tup, lenD_scr, max2D_int, min2D_int, asSeq_lst, asSeq_tup, asSeq_str, binN_eq, frzS_eq, appS_eq, ixO_eq, stoS_eq, lenO_eq, asgU_eq, tgU_tup, tgU_lst, tgP_tup, asg2_eq, chn_eq, lnk_bl, isID_int, isID_bl, isID_non, isBD_int, isBD_bl, isBD_non, isPD_tup, isLD_lst, isLD_str, enumD_lst, zipD_lst, List.map_cons, List.map_nil, List.replicate_succ, List.replicate_zero, List.cons_append, List.nil_append, enumA_lst]) (by rw [List.length_map]; simp only [line]; omega) (fun x hx => by
    obtain ⟨z, _, rfl⟩ := List.mem_map.mp hx
    unfold andV
    simp only [seqS_eq, seq_nx, seq_rt, seq_rs, asg_eq, asgN_eq, drp_eq, retS_eq, retN_eq, rais_eq, ifS_eq, forF_eq, itS_eq, rngA_eq, vr_eq, cst_eq, bin_eq, un_eq, consA_eq, nilA_eq, app_eq, tst_eq, asB_bl, andT_eq, orT_eq, notT_eq, notD_bl, ifE_eq, newA_eq, lstE_eq, noP_eq, part_eq, asP_int, slc_eq, binS_eq, yes_eq, List.getElem?_cons_succ, List.getElem?_cons_zero, List.set, bind_ok, bind_rs, out_ok, out_rs, fin_rt, fin_rs, fin_nx, if_true, Bool.false_eq_true, if_false, Bool.not_true, Bool.not_false, decide_true, decide_false, nopS_eq, addD_int, subD_int, negD_int, ltD_int, leD_int, gtD_int, geD_int, eqD_int, neD_int, eqD_str, neD_str, lenD_lst, lenD_tup, lenD_scr, max2D_int, min2D_int, asSeq_lst, asSeq_tup, asSeq_str, binN_eq, frzS_eq, appS_eq, ixO_eq, stoS_eq, lenO_eq, asgU_eq, tgU_tup, tgU_lst, tgP_tup, asg2_eq, chn_eq, lnk_bl, isID_int, isID_bl, isID_non, isBD_int, isBD_bl, isBD_non, isPD_tup, isLD_lst, isLD_str, enumD_lst, zipD_lst, List.map_cons, List.map_nil, List.replicate_succ, List.replicate_zero, List.cons_append, List.nil_append, enumA_lst, wipeS]
    cases decide (0 ≤ z) <;> rfl)
  have e2 : (xs.map D.int).map (fun d => match d with | .int x => D.bl (decide (0 ≤ x) && decide (x ≤ 94)) | d => d) = xs.map fun x => D.bl (decide (0 ≤ x) && decide (x ≤ 94)) := by
    rw [List.map_map]; rfl
  rw [e2] at lc
  have al := all_map (fun x : Int => decide (0 ≤ x) && decide (x ≤ 94)) xs
  refine ⟨decide (xs ≠ []) && okR xs, ?_, by simp⟩
  by_cases h : xs = []
  · simp only [seqS_eq, seq_nx, seq_rt, seq_rs, asg_eq, asgN_eq, drp_eq, retS_eq, retN_eq, rais_eq, ifS_eq, forF_eq, itS_eq, rngA_eq, vr_eq, cst_eq, bin_eq, un_eq, consA_eq, nilA_eq, app_eq, tst_eq, asB_bl, andT_eq, orT_eq, notT_eq, notD_bl, ifE_eq, newA_eq, lstE_eq, noP_eq, part_eq, asP_int, slc_eq, binS_eq, yes_eq, List.getElem?_cons_succ, List.getElem?_cons_zero, List.set, bind_ok, bind_rs, out_ok, out_rs, fin_rt, fin_rs, fin_nx, if_true, Bool.false_eq_true, if_false, Bool.not_true, Bool.not_false, decide_true, decide_false, nopS_eq, addD_int, subD_int, negD_int, ltD_int, leD_int, gtD_int, geD_int, eqD_int, neD_int, eqD_str, neD_str, lenD_lst, lenD_tup, lenD_scr, max2D_int, min2D_int, asSeq_lst, asSeq_tup, asSeq_str, binN_eq, frzS_eq, appS_eq, ixO_eq, stoS_eq, lenO_eq, asgU_eq, tgU_tup, tgU_lst, tgP_tup, asg2_eq, chn_eq, lnk_bl, isID_int, isID_bl, isID_non, isBD_int, isBD_bl, isBD_non, isPD_tup, isLD_lst, isLD_str, enumD_lst, zipD_lst, List.map_cons, List.map_nil, List.replicate_succ, List.replicate_zero, List.cons_append, List.nil_append, enumA_lst, mk0, eq0, decide_eq_true h, decide_eq_false (show ¬ xs ≠ [] from fun q => q h), Bool.false_and]
  · simp only [seqS_eq, seq_nx, seq_rt, seq_rs, asg_eq, asgN_eq, drp_eq, retS_eq, retN_eq, rais_eq, ifS_eq, forF_eq, itS_eq, rngA_eq, vr_eq, cst_eq, bin_eq, un_eq, consA_eq, nilA_eq, app_eq, tst_eq, asB_bl, andT_eq, orT_eq, notT_eq, notD_bl, ifE_eq, newA_eq, lstE_eq, noP_eq, part_eq, asP_int, slc_eq, binS_eq, yes_eq, List.getElem?_cons_succ, List.getElem?_cons_zero, List.set, bind_ok, bind_rs, out_ok, out_rs, fin_rt, fin_rs, fin_nx, if_true, Bool.false_eq_true, if_false, Bool.not_true, Bool.not_false, decide_true, decide_false, nopS_eq, addD_int, subD_int, negD_int, ltD_int, leD_int, gtD_int, geD_int, eqD_int, neD_int, eqD_str, neD_str, lenD_lst, lenD_tup, lenD_scr, max2D_int, min2D_int, asSeq_lst, asSeq_tup, asSeq_str, binN_eq, frzS_eq, appS_eq, ixO_eq, stoS_eq, lenO_eq, asgU_eq, tgU_tup, tgU_lst, tgP_tup, asg2_eq, chn_eq, lnk_bl, isID_int, isID_bl, isID_non, isBD_int, isBD_bl, isBD_non, isPD_tup, isLD_lst, isLD_str, enumD_lst, zipD_lst, List.map_cons, List.map_nil, List.replicate_succ, List.replicate_zero, List.cons_append, List.nil_append, enumA_lst, mk0, eq0, decide_eq_false h, lc, al, decide_eq_true (show xs ≠ [] from h), Bool.true_and]
    show (if (!okR xs) = true then _ else _) = _
    cases okR xs <;> rfl
theorem need_lengths_bad (xs : List Int) (hl : xs.length ≤ 1000) (h : ¬ (xs ≠ [] ∧ okR xs = true)) : d_need_lengths [.lst (xs.map .int)] = .rs "BadCode" := by
  rw [d_need_lengths, run_eq (by rfl)]; unfold b_need_lengths
  obtain ⟨c, e, hc⟩ := need_len_start xs hl
  have : c = false := by
    cases c
    · rfl
    · exact (h (hc.mp rfl)).elim
  subst this
  show (seqS _ _ [.val (.lst (xs.map .int)), .no, .no]).fin = _
  rw [seqS_eq, e]
  rfl
theorem need_lengths_is (ns : List Nat) (hl : ns.length ≤ 1000) (hne : ns ≠ []) (h94 : ∀ n ∈ ns, n ≤ 94) : d_need_lengths [.lst (fsD ns)] = if fills ns then .ok .non else .rs "BadCode" := by
  obtain ⟨c, e, hc⟩ := need_len_start (ns.map fun (n : Nat) => (n : Int)) (by rw [List.length_map]; exact hl)
  have : c = true := hc.mpr ⟨by simpa using hne, List.all_eq_true.mpr fun x hx => by
    obtain ⟨n, hn, rfl⟩ := List.mem_map.mp hx
    have := h94 n hn
    rw [decide_eq_true (by omega), decide_eq_true (by omega)]; rfl⟩
  subst this
  rw [if_pos rfl, ← fsD_ints] at e
  obtain ⟨m, em, hm, hmx⟩ := max_nat ns hne
  have hm94 := h94 m hm
  rw [d_need_lengths, run_eq (by rfl)]; unfold b_need_lengths
  show (seqS _ _ [.val (.lst (fsD ns)), .no, .no]).fin = _
  rw [seq_to e]
  rw [seq_to (δ' := [.val (.lst (fsD ns)), .val (.int (m : Int)), .no]) (by simp only [seqS_eq, seq_nx, seq_rt, seq_rs, asg_eq, asgN_eq, drp_eq, retS_eq, retN_eq, rais_eq, ifS_eq, forF_eq, itS_eq, rngA_eq, vr_eq, cst_eq, bin_eq, un_eq, consA_eq, nilA_eq, app_eq, tst_eq, asB_bl, andT_eq, orT_eq, notT_eq, notD_bl, ifE_eq, newA_eq, lstE_eq, noP_eq, part_eq, asP_int, slc_eq, binS_eq, yes_eq, List.getElem?_cons_succ, List.getElem?_cons_zero, List.set, bind_ok, bind_rs, out_ok, out_rs, fin_rt, fin_rs, fin_nx, if_true, Bool.false_eq_true, if_false, Bool.not_true, Bool.not_false, decide_true, decide_false, nopS_eq, addD_int, subD_int, negD_int, ltD_int, leD_int, gtD_int, geD_int, eqD_int, neD_int, eqD_str, neD_str, lenD_lst, lenD_tup, lenD_scr, max2D_int, min2D_int, asSeq_lst, asSeq_tup, asSeq_str, binN_eq, frzS_eq, appS_eq, ixO_eq, stoS_eq, lenO_eq, asgU_eq, tgU_tup, tgU_lst, tgP_tup, asg2_eq, chn_eq, lnk_bl, isID_int, isID_bl, isID_non, isBD_int, isBD_bl, isBD_non, isPD_tup, isLD_lst, isLD_str, enumD_lst, zipD_lst, List.map_cons, List.map_nil, List.replicate_succ, List.replicate_zero, List.cons_append, List.nil_append, enumA_lst, em])]
  have ss := sh_sum ns m hmx (by omega) hl (δ := [.val (.lst (fsD ns)), .val (.int (m : Int)), .no]) (i := 1) (j := 2) (v := 0) (by decide) (by decide) (by show 2 < 3; decide) rfl rfl
  have so := shl_one m (by omega)
  rw [ifS_eq, tst_eq, bin_eq, ss]
  simp only [seqS_eq, seq_nx, seq_rt, seq_rs, asg_eq, asgN_eq, drp_eq, retS_eq, retN_eq, rais_eq, ifS_eq, forF_eq, itS_eq, rngA_eq, vr_eq, cst_eq, bin_eq, un_eq, consA_eq, nilA_eq, app_eq, tst_eq, asB_bl, andT_eq, orT_eq, notT_eq, notD_bl, ifE_eq, newA_eq, lstE_eq, noP_eq, part_eq, asP_int, slc_eq, binS_eq, yes_eq, List.getElem?_cons_succ, List.getElem?_cons_zero, List.set, bind_ok, bind_rs, out_ok, out_rs, fin_rt, fin_rs, fin_nx, if_true, Bool.false_eq_true, if_false, Bool.not_true, Bool.not_false, decide_true, decide_false, nopS_eq, addD_int, subD_int, negD_int, ltD_int, leD_int, gtD_int, geD_int, eqD_int, neD_int, eqD_str, neD_str, lenD_lst, lenD_tup, lenD_scr, max2D_int, min2D_int, asSeq_lst, asSeq_tup, asSeq_str, binN_eq, frzS_eq, appS_eq, ixO_eq, stoS_eq, lenO_eq, asgU_eq, tgU_tup, tgU_lst, tgP_tup, asg2_eq, chn_eq, lnk_bl, isID_int, isID_bl, isID_non, isBD_int, isBD_bl, isBD_non, isPD_tup, isLD_lst, isLD_str, enumD_lst, zipD_lst, List.map_cons, List.map_nil, List.replicate_succ, List.replicate_zero, List.cons_append, List.nil_append, enumA_lst, so]
  have hi := fills_iff ns m hmx hm94
  by_cases hf : fills ns
  · have : (((ns.map fun n => 2 ^ (m - n)).sum : Nat) : Int) = ((2 ^ m : Nat) : Int) := by rw [hi.mpr hf]
    rw [decide_eq_true this, if_pos hf]; rfl
  · have : ¬ (((ns.map fun n => 2 ^ (m - n)).sum : Nat) : Int) = ((2 ^ m : Nat) : Int) := fun q => hf (hi.mp (by omega))
    rw [decide_eq_false this, if_neg hf]; rfl
/-! ### words -/
def ltQ (x y : Nat × Nat) : Bool := SrtO.lexB ((x.1 : Int), (x.2 : Int)) ((y.1 : Int), (y.2 : Int))
def qD (x : Nat × Nat) : D := .tup [.int (x.1 : Int), .int (x.2 : Int)]
theorem swo_Q : SrtO.Swo ltQ := by
  refine ⟨fun x y h => ?_, fun x y z h1 h2 => ?_⟩
  · have a := SrtO.lexB_iff.mp h
    refine SrtO.lexB_no.mpr ?_
    simp only at a ⊢
    omega
  · have a := SrtO.lexB_no.mp h1
    have b := SrtO.lexB_no.mp h2
    refine SrtO.lexB_no.mpr ?_
    simp only at a b ⊢
    omega
/-- lengths and places, by length -/
def byLen (ns : List Nat) : List (Nat × Nat) := srtL ltQ (ns.mapIdx fun i n => (n, i))
def wloop : List (Nat × Nat) → Nat → Nat → List (List Nat) → List (List Nat)
  | [], _, _, ws => ws
  | (n, i) :: ps, num, wd, ws => wloop ps (num * 2 ^ (n - wd) + 1) n (ws.set i (tb n ((num * 2 ^ (n - wd) : Nat) : Int)))
/-- the words of lengths -/
def wds (ns : List Nat) : List (List Nat) := wloop (byLen ns) 0 0 (List.replicate ns.length [])
theorem wloop_len : ∀ (ps : List (Nat × Nat)) (num wd : Nat) (ws : List (List Nat)), (wloop ps num wd ws).length = ws.length
  | [], _, _, _ => rfl
  | (n, i) :: ps, num, wd, ws => by rw [wloop, wloop_len ps, List.length_set]
theorem wds_len (ns : List Nat) : (wds ns).length = ns.length := by unfold wds; rw [wloop_len, List.length_replicate]
theorem wloop_bit : ∀ (ps : List (Nat × Nat)) (num wd : Nat) (ws : List (List Nat)), (∀ t ∈ ws, ∀ c ∈ t, isBit c) → ∀ t ∈ wloop ps num wd ws, ∀ c ∈ t, isBit c
  | [], _, _, _, h => h
  | (n, i) :: ps, num, wd, ws, h => wloop_bit ps _ _ _ fun t ht => by
    rcases List.mem_or_eq_of_mem_set ht with ht | rfl
    · exact h t ht
    · exact tb_bit _ _
theorem wds_bit (ns : List Nat) : ∀ t ∈ wds ns, ∀ c ∈ t, isBit c := wloop_bit _ _ _ _ fun t ht => by
  rw [(List.mem_replicate.mp ht).2]
  intro c hc; cases hc
theorem by_sorted (ns : List Nat) : (byLen ns).Pairwise fun x y => x.1 ≤ y.1 := (srt_srtd swo_Q _).imp fun {x y} h => by
  have := SrtO.lexB_no.mp h
  simp only at this
  omega
theorem by_mem {ns : List Nat} {x : Nat × Nat} (h : x ∈ byLen ns) : ns[x.2]? = some x.1 := by
  obtain ⟨i, hi, rfl⟩ := List.mem_mapIdx.mp (srt_mem.mp h)
  simp [hi]
theorem sort_by (ns : List Nat) {δ : Sto} {i j v : Nat} (hij : i ≠ j) (hi : i < δ.length) (hj : j < δ.length) (hl : ns.length ≤ 1000) (hv : δ[v]? = some (.val (.lst (fsD ns)))) :
    (itS (app sortedD (consA (lstE (lcF (rngA enumA (consA (vr v) nilA)) (tgP j i) [j, i] yes (app mkT (consA (vr i) (consA (vr j) nilA))))) nilA))) δ = .ok ((byLen ns).map qD) := by
  have lc := lcF_map (δ := δ) (gt := tgP j i) (vs := [j, i]) (ft := yes) (fe := app mkT (consA (vr i) (consA (vr j) nilA))) (fi := rngA enumA (consA (vr v) nilA)) (xs := ns.mapIdx fun (i : Nat) (n : Nat) => D.tup [.int (i : Int), .int (n : Int)]) (f := fun d => match d with | .tup [i, c] => .tup [c, i] | d => d)
    (by
      rw [rngA_eq, consA_eq, vr_eq, hv]
      simp only [bind_ok, nilA_eq, enumA_lst]
      unfold fsD
      rw [mapIdx_map']) (by rw [List.length_mapIdx]; simp only [line]; omega) (fun x hx => by
      obtain ⟨k, hk, rfl⟩ := List.mem_mapIdx.mp hx
      refine ⟨_, tgP_tup, rfl, ?_⟩
      have l1 : (wipeS δ [j, i]).length = δ.length := by simp [wipeS]
      have g1 : (((wipeS δ [j, i]).set j (.val (.int (k : Int)))).set i (.val (.int ((ns[k] : Nat) : Int))))[j]? = some (.val (.int (k : Int))) := by
        rw [List.getElem?_set_ne hij, List.getElem?_set_self (by rw [l1]; exact hj)]
      have g2 : (((wipeS δ [j, i]).set j (.val (.int (k : Int)))).set i (.val (.int ((ns[k] : Nat) : Int))))[i]? = some (.val (.int ((ns[k] : Nat) : Int))) := by
        rw [List.getElem?_set_self (by rw [List.length_set, l1]; exact hi)]
      have m2 : ∀ x y : D, mkT [x, y] = .ok (.tup [x, y]) := fun x y => if_pos (by show 2 ≤ line; decide)
      rw [app_eq, consA_eq, consA_eq, vr_eq, vr_eq, g1, g2]
      simp only [bind_ok, nilA_eq, m2])
  have e2 : (ns.mapIdx fun (i : Nat) (n : Nat) => D.tup [.int (i : Int), .int (n : Int)]).map (fun d => match d with | .tup [i, c] => .tup [c, i] | d => d) = (ns.mapIdx fun i n => (n, i)).map qD := by
    rw [map_mapIdx', map_mapIdx']
    rfl
  rw [e2] at lc
  rw [itS_eq, app_eq, consA_eq, lstE_eq, lc]
  simp only [bind_ok, nilA_eq]
  rw [sorted_tups (.inl (List.all_eq_true.mpr fun d hd => by
    obtain ⟨h, _, rfl⟩ := List.mem_map.mp hd
    rfl)), srt_map (lt := ltQ) qD (fun _ _ => rfl)]
  rfl
theorem for_words (v0 : Slot) : ∀ (ps : List (Nat × Nat)) (k num wd : Nat) (ws : List (List Nat)) (s4 s5 : Slot), ps.Pairwise (fun x y => x.1 ≤ y.1) → (∀ p ∈ ps, wd ≤ p.1 ∧ p.1 ≤ 94 ∧ p.2 < ws.length) → num ≤ k * 2 ^ wd → k + ps.length ≤ 1000 →
    ∃ s2 s3 s4' s5', forS (tgP 4 5) lp_words_1 (ps.map qD) [v0, .own (ws.map .str), .val (.int (num : Int)), .val (.int (wd : Int)), s4, s5] = .nx [v0, .own ((wloop ps num wd ws).map .str), s2, s3, s4', s5']
  | [], k, num, wd, ws, s4, s5, _, _, _, _ => ⟨_, _, _, _, rfl⟩
  | (n, i) :: ps, k, num, wd, ws, s4, s5, hs, hp, hn, hk => by
    obtain ⟨hw, h94, hi⟩ := hp (n, i) List.mem_cons_self
    simp only at hw h94 hi
    have hk' : k ≤ 1000 := by omega
    have hnum : num < 2 ^ 200 := by
      have h1 : k * 2 ^ wd ≤ 1000 * 2 ^ 94 := Nat.mul_le_mul hk' (Nat.pow_le_pow_right (by decide) (by omega))
      have h2 : 1000 * 2 ^ 94 < 2 ^ 200 := by decide
      omega
    have hn' : num * 2 ^ (n - wd) ≤ k * 2 ^ n := by
      have : k * 2 ^ n = k * 2 ^ wd * 2 ^ (n - wd) := by rw [Nat.mul_assoc, ← Nat.pow_add]; congr 2; omega
      rw [this]
      exact Nat.mul_le_mul_right _ hn
    have hpos : 1 ≤ 2 ^ n := Nat.one_le_two_pow
    obtain ⟨s2, s3, s4', s5', e⟩ := for_words v0 ps (k + 1) (num * 2 ^ (n - wd) + 1) n (ws.set i (tb n ((num * 2 ^ (n - wd) : Nat) : Int))) (.val (.int (n : Int))) (.val (.int (i : Int))) (List.pairwise_cons.mp hs).2 (fun p hpm => ⟨(List.pairwise_cons.mp hs).1 p hpm, (hp p (List.mem_cons_of_mem _ hpm)).2.1, by rw [List.length_set]; exact (hp p (List.mem_cons_of_mem _ hpm)).2.2⟩) (by rw [Nat.add_mul]; omega) (by rw [List.length_cons] at hk; omega)
    refine ⟨s2, s3, s4', s5', ?_⟩
    have sh := shl_nat num (n - wd) hnum (by omega)
    have ib := in_bits_is ((num * 2 ^ (n - wd) : Nat) : Int) (n : Int) (by omega) (by omega)
    rw [Int.toNat_natCast] at ib
    have st : (ws.map D.str).set i (.str (tb n ((num * 2 ^ (n - wd) : Nat) : Int))) = (ws.set i (tb n ((num * 2 ^ (n - wd) : Nat) : Int))).map D.str := by rw [List.map_set]
    rw [List.map_cons, for_step (δ1 := [v0, .own (ws.map .str), .val (.int (num : Int)), .val (.int (wd : Int)), .val (.int (n : Int)), .val (.int (i : Int))]) (δ' := [v0, .own ((ws.set i (tb n ((num * 2 ^ (n - wd) : Nat) : Int))).map .str), .val (.int ((num * 2 ^ (n - wd) + 1 : Nat) : Int)), .val (.int (n : Int)), .val (.int (n : Int)), .val (.int (i : Int))]) rfl (by
      unfold lp_words_1
      have sb : (n : Int) - (wd : Int) = ((n - wd : Nat) : Int) := by omega
      have ad : ((num * 2 ^ (n - wd) : Nat) : Int) + 1 = ((num * 2 ^ (n - wd) + 1 : Nat) : Int) := by omega
      simp only [seqS_eq, seq_nx, seq_rt, seq_rs, asg_eq, asgN_eq, drp_eq, retS_eq, retN_eq, rais_eq, ifS_eq, forF_eq, itS_eq, rngA_eq, vr_eq, cst_eq, bin_eq, un_eq, consA_eq, nilA_eq, app_eq, tst_eq, asB_bl, andT_eq, orT_eq, notT_eq, notD_bl, ifE_eq, newA_eq, lstE_eq, noP_eq, part_eq, asP_int, slc_eq, binS_eq, yes_eq, List.getElem?_cons_succ, List.getElem?_cons_zero, List.set, bind_ok, bind_rs, out_ok, out_rs, fin_rt, fin_rs, fin_nx, if_true, Bool.false_eq_true, if_false, Bool.not_true, Bool.not_false, decide_true, decide_false, nopS_eq, addD_int, subD_int, negD_int, ltD_int, leD_int, gtD_int, geD_int, eqD_int, neD_int, eqD_str, neD_str, lenD_lst, lenD_tup, lenD_scr, max2D_int, min2D_int, asSeq_lst, asSeq_tup, asSeq_str, binN_eq, frzS_eq, appS_eq, ixO_eq, stoS_eq, lenO_eq, asgU_eq, tgU_tup, tgU_lst, tgP_tup, asg2_eq, chn_eq, lnk_bl, isID_int, isID_bl, isID_non, isBD_int, isBD_bl, isBD_non, isPD_tup, isLD_lst, isLD_str, enumD_lst, zipD_lst, List.map_cons, List.map_nil, List.replicate_succ, List.replicate_zero, List.cons_append, List.nil_append, enumA_lst, sb, sh, ib, List.length_map, ixN_nat hi, st, ad]), e]
    rfl
theorem words_bad (x : D) (h : d_need_lengths [x] = .rs "BadCode") : d_words [x] = .rs "BadCode" := by
  rw [d_words, run_eq (by rfl)]; unfold b_words
  show (seqS _ _ [.val x, .no, .no, .no, .no, .no]).fin = _
  simp only [seqS_eq, seq_nx, seq_rt, seq_rs, asg_eq, asgN_eq, drp_eq, retS_eq, retN_eq, rais_eq, ifS_eq, forF_eq, itS_eq, rngA_eq, vr_eq, cst_eq, bin_eq, un_eq, consA_eq, nilA_eq, app_eq, tst_eq, asB_bl, andT_eq, orT_eq, notT_eq, notD_bl, ifE_eq, newA_eq, lstE_eq, noP_eq, part_eq, asP_int, slc_eq, binS_eq, yes_eq, List.getElem?_cons_succ, List.getElem?_cons_zero, List.set, bind_ok, bind_rs, out_ok, out_rs, fin_rt, fin_rs, fin_nx, if_true, Bool.false_eq_true, if_false, Bool.not_true, Bool.not_false, decide_true, decide_false, nopS_eq, addD_int, subD_int, negD_int, ltD_int, leD_int, gtD_int, geD_int, eqD_int, neD_int, eqD_str, neD_str, lenD_lst, lenD_tup, lenD_scr, max2D_int, min2D_int, asSeq_lst, asSeq_tup, asSeq_str, binN_eq, frzS_eq, appS_eq, ixO_eq, stoS_eq, lenO_eq, asgU_eq, tgU_tup, tgU_lst, tgP_tup, asg2_eq, chn_eq, lnk_bl, isID_int, isID_bl, isID_non, isBD_int, isBD_bl, isBD_non, isPD_tup, isLD_lst, isLD_str, enumD_lst, zipD_lst, List.map_cons, List.map_nil, List.replicate_succ, List.replicate_zero, List.cons_append, List.nil_append, enumA_lst, h]
theorem empties (n : Nat) (hn : n ≤ 1000) : mulN (.lst [D.str []]) (.int (n : Int)) = .ok ((List.replicate n []).map .str) := by
  rw [mulN_lst ⟨by omega, by omega, by simp only [List.length_singleton, Int.toNat_natCast, line]; omega⟩, Int.toNat_natCast]
  unfold repL
  rw [List.flatten_replicate_singleton, List.map_replicate]
theorem words_is (ns : List Nat) (hl : ns.length ≤ 1000) (hne : ns ≠ []) (h94 : ∀ n ∈ ns, n ≤ 94) (hf : fills ns) : d_words [.lst (fsD ns)] = .ok (.lst ((wds ns).map .str)) := by
  rw [d_words, run_eq (by rfl)]; unfold b_words
  have nl := need_lengths_is ns hl hne h94
  rw [if_pos hf] at nl
  have mk1 : mkL [D.str []] = .ok (.lst [.str []]) := mkL_ok (by show 1 ≤ line; decide)
  have sb := sort_by ns (δ := [.val (.lst (fsD ns)), .own ((List.replicate ns.length []).map .str), .val (.int ((0 : Nat) : Int)), .val (.int ((0 : Nat) : Int)), .no, .no]) (i := 4) (j := 5) (v := 0) (by decide) (by show 4 < 6; decide) (by show 5 < 6; decide) hl rfl
  have hbl : (byLen ns).length = ns.length := by unfold byLen; rw [srt_len, List.length_mapIdx]
  obtain ⟨s2, s3, s4, s5, ew⟩ := for_words (.val (.lst (fsD ns))) (byLen ns) 0 0 0 (List.replicate ns.length []) .no .no (by_sorted ns) (fun p hp => by
    have g := by_mem hp
    have hlt := (List.getElem?_eq_some_iff.mp g).1
    exact ⟨Nat.zero_le _, h94 _ (List.mem_of_getElem? g), by rw [List.length_replicate]; exact hlt⟩) (by simp) (by omega)
  show (seqS _ _ [.val (.lst (fsD ns)), .no, .no, .no, .no, .no]).fin = _
  rw [seq_to (δ' := [.val (.lst (fsD ns)), .no, .no, .no, .no, .no]) (by simp only [seqS_eq, seq_nx, seq_rt, seq_rs, asg_eq, asgN_eq, drp_eq, retS_eq, retN_eq, rais_eq, ifS_eq, forF_eq, itS_eq, rngA_eq, vr_eq, cst_eq, bin_eq, un_eq, consA_eq, nilA_eq, app_eq, tst_eq, asB_bl, andT_eq, orT_eq, notT_eq, notD_bl, ifE_eq, newA_eq, lstE_eq, noP_eq, part_eq, asP_int, slc_eq, binS_eq, yes_eq, List.getElem?_cons_succ, List.getElem?_cons_zero, List.set, bind_ok, bind_rs, out_ok, out_rs, fin_rt, fin_rs, fin_nx, if_true, Bool.false_eq_true, if_false, Bool.not_true, Bool.not_false, decide_true, decide_false, nopS_eq, addD_int, subD_int, negD_int, ltD_int, leD_int, gtD_int, geD_int, eqD_int, neD_int, eqD_str, neD_str, lenD_lst, lenD_tup, lenD_scr, max2D_int, min2D_int, asSeq_lst, asSeq_tup, asSeq_str, binN_eq, frzS_eq, appS_eq, ixO_eq, stoS_eq, lenO_eq, asgU_eq, tgU_tup, tgU_lst, tgP_tup, asg2_eq, chn_eq, lnk_bl, isID_int, isID_bl, isID_non, isBD_int, isBD_bl, isBD_non, isPD_tup, isLD_lst, isLD_str, enumD_lst, zipD_lst, List.map_cons, List.map_nil, List.replicate_succ, List.replicate_zero, List.cons_append, List.nil_append, enumA_lst, nl])]
  rw [seq_to (δ' := [.val (.lst (fsD ns)), .own ((List.replicate ns.length []).map .str), .no, .no, .no, .no]) (by simp only [seqS_eq, seq_nx, seq_rt, seq_rs, asg_eq, asgN_eq, drp_eq, retS_eq, retN_eq, rais_eq, ifS_eq, forF_eq, itS_eq, rngA_eq, vr_eq, cst_eq, bin_eq, un_eq, consA_eq, nilA_eq, app_eq, tst_eq, asB_bl, andT_eq, orT_eq, notT_eq, notD_bl, ifE_eq, newA_eq, lstE_eq, noP_eq, part_eq, asP_int, slc_eq, binS_eq, yes_eq, List.getElem?_cons_succ, List.getElem?_cons_zero, List.set, bind_ok, bind_rs, out_ok, out_rs, fin_rt, fin_rs, fin_nx, if_true, Bool.false_eq_true, if_false, Bool.not_true, Bool.not_false, decide_true, decide_false, nopS_eq, addD_int, subD_int, negD_int, ltD_int, leD_int, gtD_int, geD_int, eqD_int, neD_int, eqD_str, neD_str, lenD_lst, lenD_tup, lenD_scr, max2D_int, min2D_int, asSeq_lst, asSeq_tup, asSeq_str, binN_eq, frzS_eq, appS_eq, ixO_eq, stoS_eq, lenO_eq, asgU_eq, tgU_tup, tgU_lst, tgP_tup, asg2_eq, chn_eq, lnk_bl, isID_int, isID_bl, isID_non, isBD_int, isBD_bl, isBD_non, isPD_tup, isLD_lst, isLD_str, enumD_lst, zipD_lst, List.map_cons, List.map_nil, List.replicate_succ, List.replicate_zero, List.cons_append, List.nil_append, enumA_lst, mk1, fsD_len, empties ns.length hl])]
  rw [seq_to (δ' := [.val (.lst (fsD ns)), .own ((List.replicate ns.length []).map .str), .val (.int ((0 : Nat) : Int)), .no, .no, .no]) (by rfl)]
  rw [seq_to (δ' := [.val (.lst (fsD ns)), .own ((List.replicate ns.length []).map .str), .val (.int ((0 : Nat) : Int)), .val (.int ((0 : Nat) : Int)), .no, .no]) (by rfl)]
  rw [seq_to (by rw [forF_eq, sb, out_ok]; exact ew)]
  rfl
end Lw


set_option Elab.async false
set_option linter.all false
set_option maxRecDepth 100000
set_option maxHeartbeats 4000000
namespace Lw
open PySem PySem.Spec L2 Dn
/-! ### comprehensions with a test -/
theorem lcS_filter {gt : D → Sto → Option Sto} {vs : List Nat} {ft : Sto → Res Bool} {fe : Sto → Res D} {δ : Sto} {p : D → Bool} {f : D → D} : ∀ {xs : List D}, (∀ x ∈ xs, ∃ δ', gt x (wipeS δ vs) = some δ' ∧ ft δ' = .ok (p x) ∧ (p x = true → fe δ' = .ok (f x))) → lcS gt vs ft fe xs δ = .ok ((xs.filter p).map f)
  | [], _ => rfl
  | x :: xs, h => by
    obtain ⟨δ', e1, e2, e3⟩ := h x List.mem_cons_self
    have ih := lcS_filter (xs := xs) (p := p) (f := f) fun y hy => h y (List.mem_cons_of_mem _ hy)
    rw [lcS, e1]
    dsimp only
    rw [e2]
    cases hp : p x with
    | true => simp [e3 hp, ih, List.filter_cons, hp]
    | false => simp [ih, List.filter_cons, hp]
theorem lcN_filter {fi : Sto → Res (List D)} {vs : List Nat} {ft : Sto → Res Bool} {fe : Sto → Res D} {δ : Sto} {p : D → Bool} {f : D → D} {xs : List D} {j : Nat} (hi : fi δ = .ok xs) (hl : xs.length ≤ line) (h : ∀ x ∈ xs, ft ((wipeS δ vs).set j (.val x)) = .ok (p x) ∧ (p x = true → fe ((wipeS δ vs).set j (.val x)) = .ok (f x))) : lcF fi (tgN j) vs ft fe δ = .ok ((xs.filter p).map f) := by
  unfold lcF
  rw [hi, bind_ok, if_pos hl]
  exact lcS_filter fun x hx => ⟨_, rfl, h x hx⟩
/-! ### signs, texts -/
def sgn (c : Nat) : Bool := decide (32 ≤ c) && decide (c ≤ 126) && !decide (c = 37)
def isSg : List Nat → Bool
  | [c] => sgn c
  | _ => false
theorem sgn_int (c : Nat) : (decide ((32 : Int) ≤ (c : Int)) && decide ((c : Int) ≤ 126) && !decide ((c : Int) = 37)) = sgn c := by
  unfold sgn
  rw [show decide ((32 : Int) ≤ (c : Int)) = decide (32 ≤ c) from decide_eq_decide.mpr (by omega), show decide ((c : Int) ≤ 126) = decide (c ≤ 126) from decide_eq_decide.mpr (by omega), show decide ((c : Int) = 37) = decide (c = 37) from decide_eq_decide.mpr (by omega)]
theorem is_sign_is (l : List Nat) (hl : l.length ≤ line) : d_is_sign [.str l] = .ok (.bl (isSg l)) := by
  rw [d_is_sign, run_eq (by rfl)]; unfold b_is_sign
  have o1 : ordD [.str [32]] = .ok (.int 32) := rfl
  have o2 : ordD [.str [126]] = .ok (.int 126) := rfl
  match l, hl with
  | [], hl => simp [andV, lenD_str hl, isSg]
  | [c], hl =>
    have o3 : ordD [.str [c]] = .ok (.int (c : Int)) := rfl
    have e1 : decide ((([c] : List Nat).length : Int) = 1) = true := decide_eq_true rfl
    show _ = Res.ok (D.bl (sgn c))
    rw [← sgn_int]
    show (retS _ [.val (.str [c])]).fin = _
    unfold andV
    simp only [seqS_eq, seq_nx, seq_rt, seq_rs, asg_eq, asgN_eq, drp_eq, retS_eq, retN_eq, rais_eq, ifS_eq, forF_eq, itS_eq, rngA_eq, vr_eq, cst_eq, bin_eq, un_eq, consA_eq, nilA_eq, app_eq, tst_eq, asB_bl, andT_eq, orT_eq, notT_eq, notD_bl, ifE_eq, newA_eq, lstE_eq, noP_eq, part_eq, asP_int, slc_eq, binS_eq, yes_eq, List.getElem?_cons_succ, List.getElem?_cons_zero, List.set, bind_ok, bind_rs, out_ok, out_rs, fin_rt, fin_rs, fin_nx, if_true, Bool.false_eq_true, if_false, Bool.not_true, Bool.not_false, decide_true, decide_false, nopS_eq, addD_int, subD_int, negD_int, ltD_int, leD_int, gtD_int, geD_int, eqD_int, neD_int, eqD_str, neD_str, lenD_lst, lenD_tup, lenD_scr, max2D_int, min2D_int, asSeq_lst, asSeq_tup, asSeq_str, binN_eq, frzS_eq, appS_eq, ixO_eq, stoS_eq, lenO_eq, asgU_eq, tgU_tup, tgU_lst, tgP_tup, asg2_eq, chn_eq, lnk_bl, isID_int, isID_bl, isID_non, isBD_int, isBD_bl, isBD_non, isPD_tup, isLD_lst, isLD_str, enumD_lst, zipD_lst, List.map_cons, List.map_nil, List.replicate_succ, List.replicate_zero, List.cons_append, List.nil_append, lenD_str hl, e1, o1, o2, o3]
    by_cases h1 : (32 : Int) ≤ (c : Int)
    · by_cases h2 : (c : Int) ≤ 126
      · by_cases h3 : (c : Int) = 37
        · have h3' : c = 37 := by omega
          subst h3'
          simp
        · have h3' : ¬ c = 37 := by omega
          simp [h1, h2, h3, h3']
      · simp [h1, h2]
    · simp [h1]
  | a :: b :: r, hl =>
    have e1 : decide ((((a :: b :: r).length : Nat) : Int) = 1) = false := decide_eq_false (by simp only [List.length_cons]; omega)
    show (retS _ [.val (.str (a :: b :: r))]).fin = _
    unfold andV
    simp only [seqS_eq, seq_nx, seq_rt, seq_rs, asg_eq, asgN_eq, drp_eq, retS_eq, retN_eq, rais_eq, ifS_eq, forF_eq, itS_eq, rngA_eq, vr_eq, cst_eq, bin_eq, un_eq, consA_eq, nilA_eq, app_eq, tst_eq, asB_bl, andT_eq, orT_eq, notT_eq, notD_bl, ifE_eq, newA_eq, lstE_eq, noP_eq, part_eq, asP_int, slc_eq, binS_eq, yes_eq, List.getElem?_cons_succ, List.getElem?_cons_zero, List.set, bind_ok, bind_rs, out_ok, out_rs, fin_rt, fin_rs, fin_nx, if_true, Bool.false_eq_true, if_false, Bool.not_true, Bool.not_false, decide_true, decide_false, nopS_eq, addD_int, subD_int, negD_int, ltD_int, leD_int, gtD_int, geD_int, eqD_int, neD_int, eqD_str, neD_str, lenD_lst, lenD_tup, lenD_scr, max2D_int, min2D_int, asSeq_lst, asSeq_tup, asSeq_str, binN_eq, frzS_eq, appS_eq, ixO_eq, stoS_eq, lenO_eq, asgU_eq, tgU_tup, tgU_lst, tgP_tup, asg2_eq, chn_eq, lnk_bl, isID_int, isID_bl, isID_non, isBD_int, isBD_bl, isBD_non, isPD_tup, isLD_lst, isLD_str, enumD_lst, zipD_lst, List.map_cons, List.map_nil, List.replicate_succ, List.replicate_zero, List.cons_append, List.nil_append, lenD_str hl, e1, isSg]
def okT (t : List Nat) : Bool := decide (t.length ≤ 512) && t.all sgn
theorem need_text_is (t : List Nat) (hl : t.length ≤ line) : d_need_text [.str t] = if okT t = true then .ok .non else .rs "BadText" := by
  rw [d_need_text, run_eq (by rfl)]; unfold b_need_text
  have lc := lcN_map (δ := [.val (.str t), .no]) (vs := [1]) (j := 1) (fe := app d_is_sign (consA (vr 1) nilA)) (fi := itS (vr 0)) (xs := t.map fun c => .str [c]) (f := fun d => match d with | .str [c] => .bl (sgn c) | d => d) (by simp only [seqS_eq, seq_nx, seq_rt, seq_rs, asg_eq, asgN_eq, drp_eq, retS_eq, retN_eq, rais_eq, ifS_eq, forF_eq, itS_eq, rngA_eq, vr_eq, cst_eq, bin_eq, un_eq, consA_eq, nilA_eq, app_eq, tst_eq, asB_bl, andT_eq, orT_eq, notT_eq, notD_bl, ifE_eq, newA_eq, lstE_eq, noP_eq, part_eq, asP_int, slc_eq, binS_eq, yes_eq, List.getElem?_cons_succ, List.getElem?_cons_zero, List.set, bind_ok, bind_rs, out_ok, out_rs, fin_rt, fin_rs, fin_nx, if_true, Bool.false_eq_true, if_false, Bool.not_true, Bool.not_false, decide_true, decide_false, nopS_eq, addD_int, subD_int, negD_int, ltD_int, leD_int, gtD_int, geD_int, eqD_int, neD_int, eqD_str, neD_str, lenD_lst, lenD_tup, lenD_scr, max2D_int, min2D_int, asSeq_lst, asSeq_tup, asSeq_str, binN_eq, frzS_eq, appS_eq, ixO_eq, stoS_eq, lenO_eq, asgU_eq, tgU_tup, tgU_lst, tgP_tup, asg2_eq, chn_eq, lnk_bl, isID_int, isID_bl, isID_non, isBD_int, isBD_bl, isBD_non, isPD_tup, isLD_lst, isLD_str, enumD_lst, zipD_lst, List.map_cons, List.map_nil, List.replicate_succ, List.replicate_zero, List.cons_append, List.nil_append]) (by rw [List.length_map]; exact hl) (fun x hx => by
    obtain ⟨c, _, rfl⟩ := List.mem_map.mp hx
    simp only [seqS_eq, seq_nx, seq_rt, seq_rs, asg_eq, asgN_eq, drp_eq, retS_eq, retN_eq, rais_eq, ifS_eq, forF_eq, itS_eq, rngA_eq, vr_eq, cst_eq, bin_eq, un_eq, consA_eq, nilA_eq, app_eq, tst_eq, asB_bl, andT_eq, orT_eq, notT_eq, notD_bl, ifE_eq, newA_eq, lstE_eq, noP_eq, part_eq, asP_int, slc_eq, binS_eq, yes_eq, List.getElem?_cons_succ, List.getElem?_cons_zero, List.set, bind_ok, bind_rs, out_ok, out_rs, fin_rt, fin_rs, fin_nx, if_true, Bool.false_eq_true, if_false, Bool.not_true, Bool.not_false, decide_true, decide_false, nopS_eq, addD_int, subD_int, negD_int, ltD_int, leD_int, gtD_int, geD_int, eqD_int, neD_int, eqD_str, neD_str, lenD_lst, lenD_tup, lenD_scr, max2D_int, min2D_int, asSeq_lst, asSeq_tup, asSeq_str, binN_eq, frzS_eq, appS_eq, ixO_eq, stoS_eq, lenO_eq, asgU_eq, tgU_tup, tgU_lst, tgP_tup, asg2_eq, chn_eq, lnk_bl, isID_int, isID_bl, isID_non, isBD_int, isBD_bl, isBD_non, isPD_tup, isLD_lst, isLD_str, enumD_lst, zipD_lst, List.map_cons, List.map_nil, List.replicate_succ, List.replicate_zero, List.cons_append, List.nil_append, wipeS, is_sign_is [c] (by show 1 ≤ line; decide), isSg])
  have e2 : (t.map fun c => D.str [c]).map (fun d => match d with | .str [c] => D.bl (sgn c) | d => d) = t.map fun c => D.bl (sgn c) := by rw [List.map_map]; rfl
  rw [e2] at lc
  have al := all_map sgn t
  show (ifS _ _ _ [.val (.str t), .no]).fin = _
  unfold okT
  by_cases h : t.length ≤ 512
  · simp only [seqS_eq, seq_nx, seq_rt, seq_rs, asg_eq, asgN_eq, drp_eq, retS_eq, retN_eq, rais_eq, ifS_eq, forF_eq, itS_eq, rngA_eq, vr_eq, cst_eq, bin_eq, un_eq, consA_eq, nilA_eq, app_eq, tst_eq, asB_bl, andT_eq, orT_eq, notT_eq, notD_bl, ifE_eq, newA_eq, lstE_eq, noP_eq, part_eq, asP_int, slc_eq, binS_eq, yes_eq, List.getElem?_cons_succ, List.getElem?_cons_zero, List.set, bind_ok, bind_rs, out_ok, out_rs, fin_rt, fin_rs, fin_nx, if_true, Bool.false_eq_true, if_false, Bool.not_true, Bool.not_false, decide_true, decide_false, nopS_eq, addD_int, subD_int, negD_int, ltD_int, leD_int, gtD_int, geD_int, eqD_int, neD_int, eqD_str, neD_str, lenD_lst, lenD_tup, lenD_scr, max2D_int, min2D_int, asSeq_lst, asSeq_tup, asSeq_str, binN_eq, frzS_eq, appS_eq, ixO_eq, stoS_eq, lenO_eq, asgU_eq, tgU_tup, tgU_lst, tgP_tup, asg2_eq, chn_eq, lnk_bl, isID_int, isID_bl, isID_non, isBD_int, isBD_bl, isBD_non, isPD_tup, isLD_lst, isLD_str, enumD_lst, zipD_lst, List.map_cons, List.map_nil, List.replicate_succ, List.replicate_zero, List.cons_append, List.nil_append, lenD_str hl, decide_eq_false (show ¬ (512 : Int) < (t.length : Int) by omega), lc, al, decide_eq_true h, Bool.true_and]
    cases t.all sgn <;> rfl
  · simp only [seqS_eq, seq_nx, seq_rt, seq_rs, asg_eq, asgN_eq, drp_eq, retS_eq, retN_eq, rais_eq, ifS_eq, forF_eq, itS_eq, rngA_eq, vr_eq, cst_eq, bin_eq, un_eq, consA_eq, nilA_eq, app_eq, tst_eq, asB_bl, andT_eq, orT_eq, notT_eq, notD_bl, ifE_eq, newA_eq, lstE_eq, noP_eq, part_eq, asP_int, slc_eq, binS_eq, yes_eq, List.getElem?_cons_succ, List.getElem?_cons_zero, List.set, bind_ok, bind_rs, out_ok, out_rs, fin_rt, fin_rs, fin_nx, if_true, Bool.false_eq_true, if_false, Bool.not_true, Bool.not_false, decide_true, decide_false, nopS_eq, addD_int, subD_int, negD_int, ltD_int, leD_int, gtD_int, geD_int, eqD_int, neD_int, eqD_str, neD_str, lenD_lst, lenD_tup, lenD_scr, max2D_int, min2D_int, asSeq_lst, asSeq_tup, asSeq_str, binN_eq, frzS_eq, appS_eq, ixO_eq, stoS_eq, lenO_eq, asgU_eq, tgU_tup, tgU_lst, tgP_tup, asg2_eq, chn_eq, lnk_bl, isID_int, isID_bl, isID_non, isBD_int, isBD_bl, isBD_non, isPD_tup, isLD_lst, isLD_str, enumD_lst, zipD_lst, List.map_cons, List.map_nil, List.replicate_succ, List.replicate_zero, List.cons_append, List.nil_append, lenD_str hl, decide_eq_true (show (512 : Int) < (t.length : Int) by omega), decide_eq_false h, Bool.false_and]
theorem flat_sgs (l : List Nat) : (l.map fun c => [c]).flatten = l := by
  induction l with
  | nil => rfl
  | cons x l ih => rw [List.map_cons, List.flatten_cons, ih]; rfl
theorem letters_of_is (t : List Nat) (h1 : t.length ≤ 4000) (h2 : (ltrs t).length < 64) : d_letters_of [.str t] = .ok (.str (ltrs t)) := by
  rw [d_letters_of, run_eq (by rfl)]; unfold b_letters_of
  have e : srtSD [.str t] = .ok (.lst (sgs (ltrs t))) := if_pos ⟨h1, h2⟩
  have e2 : sgs (ltrs t) = ((ltrs t).map fun c => [c]).map D.str := by unfold sgs; rw [List.map_map]; rfl
  have j := join_is (ls := (ltrs t).map fun c => [c]) (by rw [flat_sgs]; simp only [line]; omega)
  rw [flat_sgs, ← e2] at j
  show (retS _ [.val (.str t)]).fin = _
  simp only [seqS_eq, seq_nx, seq_rt, seq_rs, asg_eq, asgN_eq, drp_eq, retS_eq, retN_eq, rais_eq, ifS_eq, forF_eq, itS_eq, rngA_eq, vr_eq, cst_eq, bin_eq, un_eq, consA_eq, nilA_eq, app_eq, tst_eq, asB_bl, andT_eq, orT_eq, notT_eq, notD_bl, ifE_eq, newA_eq, lstE_eq, noP_eq, part_eq, asP_int, slc_eq, binS_eq, yes_eq, List.getElem?_cons_succ, List.getElem?_cons_zero, List.set, bind_ok, bind_rs, out_ok, out_rs, fin_rt, fin_rs, fin_nx, if_true, Bool.false_eq_true, if_false, Bool.not_true, Bool.not_false, decide_true, decide_false, nopS_eq, addD_int, subD_int, negD_int, ltD_int, leD_int, gtD_int, geD_int, eqD_int, neD_int, eqD_str, neD_str, lenD_lst, lenD_tup, lenD_scr, max2D_int, min2D_int, asSeq_lst, asSeq_tup, asSeq_str, binN_eq, frzS_eq, appS_eq, ixO_eq, stoS_eq, lenO_eq, asgU_eq, tgU_tup, tgU_lst, tgP_tup, asg2_eq, chn_eq, lnk_bl, isID_int, isID_bl, isID_non, isBD_int, isBD_bl, isBD_non, isPD_tup, isLD_lst, isLD_str, enumD_lst, zipD_lst, List.map_cons, List.map_nil, List.replicate_succ, List.replicate_zero, List.cons_append, List.nil_append, e, j]
theorem find_of {l : List Nat} {c : Nat} (h : c ∈ l) : l.findIdx? (fun d => d == c) = some (l.idxOf c) := by
  unfold List.idxOf
  rw [List.findIdx?_eq_some_iff_findIdx_eq]
  exact ⟨List.findIdx_lt_length.mpr ⟨c, h, beq_self_eq_true c⟩, rfl⟩
theorem cell_is (ns : List Int) (hns : ns.length ≤ 63) (k : Int) (h0 : 0 ≤ k) (h1 : k ≤ 1000) : ∃ z, d__law_cell [.scr ns, .int k] = .ok (.int z) := by
  rw [d__law_cell, run_eq (by rfl)]; unfold b__law_cell
  by_cases h : ns = []
  · refine ⟨k * 7919, ?_⟩
    have m : mulOk k 7919 = true := by
      unfold mulOk
      rw [decide_eq_true (show -(2 ^ 64) < k by omega), decide_eq_true (show k < 2 ^ 64 by omega)]; rfl
    simp [mkL_ok, script_nil, h, mulD_int m]
  · have hp : 0 < ns.length := List.length_pos_iff.mpr h
    have hp' : (0 : Int) < (ns.length : Int) := by omega
    have hm := Int.emod_nonneg k (show (ns.length : Int) ≠ 0 by omega)
    have hm2 := Int.emod_lt_of_pos k hp'
    have hlt : (k % (ns.length : Int)).toNat < ns.length := by omega
    have at1 : atI ns (k % (ns.length : Int)) = some ns[(k % (ns.length : Int)).toNat] := by
      unfold atI ixN
      rw [if_pos hm, if_pos hm2]
      exact List.getElem?_eq_getElem hlt
    have hb : (ns.length : Int) < 2 ^ 200 := by omega
    have hd := Int.ediv_nonneg h0 (show (0 : Int) ≤ ns.length by omega)
    have hd2 : k / (ns.length : Int) ≤ k := Int.ediv_le_self _ h0
    have m : mulOk (k / (ns.length : Int)) 104729 = true := by
      unfold mulOk
      rw [decide_eq_true (show -(2 ^ 64) < k / (ns.length : Int) by omega), decide_eq_true (show k / (ns.length : Int) < 2 ^ 64 by omega)]; rfl
    exact ⟨ns[(k % (ns.length : Int)).toNat] + k / (ns.length : Int) * 104729, by simp [mkL_ok, script_nil, h, modD_int hp', ixD, at1, fdivD_int ⟨hp', hb⟩, mulD_int m]⟩
theorem mul_small {i j : Int} (h0 : 0 ≤ i) (h1 : i < 2 ^ 200) (h2 : 0 ≤ j) (h3 : j < 2 ^ 200) : mulOk i j = true := by
  unfold mulOk
  rw [decide_eq_true (show i.natAbs < 2 ^ 200 by omega), decide_eq_true (show j.natAbs < 2 ^ 200 by omega)]
  simp
theorem drawn_is (c k : Int) : ∃ z, d__law_drawn [.int c, .int k] = .ok (.int z) ∧ 0 ≤ z ∧ z < 340282366920938463463374607431768211507 := by
  rw [d__law_drawn, run_eq (by rfl)]; unfold b__law_drawn
  have m1 : mulOk c 6364136223846793005 = true := by unfold mulOk; simp
  have m2 : mulOk (k + 1) 1442695040888963407 = true := by unfold mulOk; simp
  generalize hx : (c * 6364136223846793005 + (k + 1) * 1442695040888963407) % 340282366920938463463374607431768211507 = x
  have x0 : 0 ≤ x ∧ x < 340282366920938463463374607431768211507 := by omega
  have m3 : mulOk x x = true := mul_small x0.1 (by omega) x0.1 (by omega)
  generalize hy : x * x % 340282366920938463463374607431768211297 = y
  have y0 : 0 ≤ y ∧ y < 340282366920938463463374607431768211297 := by omega
  have a1 : 0 ≤ y % 18446744073709551557 + 1 ∧ y % 18446744073709551557 + 1 ≤ 18446744073709551557 := by omega
  have a2 : 0 ≤ y / 18446744073709551557 + 1 ∧ y / 18446744073709551557 + 1 ≤ 18446744073709552000 := by omega
  have m4 : mulOk (y % 18446744073709551557 + 1) (y / 18446744073709551557 + 1) = true := mul_small a1.1 (by omega) a2.1 (by omega)
  have p0 : 0 ≤ (y % 18446744073709551557 + 1) * (y / 18446744073709551557 + 1) := Int.mul_nonneg a1.1 a2.1
  have p1 : (y % 18446744073709551557 + 1) * (y / 18446744073709551557 + 1) ≤ 18446744073709551557 * 18446744073709552000 := Int.mul_le_mul a1.2 a2.2 a2.1 (by decide)
  have m5 : mulOk ((y % 18446744073709551557 + 1) * (y / 18446744073709551557 + 1)) y = true := mul_small p0 (by omega) y0.1 (by omega)
  refine ⟨_, by simp [mulD_int m1, mulD_int m2, modD_int, hx, mulD_int m3, hy, fdivD_int, mulD_int m4, mulD_int m5]; rfl, ?_, ?_⟩
  · exact Int.emod_nonneg _ (by decide)
  · exact Int.emod_lt_of_pos _ (by decide)
noncomputable def dz (c k : Int) : Int := (drawn_is c k).choose
theorem dz_is (c k : Int) : d__law_drawn [.int c, .int k] = .ok (.int (dz c k)) := (drawn_is c k).choose_spec.1
theorem dz_0 (c k : Int) : 0 ≤ dz c k := (drawn_is c k).choose_spec.2.1
theorem upTo_get {a : Int} {n i : Nat} {x : D} (h : (Dn.upTo a n)[i]? = some x) : i < n ∧ x = .int (a + (i : Int)) := by
  have hi : i < n := by
    have := (List.getElem?_eq_some_iff.mp h).1
    rw [upTo_len] at this; exact this
  unfold Dn.upTo at h
  rw [List.getElem?_map, List.getElem?_range hi] at h
  exact ⟨hi, (Option.some.inj h).symm⟩
theorem rep_len {α : Type} (n : Nat) (a : List α) : (repL n a).length = n * a.length := by
  unfold repL
  rw [List.length_flatten, List.map_replicate, List.sum_replicate_nat]
theorem rep_count (n : Nat) (a : List Nat) (c : Nat) : (repL n a).count c = n * a.count c := by
  unfold repL
  rw [List.count_flatten, List.map_replicate, List.sum_replicate_nat]
theorem rep_mem {n : Nat} {a : List Nat} {c : Nat} (h : c ∈ repL n a) : c ∈ a := by
  unfold repL at h
  obtain ⟨l, hl, hc⟩ := List.mem_flatten.mp h
  rw [List.mem_replicate] at hl
  rw [← hl.2]; exact hc
theorem mul_str {a : List Nat} {n : Int} (h : n < 2 ^ 40 ∧ -(2 ^ 40) < n ∧ a.length * n.toNat ≤ line) : mulD (.str a) (.int n) = .ok (.str (repL n.toNat a)) := by
  show (if n < 2 ^ 40 ∧ -(2 ^ 40) < n ∧ a.length * n.toNat ≤ line then Res.ok (D.str (repL n.toNat a)) else .stuck) = _
  rw [if_pos h]
/-! ### lists of refusals -/
abbrev bp : D := .str [66, 97, 100, 80, 108, 97, 99, 101]
abbrev bx : D := .str [66, 97, 100, 84, 101, 120, 116]
theorem app_t {δ : Sto} {i : Nat} {fe : Sto → Res D} {xs : List D} {d : D} (h : δ[i]? = some (.own xs)) (hn : xs.length ≤ 100) (e : told fe δ = .ok d) : appS i (told fe) δ = .nx (δ.set i (.own (xs ++ [d]))) := by
  unfold appS
  rw [h]
  show ((told fe δ).out fun d => if xs.length < line then Out.nx (δ.set i (.own (xs ++ [d]))) else .stuck) = _
  rw [e, out_ok, if_pos (by simp only [line]; omega)]
theorem cat_t {δ : Sto} {i : Nat} {fe : Sto → Res D} {xs : List D} {d : D} (h : δ[i]? = some (.own xs)) (hlen : i < δ.length) (hn : xs.length ≤ 100) (e : told fe (δ.set i (.val (.lst xs))) = .ok d) :
    frzS i (asgN i (binN addN (vr i) (app mkL (consA (told fe) nilA)))) δ = .nx (δ.set i (.own (xs ++ [d]))) := by
  unfold frzS
  rw [h]
  show asgN i (binN addN (vr i) (app mkL (consA (told fe) nilA))) (δ.set i (.val (.lst xs))) = _
  have g : (δ.set i (.val (.lst xs)))[i]? = some (.val (.lst xs)) := List.getElem?_set_self hlen
  rw [asgN_eq, binN_eq, vr_eq, g, app_eq, consA_eq, e]
  have mk1 : mkL [d] = .ok (.lst [d]) := mkL_ok (by show 1 ≤ line; decide)
  simp only [bind_ok, nilA_eq, mk1]
  rw [addN_lst (by simp only [List.length_singleton, line]; omega), out_ok, List.set_set]
theorem new_t {δ : Sto} {i : Nat} {fe : Sto → Res D} {d : D} (e : told fe δ = .ok d) : asgN i (newA (consA (told fe) nilA)) δ = .nx (δ.set i (.own [d])) := by
  have mk1 : mkN [d] = .ok [d] := if_pos (by show 1 ≤ line; decide)
  rw [asgN_eq, newA_eq, consA_eq, e]
  simp only [bind_ok, nilA_eq, mk1, out_ok]
end Lw


set_option Elab.async false
set_option linter.all false
set_option maxRecDepth 100000
set_option maxHeartbeats 4000000
namespace Lw
open PySem PySem.Spec L2 Dn
/-! ### words: none begins another -/
theorem tb_take : ∀ (w k n : Nat), k ≤ w → (tb w (n : Int)).take k = tb k ((n / 2 ^ (w - k) : Nat) : Int)
  | 0, k, n, h => by
    obtain rfl : k = 0 := by omega
    rfl
  | w + 1, k, n, h => by
    by_cases hk : k = w + 1
    · subst hk
      rw [List.take_of_length_le (by rw [tb_len]; exact Nat.le_refl _), Nat.sub_self, Nat.pow_zero, Nat.div_one]
    · rw [tb, List.take_append_of_le_length (by rw [tb_len]; omega), show ((n : Int) / 2) = ((n / 2 : Nat) : Int) by omega, tb_take w k (n / 2) (by omega), Nat.div_div_eq_div_mul, show w + 1 - k = (w - k) + 1 by omega, Nat.pow_succ, Nat.mul_comm 2]
def wsq : List (Nat × Nat) → Nat → Nat → List (Nat × Nat × Nat)
  | [], _, _ => []
  | (n, i) :: ps, num, wd => (n, i, num * 2 ^ (n - wd)) :: wsq ps (num * 2 ^ (n - wd) + 1) n
theorem wsq_idx : ∀ (ps : List (Nat × Nat)) (num wd : Nat), (wsq ps num wd).map (·.2.1) = ps.map (·.2)
  | [], _, _ => rfl
  | (n, i) :: ps, num, wd => by rw [wsq, List.map_cons, wsq_idx ps]; rfl
theorem wsq_mem : ∀ {ps : List (Nat × Nat)} {num wd : Nat} {q : Nat × Nat × Nat}, q ∈ wsq ps num wd → (q.1, q.2.1) ∈ ps
  | [], _, _, q, h => by cases h
  | (n, i) :: ps, num, wd, q, h => by
    rw [wsq] at h
    rcases List.mem_cons.mp h with rfl | h
    · exact List.mem_cons_self
    · exact List.mem_cons_of_mem _ (wsq_mem h)
theorem pow_split {a b c : Nat} (h1 : a ≤ b) (h2 : b ≤ c) : 2 ^ (c - a) = 2 ^ (b - a) * 2 ^ (c - b) := by rw [← Nat.pow_add]; congr 1; omega
theorem wsq_ge : ∀ {ps : List (Nat × Nat)} {num wd : Nat}, ps.Pairwise (fun x y => x.1 ≤ y.1) → (∀ p ∈ ps, wd ≤ p.1) → ∀ q ∈ wsq ps num wd, num * 2 ^ (q.1 - wd) ≤ q.2.2
  | [], _, _, _, _, q, h => by cases h
  | (n, i) :: ps, num, wd, hp, hw, q, h => by
    obtain ⟨h1, h2⟩ := List.pairwise_cons.mp hp
    rw [wsq] at h
    rcases List.mem_cons.mp h with rfl | h
    · exact Nat.le_refl _
    · have a := wsq_ge (num := num * 2 ^ (n - wd) + 1) (wd := n) h2 (fun p hp => h1 p hp) q h
      have b : n ≤ q.1 := h1 _ (wsq_mem h)
      have c : wd ≤ n := hw _ List.mem_cons_self
      rw [pow_split c b, ← Nat.mul_assoc]
      exact Nat.le_trans (Nat.mul_le_mul_right _ (Nat.le_succ _)) a
theorem wsq_pw : ∀ {ps : List (Nat × Nat)} {num wd : Nat}, ps.Pairwise (fun x y => x.1 ≤ y.1) → (wsq ps num wd).Pairwise fun a b => a.1 ≤ b.1 ∧ (a.2.2 + 1) * 2 ^ (b.1 - a.1) ≤ b.2.2
  | [], _, _, _ => List.Pairwise.nil
  | (n, i) :: ps, num, wd, hp => by
    obtain ⟨h1, h2⟩ := List.pairwise_cons.mp hp
    rw [wsq]
    refine List.pairwise_cons.mpr ⟨fun q hq => ⟨h1 _ (wsq_mem hq), ?_⟩, wsq_pw h2⟩
    exact wsq_ge (num := num * 2 ^ (n - wd) + 1) (wd := n) h2 (fun p hp => h1 p hp) q hq
theorem wsq_lt : ∀ {ps : List (Nat × Nat)} {num wd : Nat}, ps.Pairwise (fun x y => x.1 ≤ y.1) → (∀ p ∈ ps, wd ≤ p.1 ∧ p.1 ≤ 94) → num * 2 ^ (94 - wd) + (ps.map fun p => 2 ^ (94 - p.1)).sum ≤ 2 ^ 94 → ∀ q ∈ wsq ps num wd, q.2.2 < 2 ^ q.1
  | [], _, _, _, _, _, q, h => by cases h
  | (n, i) :: ps, num, wd, hp, hw, hs, q, h => by
    obtain ⟨h1, h2⟩ := List.pairwise_cons.mp hp
    obtain ⟨w1, w2⟩ := hw _ List.mem_cons_self
    have w1 : wd ≤ n := w1
    have w2 : n ≤ 94 := w2
    rw [List.map_cons, List.sum_cons, pow_split w1 w2, ← Nat.mul_assoc] at hs
    have hs : num * 2 ^ (n - wd) * 2 ^ (94 - n) + (2 ^ (94 - n) + (ps.map fun p => 2 ^ (94 - p.1)).sum) ≤ 2 ^ 94 := hs
    have hs' : (num * 2 ^ (n - wd) + 1) * 2 ^ (94 - n) + (ps.map fun p => 2 ^ (94 - p.1)).sum ≤ 2 ^ 94 := by rw [Nat.add_mul, Nat.one_mul]; omega
    rw [wsq] at h
    rcases List.mem_cons.mp h with rfl | h
    · have a : (num * 2 ^ (n - wd) + 1) * 2 ^ (94 - n) ≤ 2 ^ n * 2 ^ (94 - n) := by
        rw [← Nat.pow_add, show n + (94 - n) = 94 by omega]; omega
      exact Nat.le_of_mul_le_mul_right a (Nat.pow_pos (by decide))
    · exact wsq_lt h2 (fun p hp => ⟨h1 p hp, (hw p (List.mem_cons_of_mem _ hp)).2⟩) hs' q h
theorem wloop_fold : ∀ (ps : List (Nat × Nat)) (num wd : Nat) (ws : List (List Nat)), wloop ps num wd ws = (wsq ps num wd).foldl (fun ws q => ws.set q.2.1 (tb q.1 (q.2.2 : Int))) ws
  | [], _, _, _ => rfl
  | (n, i) :: ps, num, wd, ws => by rw [wloop, wsq, List.foldl_cons, wloop_fold ps]
theorem fold_off {i : Nat} : ∀ (qs : List (Nat × Nat × Nat)) (ws : List (List Nat)), i ∉ qs.map (·.2.1) → (qs.foldl (fun ws q => ws.set q.2.1 (tb q.1 (q.2.2 : Int))) ws)[i]? = ws[i]?
  | [], _, _ => rfl
  | q :: qs, ws, h => by
    rw [List.map_cons, List.mem_cons, not_or] at h
    rw [List.foldl_cons, fold_off qs _ h.2, List.getElem?_set_ne (fun e => h.1 e.symm)]
theorem fold_on : ∀ {qs : List (Nat × Nat × Nat)} {ws : List (List Nat)} {q : Nat × Nat × Nat}, (qs.map (·.2.1)).Nodup → q ∈ qs → q.2.1 < ws.length → (qs.foldl (fun ws q => ws.set q.2.1 (tb q.1 (q.2.2 : Int))) ws)[q.2.1]? = some (tb q.1 (q.2.2 : Int))
  | [], _, q, _, h, _ => by cases h
  | p :: qs, ws, q, hn, h, hl => by
    rw [List.map_cons, List.nodup_cons] at hn
    rw [List.foldl_cons]
    rcases List.mem_cons.mp h with rfl | h
    · rw [fold_off qs _ hn.1, List.getElem?_set_self hl]
    · exact fold_on hn.2 h (by rw [List.length_set]; exact hl)
theorem by_perm (ns : List Nat) : (byLen ns).Perm (ns.mapIdx fun i n => (n, i)) := srt_perm _ _
theorem mapIdx_snd (ns : List Nat) : (ns.mapIdx fun i n => (n, i)).map (·.2) = List.range ns.length := by
  refine List.ext_getElem? fun i => ?_
  rw [List.getElem?_map, List.getElem?_mapIdx]
  by_cases h : i < ns.length
  · rw [List.getElem?_eq_getElem h, List.getElem?_range h]; rfl
  · rw [List.getElem?_eq_none (by omega), List.getElem?_eq_none (by rw [List.length_range]; omega)]; rfl
theorem mapIdx_fst (ns : List Nat) : (ns.mapIdx fun i n => (n, i)).map (fun p => 2 ^ (94 - p.1)) = ns.map fun n => 2 ^ (94 - n) := by
  refine List.ext_getElem? fun i => ?_
  rw [List.getElem?_map, List.getElem?_mapIdx, List.getElem?_map]
  cases ns[i]? <;> rfl
theorem by_nodup (ns : List Nat) : ((byLen ns).map (·.2)).Nodup := by
  have := (by_perm ns).map (·.2)
  rw [mapIdx_snd] at this
  exact this.nodup_iff.mpr List.nodup_range
/-- a word by its place -/
theorem wds_at (ns : List Nat) (h94 : ∀ n ∈ ns, n ≤ 94) (hf : fills ns) {i n : Nat} (h : ns[i]? = some n) : ∃ q ∈ wsq (byLen ns) 0 0, q.1 = n ∧ q.2.1 = i ∧ q.2.2 < 2 ^ n ∧ (wds ns)[i]? = some (tb n (q.2.2 : Int)) := by
  have hi := (List.getElem?_eq_some_iff.mp h).1
  have hm : (n, i) ∈ byLen ns := (by_perm ns).mem_iff.mpr (List.mem_mapIdx.mpr ⟨i, hi, by rw [(List.getElem?_eq_some_iff.mp h).2]⟩)
  obtain ⟨q, hq, e⟩ : ∃ q ∈ wsq (byLen ns) 0 0, (q.1, q.2.1) = (n, i) := by
    have : ∀ (ps : List (Nat × Nat)) (num wd : Nat) (p : Nat × Nat), p ∈ ps → ∃ q ∈ wsq ps num wd, (q.1, q.2.1) = p := by
      intro ps
      induction ps with
      | nil => intro _ _ p hp; cases hp
      | cons p0 ps ih =>
        intro num wd p hp
        obtain ⟨n0, i0⟩ := p0
        rw [wsq]
        rcases List.mem_cons.mp hp with rfl | hp
        · exact ⟨_, List.mem_cons_self, rfl⟩
        · obtain ⟨q, hq, e⟩ := ih _ n0 p hp
          exact ⟨q, List.mem_cons_of_mem _ hq, e⟩
    exact this _ _ _ _ hm
  have e1 : q.1 = n := congrArg Prod.fst e
  have e2 : q.2.1 = i := congrArg Prod.snd e
  have lt := wsq_lt (by_sorted ns) (fun p hp => ⟨Nat.zero_le _, h94 _ (List.mem_of_getElem? (by_mem hp))⟩) (by
    rw [Nat.zero_mul, Nat.zero_add, ((by_perm ns).map fun p => 2 ^ (94 - p.1)).sum_nat, mapIdx_fst]
    exact Nat.le_of_eq hf) q hq
  refine ⟨q, hq, e1, e2, e1 ▸ lt, ?_⟩
  unfold wds
  rw [wloop_fold, ← e2, ← e1]
  exact fold_on (by rw [wsq_idx]; exact by_nodup ns) hq (by rw [List.length_replicate, e2]; exact hi)
theorem tb_inj {w : Nat} {a b : Nat} (ha : a < 2 ^ w) (hb : b < 2 ^ w) (h : tb w (a : Int) = tb w (b : Int)) : a = b := by
  have x := vl_tb w (a : Int) (by omega) (by exact_mod_cast ha)
  have y := vl_tb w (b : Int) (by omega) (by exact_mod_cast hb)
  rw [h, y] at x
  omega
def PF (ws : List (List Nat)) : Prop := ∀ (i j : Nat) wi wj, ws[i]? = some wi → ws[j]? = some wj → wi <+: wj → i = j
theorem pw_or {α : Type} {R : α → α → Prop} {l : List α} (h : l.Pairwise R) {a b : α} (ha : a ∈ l) (hb : b ∈ l) (hne : a ≠ b) : R a b ∨ R b a := by
  obtain ⟨i, hi, rfl⟩ := List.mem_iff_getElem.mp ha
  obtain ⟨j, hj, rfl⟩ := List.mem_iff_getElem.mp hb
  have q := List.pairwise_iff_getElem.mp h
  rcases Nat.lt_trichotomy i j with c | c | c
  · exact .inl (q i j hi hj c)
  · subst c; exact (hne rfl).elim
  · exact .inr (q j i hj hi c)
theorem wds_pf (ns : List Nat) (h94 : ∀ n ∈ ns, n ≤ 94) (hf : fills ns) : PF (wds ns) := by
  intro i j wi wj hi hj hpre
  have li : i < ns.length := by rw [← wds_len]; exact (List.getElem?_eq_some_iff.mp hi).1
  have lj : j < ns.length := by rw [← wds_len]; exact (List.getElem?_eq_some_iff.mp hj).1
  obtain ⟨qi, mi, a1, a2, a3, a4⟩ := wds_at ns h94 hf (List.getElem?_eq_getElem li)
  obtain ⟨qj, mj, b1, b2, b3, b4⟩ := wds_at ns h94 hf (List.getElem?_eq_getElem lj)
  rw [hi] at a4
  rw [hj] at b4
  obtain rfl := Option.some.inj a4
  obtain rfl := Option.some.inj b4
  rw [← a1] at hpre a3
  rw [← b1] at hpre b3
  by_cases e : i = j
  · exact e
  · exfalso
    have hne : qi ≠ qj := fun q => e (by rw [← a2, ← b2, q])
    have pl := hpre.length_le
    rw [tb_len, tb_len] at pl
    have pt := List.prefix_iff_eq_take.mp hpre
    rw [tb_len, tb_take _ _ _ pl] at pt
    have dl : qj.2.2 / 2 ^ (qj.1 - qi.1) < 2 ^ qi.1 := by
      rw [Nat.div_lt_iff_lt_mul (Nat.pow_pos (by decide)), ← Nat.pow_add, show qi.1 + (qj.1 - qi.1) = qj.1 by omega]
      exact b3
    have eq := tb_inj a3 dl pt
    rcases pw_or (wsq_pw (num := 0) (wd := 0) (by_sorted ns)) mi mj hne with ⟨c1, c2⟩ | ⟨c1, c2⟩
    · have : qi.2.2 + 1 ≤ qj.2.2 / 2 ^ (qj.1 - qi.1) := (Nat.le_div_iff_mul_le (Nat.pow_pos (by decide))).mpr c2
      omega
    · have el : qj.1 = qi.1 := by omega
      rw [el, Nat.sub_self, Nat.pow_zero, Nat.div_one] at eq
      rw [el, Nat.sub_self, Nat.pow_zero, Nat.mul_one] at c2
      omega
theorem wds_wlen (ns : List Nat) (h94 : ∀ n ∈ ns, n ≤ 94) (hf : fills ns) {i n : Nat} (h : ns[i]? = some n) {w : List Nat} (hw : (wds ns)[i]? = some w) : w.length = n := by
  obtain ⟨q, _, _, _, _, e⟩ := wds_at ns h94 hf h
  rw [hw] at e
  rw [Option.some.inj e, tb_len]
end Lw


set_option Elab.async false
set_option linter.all false
set_option maxRecDepth 100000
set_option maxHeartbeats 4000000
namespace Lw
open PySem PySem.Spec L2 Dn
/-! ### one plain reader -/
def rd (ws : List (List Nat)) (lt : List Nat) : Nat → List Nat → Option (List Nat)
  | 0, r => if r = [] then some [] else none
  | n + 1, r => match ws.findIdx? (fun w => w.isPrefixOf r) with
    | none => none
    | some i => (rd ws lt n (r.drop (ws.getD i []).length)).map (lt.getD i 0 :: ·)
theorem rd_none {ws : List (List Nat)} {lt : List Nat} {n : Nat} {r : List Nat} (h : ws.findIdx? (fun w => w.isPrefixOf r) = none) : rd ws lt (n + 1) r = none := by rw [rd, h]
theorem rd_some {ws : List (List Nat)} {lt : List Nat} {n i : Nat} {r : List Nat} (h : ws.findIdx? (fun w => w.isPrefixOf r) = some i) : rd ws lt (n + 1) r = (rd ws lt n (r.drop (ws.getD i []).length)).map (lt.getD i 0 :: ·) := by rw [rd, h]
/-- the word that begins the rest stands at one place alone -/
theorem pf_find {ws : List (List Nat)} (pf : PF ws) {r w : List Nat} {i : Nat} (hi : ws[i]? = some w) (hp : w <+: r) : ws.findIdx? (fun w => w.isPrefixOf r) = some i := by
  obtain ⟨hl, rfl⟩ := List.getElem?_eq_some_iff.mp hi
  rw [List.findIdx?_eq_some_iff_getElem]
  refine ⟨hl, List.isPrefixOf_iff_prefix.mpr hp, fun j hj => ?_⟩
  intro q
  have q := List.isPrefixOf_iff_prefix.mp q
  rcases List.prefix_or_prefix_of_prefix q hp with c | c
  · have := pf j i _ _ (List.getElem?_eq_getElem (by omega)) hi c
    omega
  · have := pf i j _ _ hi (List.getElem?_eq_getElem (by omega)) c
    omega
theorem no_find {ws : List (List Nat)} {r : List Nat} (h : ∀ k ≤ r.length, r.take k ∉ ws) : ws.findIdx? (fun w => w.isPrefixOf r) = none := by
  rw [List.findIdx?_eq_none_iff]
  intro w hw
  cases q : w.isPrefixOf r with
  | false => rfl
  | true =>
    have q := List.isPrefixOf_iff_prefix.mp q
    exact (h w.length q.length_le (by rw [← List.prefix_iff_eq_take.mp q]; exact hw)).elim
def wsD (ws : List (List Nat)) : List D := ws.map .str
theorem wsD_len (ws : List (List Nat)) : (wsD ws).length = ws.length := List.length_map _
theorem wsD_flat (ws : List (List Nat)) : (wsD ws).all flatD = true := List.all_eq_true.mpr fun d hd => by
  obtain ⟨x, _, rfl⟩ := List.mem_map.mp hd
  rfl
theorem nin_ws (ws : List (List Nat)) (a : List Nat) : ninA (.str a) (.lst (wsD ws)) = .ok (.bl (!decide (a ∈ ws))) := by
  show (if flatD (.str a) = true ∧ (wsD ws).all flatD = true then Res.ok (D.bl (!((wsD ws).any fun y => eqFD y (.str a)))) else .stuck) = _
  rw [if_pos ⟨rfl, wsD_flat ws⟩]
  congr 3
  unfold wsD
  rw [List.any_map, Bool.eq_iff_iff, List.any_eq_true, decide_eq_true_eq]
  constructor
  · rintro ⟨x, hx, e⟩
    have : (x == a) = true := e
    rw [← beq_iff_eq.mp this]; exact hx
  · intro h
    exact ⟨a, h, by show (a == a) = true; exact beq_self_eq_true a⟩
theorem idx_ws {ws : List (List Nat)} {a : List Nat} {i : Nat} (h : ws.findIdx? (fun w => w == a) = some i) : idxD (wsD ws) (.str a) = .ok (.int (i : Int)) := by
  unfold idxD
  rw [if_pos ⟨rfl, wsD_flat ws⟩]
  have e : (wsD ws).findIdx? (fun z => eqFD z (.str a)) = some i := by
    unfold wsD
    rw [List.findIdx?_map]
    exact h
  rw [e]
theorem ix_ws {ws : List (List Nat)} {i : Nat} {w : List Nat} (h : ws[i]? = some w) : ixD (.lst (wsD ws)) (.int (i : Int)) = .ok (.str w) := ix_nat (by unfold wsD; rw [List.getElem?_map, h]; rfl)
theorem ix_lt {lt : List Nat} (hl : lt.length ≤ line) {i : Nat} (h : i < lt.length) : ixD (.str lt) (.int (i : Int)) = .ok (.str [lt.getD i 0]) := by
  show (if lt.length ≤ line then (match atI lt (i : Int) with | some c => Res.ok (D.str [c]) | none => .stuck) else .stuck) = _
  rw [if_pos hl, at_nat (by omega) (by rw [Int.toNat_natCast]; exact h)]
  simp only [Int.toNat_natCast, List.getD_eq_getElem?_getD, List.getElem?_eq_getElem h, Option.getD_some]
theorem cut_two {α : Type} (l : List α) (a k : Nat) : cutL l (some (a : Int)) (some ((a + k : Nat) : Int)) = (l.drop a).take k := by
  unfold cutL
  rw [sIx_nat, sIx_nat]
  by_cases h : a ≤ l.length
  · rw [Nat.min_eq_left h]
    by_cases h2 : a + k ≤ l.length
    · rw [Nat.min_eq_left h2, show a + k - a = k by omega]
    · rw [Nat.min_eq_right (by omega), List.take_of_length_le (by rw [List.length_drop]; omega), List.take_of_length_le (by rw [List.length_drop]; omega)]
  · rw [Nat.min_eq_right (by omega), Nat.min_eq_right (by omega), List.drop_of_length_le (Nat.le_refl _), List.drop_of_length_le (by omega), List.take_nil, List.take_nil]
/-! ### decoded: one sign -/
theorem wh_dec (ws : List (List Nat)) (bits : List Nat) (hb : bits.length ≤ line) (at_ : Nat) (v0 v1 v2 v5 v7 v9 : Slot) : ∀ (n k : Nat), at_ + k ≤ bits.length → (∀ k' < k, (bits.drop at_).take k' ∉ ws) → bits.length - (at_ + k) < n →
    ∃ K, k ≤ K ∧ at_ + K ≤ bits.length ∧ (∀ k' < K, (bits.drop at_).take k' ∉ ws) ∧ (at_ + K = bits.length ∨ (bits.drop at_).take K ∈ ws) ∧
      whS (andT (tst (bin ltD (vr 8) (app lenD (consA (vr 3) (nilA))))) (tst (bin ninA (slc (vr 3) (part (vr 6)) (part (vr 8))) (vr 4)))) (asg 8 (bin addD (vr 8) (cst (.int 1)))) n
        [v0, v1, v2, .val (.str bits), .val (.lst (wsD ws)), v5, .val (.int (at_ : Int)), v7, .val (.int ((at_ + k : Nat) : Int)), v9] = .nx [v0, v1, v2, .val (.str bits), .val (.lst (wsD ws)), v5, .val (.int (at_ : Int)), v7, .val (.int ((at_ + K : Nat) : Int)), v9]
  | 0, k, _, _, h => absurd h (Nat.not_lt_zero _)
  | n + 1, k, h1, h2, h3 => by
    have sl : slD (.str bits) (some (at_ : Int)) (some ((at_ + k : Nat) : Int)) = .ok (.str ((bits.drop at_).take k)) := by
      show (if bits.length ≤ line then Res.ok (D.str (cutL bits (some (at_ : Int)) (some ((at_ + k : Nat) : Int)))) else .stuck) = _
      rw [if_pos hb, cut_two]
    by_cases hlt : at_ + k < bits.length
    · by_cases hm : (bits.drop at_).take k ∈ ws
      · refine ⟨k, Nat.le_refl _, h1, h2, .inr hm, wh_end ?_⟩
        simp only [seqS_eq, seq_nx, seq_rt, seq_rs, asg_eq, asgN_eq, drp_eq, retS_eq, retN_eq, rais_eq, ifS_eq, forF_eq, itS_eq, rngA_eq, vr_eq, cst_eq, bin_eq, un_eq, consA_eq, nilA_eq, app_eq, tst_eq, asB_bl, andT_eq, orT_eq, notT_eq, notD_bl, ifE_eq, newA_eq, lstE_eq, noP_eq, part_eq, asP_int, slc_eq, binS_eq, yes_eq, List.getElem?_cons_succ, List.getElem?_cons_zero, List.set, bind_ok, bind_rs, out_ok, out_rs, fin_rt, fin_rs, fin_nx, if_true, Bool.false_eq_true, if_false, Bool.not_true, Bool.not_false, decide_true, decide_false, nopS_eq, addD_int, subD_int, negD_int, ltD_int, leD_int, gtD_int, geD_int, eqD_int, neD_int, eqD_str, neD_str, lenD_lst, lenD_tup, lenD_scr, max2D_int, min2D_int, asSeq_lst, asSeq_tup, asSeq_str, binN_eq, frzS_eq, appS_eq, ixO_eq, stoS_eq, lenO_eq, asgU_eq, tgU_tup, tgU_lst, tgP_tup, asg2_eq, chn_eq, lnk_bl, isID_int, isID_bl, isID_non, isBD_int, isBD_bl, isBD_non, isPD_tup, isLD_lst, isLD_str, enumD_lst, zipD_lst, List.map_cons, List.map_nil, List.replicate_succ, List.replicate_zero, List.cons_append, List.nil_append, lenD_str hb, sl, nin_ws, decide_eq_true hm, decide_eq_true (show ((at_ + k : Nat) : Int) < (bits.length : Int) by omega)]
      · obtain ⟨K, a1, a2, a3, a4, e⟩ := wh_dec ws bits hb at_ v0 v1 v2 v5 v7 v9 n (k + 1) (by omega) (fun k' hk' => by
          rcases Nat.lt_succ_iff_lt_or_eq.mp hk' with q | q
          · exact h2 k' q
          · rw [q]; exact hm) (by omega)
        refine ⟨K, by omega, a2, a3, a4, ?_⟩
        rw [wh_step (δ' := [v0, v1, v2, .val (.str bits), .val (.lst (wsD ws)), v5, .val (.int (at_ : Int)), v7, .val (.int ((at_ + (k + 1) : Nat) : Int)), v9]) (by
          simp only [seqS_eq, seq_nx, seq_rt, seq_rs, asg_eq, asgN_eq, drp_eq, retS_eq, retN_eq, rais_eq, ifS_eq, forF_eq, itS_eq, rngA_eq, vr_eq, cst_eq, bin_eq, un_eq, consA_eq, nilA_eq, app_eq, tst_eq, asB_bl, andT_eq, orT_eq, notT_eq, notD_bl, ifE_eq, newA_eq, lstE_eq, noP_eq, part_eq, asP_int, slc_eq, binS_eq, yes_eq, List.getElem?_cons_succ, List.getElem?_cons_zero, List.set, bind_ok, bind_rs, out_ok, out_rs, fin_rt, fin_rs, fin_nx, if_true, Bool.false_eq_true, if_false, Bool.not_true, Bool.not_false, decide_true, decide_false, nopS_eq, addD_int, subD_int, negD_int, ltD_int, leD_int, gtD_int, geD_int, eqD_int, neD_int, eqD_str, neD_str, lenD_lst, lenD_tup, lenD_scr, max2D_int, min2D_int, asSeq_lst, asSeq_tup, asSeq_str, binN_eq, frzS_eq, appS_eq, ixO_eq, stoS_eq, lenO_eq, asgU_eq, tgU_tup, tgU_lst, tgP_tup, asg2_eq, chn_eq, lnk_bl, isID_int, isID_bl, isID_non, isBD_int, isBD_bl, isBD_non, isPD_tup, isLD_lst, isLD_str, enumD_lst, zipD_lst, List.map_cons, List.map_nil, List.replicate_succ, List.replicate_zero, List.cons_append, List.nil_append, lenD_str hb, sl, nin_ws, decide_eq_false hm, decide_eq_true (show ((at_ + k : Nat) : Int) < (bits.length : Int) by omega)]) (by
          simp only [seqS_eq, seq_nx, seq_rt, seq_rs, asg_eq, asgN_eq, drp_eq, retS_eq, retN_eq, rais_eq, ifS_eq, forF_eq, itS_eq, rngA_eq, vr_eq, cst_eq, bin_eq, un_eq, consA_eq, nilA_eq, app_eq, tst_eq, asB_bl, andT_eq, orT_eq, notT_eq, notD_bl, ifE_eq, newA_eq, lstE_eq, noP_eq, part_eq, asP_int, slc_eq, binS_eq, yes_eq, List.getElem?_cons_succ, List.getElem?_cons_zero, List.set, bind_ok, bind_rs, out_ok, out_rs, fin_rt, fin_rs, fin_nx, if_true, Bool.false_eq_true, if_false, Bool.not_true, Bool.not_false, decide_true, decide_false, nopS_eq, addD_int, subD_int, negD_int, ltD_int, leD_int, gtD_int, geD_int, eqD_int, neD_int, eqD_str, neD_str, lenD_lst, lenD_tup, lenD_scr, max2D_int, min2D_int, asSeq_lst, asSeq_tup, asSeq_str, binN_eq, frzS_eq, appS_eq, ixO_eq, stoS_eq, lenO_eq, asgU_eq, tgU_tup, tgU_lst, tgP_tup, asg2_eq, chn_eq, lnk_bl, isID_int, isID_bl, isID_non, isBD_int, isBD_bl, isBD_non, isPD_tup, isLD_lst, isLD_str, enumD_lst, zipD_lst, List.map_cons, List.map_nil, List.replicate_succ, List.replicate_zero, List.cons_append, List.nil_append]
          rw [show ((at_ + k : Nat) : Int) + 1 = ((at_ + (k + 1) : Nat) : Int) by omega]), e]
    · refine ⟨k, Nat.le_refl _, h1, h2, .inl (by omega), wh_end ?_⟩
      simp only [seqS_eq, seq_nx, seq_rt, seq_rs, asg_eq, asgN_eq, drp_eq, retS_eq, retN_eq, rais_eq, ifS_eq, forF_eq, itS_eq, rngA_eq, vr_eq, cst_eq, bin_eq, un_eq, consA_eq, nilA_eq, app_eq, tst_eq, asB_bl, andT_eq, orT_eq, notT_eq, notD_bl, ifE_eq, newA_eq, lstE_eq, noP_eq, part_eq, asP_int, slc_eq, binS_eq, yes_eq, List.getElem?_cons_succ, List.getElem?_cons_zero, List.set, bind_ok, bind_rs, out_ok, out_rs, fin_rt, fin_rs, fin_nx, if_true, Bool.false_eq_true, if_false, Bool.not_true, Bool.not_false, decide_true, decide_false, nopS_eq, addD_int, subD_int, negD_int, ltD_int, leD_int, gtD_int, geD_int, eqD_int, neD_int, eqD_str, neD_str, lenD_lst, lenD_tup, lenD_scr, max2D_int, min2D_int, asSeq_lst, asSeq_tup, asSeq_str, binN_eq, frzS_eq, appS_eq, ixO_eq, stoS_eq, lenO_eq, asgU_eq, tgU_tup, tgU_lst, tgP_tup, asg2_eq, chn_eq, lnk_bl, isID_int, isID_bl, isID_non, isBD_int, isBD_bl, isBD_non, isPD_tup, isLD_lst, isLD_str, enumD_lst, zipD_lst, List.map_cons, List.map_nil, List.replicate_succ, List.replicate_zero, List.cons_append, List.nil_append, lenD_str hb, decide_eq_false (show ¬ ((at_ + k : Nat) : Int) < (bits.length : Int) by omega)]
theorem dec_one (ws : List (List Nat)) (pf : PF ws) (lt : List Nat) (hwl : ws.length = lt.length) (hlt : lt.length ≤ line) (bits : List Nat) (hb : bits.length ≤ 100000) (at_ : Nat) (hat : at_ ≤ bits.length) (acc : List Nat) (hacc : acc.length ≤ 1000) (v1 v2 v7 s8 v9 : Slot) :
    (lp_decoded_1 [.val (.str lt), v1, v2, .val (.str bits), .val (.lst (wsD ws)), .val (.str acc), .val (.int (at_ : Int)), v7, s8, v9] = .rs "BadBits" ∧ ws.findIdx? (fun w => w.isPrefixOf (bits.drop at_)) = none) ∨
    ∃ (i : Nat) (w : List Nat) (s8' : Slot), ws.findIdx? (fun w => w.isPrefixOf (bits.drop at_)) = some i ∧ ws[i]? = some w ∧ at_ + w.length ≤ bits.length ∧ lp_decoded_1 [.val (.str lt), v1, v2, .val (.str bits), .val (.lst (wsD ws)), .val (.str acc), .val (.int (at_ : Int)), v7, s8, v9] = .nx [.val (.str lt), v1, v2, .val (.str bits), .val (.lst (wsD ws)), .val (.str (acc ++ [lt.getD i 0])), .val (.int ((at_ + w.length : Nat) : Int)), v7, s8', v9] := by
  have hb' : bits.length ≤ line := by simp only [line]; omega
  obtain ⟨K, _, a2, a3, a4, e⟩ := wh_dec ws bits hb' at_ (.val (.str lt)) v1 v2 (.val (.str acc)) v7 v9 2000000 0 (by omega) (fun k' h => absurd h (Nat.not_lt_zero _)) (by omega)
  have sl : slD (.str bits) (some (at_ : Int)) (some ((at_ + K : Nat) : Int)) = .ok (.str ((bits.drop at_).take K)) := by
    show (if bits.length ≤ line then Res.ok (D.str (cutL bits (some (at_ : Int)) (some ((at_ + K : Nat) : Int)))) else .stuck) = _
    rw [if_pos hb', cut_two]
  have go : ∀ o, seqS (ifS (tst (bin ninA (slc (vr 3) (part (vr 6)) (part (vr 8))) (vr 4))) (rais "BadBits") (nopS)) (seqS (asg 5 (bin addD (vr 5) (bin ixD (vr 0) (idxE (vr 4) (slc (vr 3) (part (vr 6)) (part (vr 8))))))) (asg 6 (vr 8))) [.val (.str lt), v1, v2, .val (.str bits), .val (.lst (wsD ws)), .val (.str acc), .val (.int (at_ : Int)), v7, .val (.int ((at_ + K : Nat) : Int)), v9] = o →
      lp_decoded_1 [.val (.str lt), v1, v2, .val (.str bits), .val (.lst (wsD ws)), .val (.str acc), .val (.int (at_ : Int)), v7, s8, v9] = o := fun o ho => by
    unfold lp_decoded_1
    rw [seq_to (δ' := [.val (.str lt), v1, v2, .val (.str bits), .val (.lst (wsD ws)), .val (.str acc), .val (.int (at_ : Int)), v7, .val (.int ((at_ + 0 : Nat) : Int)), v9]) (by simp only [seqS_eq, seq_nx, seq_rt, seq_rs, asg_eq, asgN_eq, drp_eq, retS_eq, retN_eq, rais_eq, ifS_eq, forF_eq, itS_eq, rngA_eq, vr_eq, cst_eq, bin_eq, un_eq, consA_eq, nilA_eq, app_eq, tst_eq, asB_bl, andT_eq, orT_eq, notT_eq, notD_bl, ifE_eq, newA_eq, lstE_eq, noP_eq, part_eq, asP_int, slc_eq, binS_eq, yes_eq, List.getElem?_cons_succ, List.getElem?_cons_zero, List.set, bind_ok, bind_rs, out_ok, out_rs, fin_rt, fin_rs, fin_nx, if_true, Bool.false_eq_true, if_false, Bool.not_true, Bool.not_false, decide_true, decide_false, nopS_eq, addD_int, subD_int, negD_int, ltD_int, leD_int, gtD_int, geD_int, eqD_int, neD_int, eqD_str, neD_str, lenD_lst, lenD_tup, lenD_scr, max2D_int, min2D_int, asSeq_lst, asSeq_tup, asSeq_str, binN_eq, frzS_eq, appS_eq, ixO_eq, stoS_eq, lenO_eq, asgU_eq, tgU_tup, tgU_lst, tgP_tup, asg2_eq, chn_eq, lnk_bl, isID_int, isID_bl, isID_non, isBD_int, isBD_bl, isBD_non, isPD_tup, isLD_lst, isLD_str, enumD_lst, zipD_lst, List.map_cons, List.map_nil, List.replicate_succ, List.replicate_zero, List.cons_append, List.nil_append, Nat.add_zero])]
    rw [seq_to e]
    exact ho
  by_cases hm : (bits.drop at_).take K ∈ ws
  · right
    have hpre : (bits.drop at_).take K <+: bits.drop at_ := List.take_prefix _ _
    obtain ⟨i, hi⟩ := List.mem_iff_getElem?.mp hm
    have fi := pf_find pf hi hpre
    have wl : ((bits.drop at_).take K).length = K := by rw [List.length_take, List.length_drop]; omega
    have fe : ws.findIdx? (fun w => w == (bits.drop at_).take K) = some i := by
      obtain ⟨hil, hie⟩ := List.getElem?_eq_some_iff.mp hi
      rw [List.findIdx?_eq_some_iff_getElem]
      refine ⟨hil, by rw [hie]; exact beq_self_eq_true _, fun j hj q => ?_⟩
      have q := beq_iff_eq.mp q
      have := pf j i _ _ (List.getElem?_eq_getElem (by omega)) hi (by rw [q]; exact List.prefix_refl _)
      omega
    have hil := (List.getElem?_eq_some_iff.mp hi).1
    refine ⟨i, (bits.drop at_).take K, .val (.int ((at_ + K : Nat) : Int)), fi, hi, by omega, go _ ?_⟩
    rw [seq_to (δ' := [.val (.str lt), v1, v2, .val (.str bits), .val (.lst (wsD ws)), .val (.str acc), .val (.int (at_ : Int)), v7, .val (.int ((at_ + K : Nat) : Int)), v9]) (by
      simp only [seqS_eq, seq_nx, seq_rt, seq_rs, asg_eq, asgN_eq, drp_eq, retS_eq, retN_eq, rais_eq, ifS_eq, forF_eq, itS_eq, rngA_eq, vr_eq, cst_eq, bin_eq, un_eq, consA_eq, nilA_eq, app_eq, tst_eq, asB_bl, andT_eq, orT_eq, notT_eq, notD_bl, ifE_eq, newA_eq, lstE_eq, noP_eq, part_eq, asP_int, slc_eq, binS_eq, yes_eq, List.getElem?_cons_succ, List.getElem?_cons_zero, List.set, bind_ok, bind_rs, out_ok, out_rs, fin_rt, fin_rs, fin_nx, if_true, Bool.false_eq_true, if_false, Bool.not_true, Bool.not_false, decide_true, decide_false, nopS_eq, addD_int, subD_int, negD_int, ltD_int, leD_int, gtD_int, geD_int, eqD_int, neD_int, eqD_str, neD_str, lenD_lst, lenD_tup, lenD_scr, max2D_int, min2D_int, asSeq_lst, asSeq_tup, asSeq_str, binN_eq, frzS_eq, appS_eq, ixO_eq, stoS_eq, lenO_eq, asgU_eq, tgU_tup, tgU_lst, tgP_tup, asg2_eq, chn_eq, lnk_bl, isID_int, isID_bl, isID_non, isBD_int, isBD_bl, isBD_non, isPD_tup, isLD_lst, isLD_str, enumD_lst, zipD_lst, List.map_cons, List.map_nil, List.replicate_succ, List.replicate_zero, List.cons_append, List.nil_append, sl, nin_ws, decide_eq_true hm])]
    have ad : addD (.str acc) (.str [lt.getD i 0]) = .ok (.str (acc ++ [lt.getD i 0])) := addD_str (by simp only [List.length_singleton, line]; omega)
    simp only [seqS_eq, seq_nx, seq_rt, seq_rs, asg_eq, asgN_eq, drp_eq, retS_eq, retN_eq, rais_eq, ifS_eq, forF_eq, itS_eq, rngA_eq, vr_eq, cst_eq, bin_eq, un_eq, consA_eq, nilA_eq, app_eq, tst_eq, asB_bl, andT_eq, orT_eq, notT_eq, notD_bl, ifE_eq, newA_eq, lstE_eq, noP_eq, part_eq, asP_int, slc_eq, binS_eq, yes_eq, List.getElem?_cons_succ, List.getElem?_cons_zero, List.set, bind_ok, bind_rs, out_ok, out_rs, fin_rt, fin_rs, fin_nx, if_true, Bool.false_eq_true, if_false, Bool.not_true, Bool.not_false, decide_true, decide_false, nopS_eq, addD_int, subD_int, negD_int, ltD_int, leD_int, gtD_int, geD_int, eqD_int, neD_int, eqD_str, neD_str, lenD_lst, lenD_tup, lenD_scr, max2D_int, min2D_int, asSeq_lst, asSeq_tup, asSeq_str, binN_eq, frzS_eq, appS_eq, ixO_eq, stoS_eq, lenO_eq, asgU_eq, tgU_tup, tgU_lst, tgP_tup, asg2_eq, chn_eq, lnk_bl, isID_int, isID_bl, isID_non, isBD_int, isBD_bl, isBD_non, isPD_tup, isLD_lst, isLD_str, enumD_lst, zipD_lst, List.map_cons, List.map_nil, List.replicate_succ, List.replicate_zero, List.cons_append, List.nil_append, idxE_eq, sl, idx_ws fe, ix_lt hlt (show i < lt.length by omega), ad, wl]
  · left
    refine ⟨go _ ?_, no_find fun k hk => ?_⟩
    · rw [seqS_eq]
      simp only [seqS_eq, seq_nx, seq_rt, seq_rs, asg_eq, asgN_eq, drp_eq, retS_eq, retN_eq, rais_eq, ifS_eq, forF_eq, itS_eq, rngA_eq, vr_eq, cst_eq, bin_eq, un_eq, consA_eq, nilA_eq, app_eq, tst_eq, asB_bl, andT_eq, orT_eq, notT_eq, notD_bl, ifE_eq, newA_eq, lstE_eq, noP_eq, part_eq, asP_int, slc_eq, binS_eq, yes_eq, List.getElem?_cons_succ, List.getElem?_cons_zero, List.set, bind_ok, bind_rs, out_ok, out_rs, fin_rt, fin_rs, fin_nx, if_true, Bool.false_eq_true, if_false, Bool.not_true, Bool.not_false, decide_true, decide_false, nopS_eq, addD_int, subD_int, negD_int, ltD_int, leD_int, gtD_int, geD_int, eqD_int, neD_int, eqD_str, neD_str, lenD_lst, lenD_tup, lenD_scr, max2D_int, min2D_int, asSeq_lst, asSeq_tup, asSeq_str, binN_eq, frzS_eq, appS_eq, ixO_eq, stoS_eq, lenO_eq, asgU_eq, tgU_tup, tgU_lst, tgP_tup, asg2_eq, chn_eq, lnk_bl, isID_int, isID_bl, isID_non, isBD_int, isBD_bl, isBD_non, isPD_tup, isLD_lst, isLD_str, enumD_lst, zipD_lst, List.map_cons, List.map_nil, List.replicate_succ, List.replicate_zero, List.cons_append, List.nil_append, sl, nin_ws, decide_eq_false hm]
    · have : at_ + K = bits.length := a4.resolve_right hm
      rw [List.length_drop] at hk
      rcases Nat.lt_or_ge k K with q | q
      · exact a3 k q
      · have : k = K := by omega
        rw [this]; exact hm
theorem dec_for (ws : List (List Nat)) (pf : PF ws) (lt : List Nat) (hwl : ws.length = lt.length) (hlt : lt.length ≤ line) (bits : List Nat) (hb : bits.length ≤ 100000) (v1 v2 v9 : Slot) : ∀ (xs : List D) (at_ : Nat) (acc : List Nat) (s7 s8 : Slot), at_ ≤ bits.length → acc.length + xs.length ≤ 1000 →
    (forS (tgN 7) lp_decoded_1 xs [.val (.str lt), v1, v2, .val (.str bits), .val (.lst (wsD ws)), .val (.str acc), .val (.int (at_ : Int)), s7, s8, v9] = .rs "BadBits" ∧ rd ws lt xs.length (bits.drop at_) = none) ∨
    ∃ (at' : Nat) (t : List Nat) (s7' s8' : Slot), at' ≤ bits.length ∧ rd ws lt xs.length (bits.drop at_) = (if bits.drop at' = [] then some t else none) ∧ forS (tgN 7) lp_decoded_1 xs [.val (.str lt), v1, v2, .val (.str bits), .val (.lst (wsD ws)), .val (.str acc), .val (.int (at_ : Int)), s7, s8, v9] = .nx [.val (.str lt), v1, v2, .val (.str bits), .val (.lst (wsD ws)), .val (.str (acc ++ t)), .val (.int (at' : Int)), s7', s8', v9]
  | [], at_, acc, s7, s8, h1, h2 => .inr ⟨at_, [], s7, s8, h1, rfl, by rw [List.append_nil]; rfl⟩
  | x :: xs, at_, acc, s7, s8, h1, h2 => by
    rw [List.length_cons] at h2 ⊢
    rcases dec_one ws pf lt hwl hlt bits hb at_ h1 acc (by omega) v1 v2 (.val x) s8 v9 with ⟨e, fn⟩ | ⟨i, w, s8', fs, hw, hl, e⟩
    · exact .inl ⟨for_rs rfl e, rd_none fn⟩
    · have hg : ws.getD i [] = w := by rw [List.getD_eq_getElem?_getD, hw]; rfl
      rw [rd_some fs, hg, List.drop_drop]
      rcases dec_for ws pf lt hwl hlt bits hb v1 v2 v9 xs (at_ + w.length) (acc ++ [lt.getD i 0]) (.val x) s8' hl (by rw [List.length_append, List.length_singleton]; omega) with ⟨e2, r2⟩ | ⟨at', t, u7, u8, g1, g2, e2⟩
      · exact .inl ⟨by rw [for_step rfl e, e2], by rw [r2]; rfl⟩
      · refine .inr ⟨at', lt.getD i 0 :: t, u7, u8, g1, ?_, by rw [for_step rfl e, e2, List.append_assoc]; rfl⟩
        rw [g2]
        by_cases q : bits.drop at' = []
        · rw [if_pos q, if_pos q]; rfl
        · rw [if_neg q, if_neg q]; rfl
end Lw


set_option Elab.async false
set_option linter.all false
set_option maxRecDepth 100000
set_option maxHeartbeats 4000000
namespace Lw
open PySem PySem.Spec L2 Dn
theorem need_bits_is (l : List Nat) (hl : l.length ≤ line) : d_need_bits [.str l] = if ∀ c ∈ l, isBit c then .ok .non else .rs "BadBits" := by
  rw [d_need_bits, run_eq (by rfl)]; unfold b_need_bits
  have e := lcN_map (δ := [.val (.str l), .no]) (vs := [1]) (j := 1) (fe := bin inA (vr 1) (cst (.str [48, 49]))) (fi := itS (vr 0)) (xs := l.map fun c => .str [c]) (f := fun d => match d with | .str [c] => .bl (decide (isBit c)) | _ => .non) (by simp) (by simpa using hl) fun x hx => by
    obtain ⟨c, _, rfl⟩ := List.mem_map.mp hx
    simp only [wipeS, List.set, bin_eq, vr_eq, List.getElem?_cons_succ, List.getElem?_cons_zero, cst_eq, bind_ok]
    show Res.ok (D.bl (decide (c ∈ [48, 49]))) = Res.ok (D.bl (decide (isBit c)))
    rw [decide_eq_decide.mpr (show c ∈ [48, 49] ↔ isBit c by simp [isBit])]
  have e2 : allD [.lst ((l.map fun c => D.str [c]).map fun d => match d with | .str [c] => .bl (decide (isBit c)) | _ => .non)] = .ok (.bl (l.all fun c => decide (isBit c))) := by
    rw [List.map_map]
    show (match boolsO (l.map ((fun d => match d with | D.str [c] => D.bl (decide (isBit c)) | _ => .non) ∘ fun c => D.str [c])) with | some ns => Res.ok (D.bl (ns.all id)) | _ => .stuck) = _
    have : (l.map ((fun d => match d with | D.str [c] => D.bl (decide (isBit c)) | _ => .non) ∘ fun c => D.str [c])) = (l.map fun c => decide (isBit c)).map D.bl := by rw [List.map_map]; rfl
    rw [this, bools_map]
    simp
  simp only [List.map_cons, List.map_nil, List.replicate, List.cons_append, List.nil_append, ifS_eq, notT_eq, tst_eq, app_eq, consA_eq, nilA_eq, lstE_eq, e, bind_ok, e2, asB_bl, out_ok, rais_eq, nopS_eq]
  by_cases h : ∀ c ∈ l, isBit c
  · have : (l.all fun c => decide (isBit c)) = true := List.all_eq_true.mpr fun c hc => decide_eq_true (h c hc)
    rw [if_pos h, this]; rfl
  · have : (l.all fun c => decide (isBit c)) = false := by
      rw [← Bool.not_eq_true]
      intro q
      exact h fun c hc => of_decide_eq_true (List.all_eq_true.mp q c hc)
    rw [if_neg h, this]; rfl
/-! ### pack -/
/-! ### lists of signs, equal or not -/
theorem eqv_sgs : ∀ a b : List Nat, PyData.eqvAll (toPys (sgs a)) (toPys (sgs b)) = decide (a = b)
  | [], [] => by show PyData.eqvAll (toPys []) (toPys []) = _; rw [toPys, PyData.eqvAll]; rfl
  | [], y :: b => by show PyData.eqvAll (toPys []) (toPys (.str [y] :: sgs b)) = _; rw [toPys, toPys, PyData.eqvAll]; rfl
  | x :: a, [] => by show PyData.eqvAll (toPys (.str [x] :: sgs a)) (toPys []) = _; rw [toPys, toPys, PyData.eqvAll]; rfl
  | x :: a, y :: b => by
    show PyData.eqvAll (toPys (.str [x] :: sgs a)) (toPys (.str [y] :: sgs b)) = _
    rw [toPys, toPys, PyData.eqvAll, eqv_sgs a b, toPy, toPy, PyData.eqv]
    by_cases h : x = y
    · subst h
      simp
    · have : ¬ (Str.mk [x].toArray) = (Str.mk [y].toArray) := fun q => by
        have := congrArg (fun s : Str => s.cps) q
        simp at this
        exact h this
      simp [h]
theorem pl_sgs {a : List Nat} (h : ∀ c ∈ a, c < 1114112) : pl (.lst (sgs a)) = true := by
  have e : sgs a = (a.map fun c => [c]).map D.str := by unfold sgs; rw [List.map_map]; rfl
  rw [e]
  refine pl_texts fun t ht c hc => ?_
  obtain ⟨x, hx, rfl⟩ := List.mem_map.mp ht
  rw [List.mem_singleton.mp hc]; exact h x hx
theorem ne_sgs (a b : List Nat) (ha : ∀ c ∈ a, c < 1114112) (hb : ∀ c ∈ b, c < 1114112) : neD (.lst (sgs a)) (.lst (sgs b)) = .ok (.bl (!decide (a = b))) := by
  unfold neD eqD
  show (Res.bind (if (pl (.lst (sgs a)) && pl (.lst (sgs b))) = true then (Res.ok (D.bl (PyData.eqv (toPy (.lst (sgs a))) (toPy (.lst (sgs b)))))) else .stuck) notD) = _
  rw [pl_sgs ha, pl_sgs hb]
  show Res.bind (Res.ok (D.bl (PyData.eqv (toPy (.lst (sgs a))) (toPy (.lst (sgs b)))))) notD = _
  rw [toPy, toPy, PyData.eqv, eqv_sgs]
  rfl
theorem lt_unique : ∀ {a b : List Nat}, a.Pairwise (· < ·) → b.Pairwise (· < ·) → (∀ x, x ∈ a ↔ x ∈ b) → a = b
  | [], [], _, _, _ => rfl
  | [], y :: b, _, _, h => absurd ((h y).mpr List.mem_cons_self) (by simp)
  | x :: a, [], _, _, h => absurd ((h x).mp List.mem_cons_self) (by simp)
  | x :: a, y :: b, ha, hb, h => by
    obtain ⟨a1, a2⟩ := List.pairwise_cons.mp ha
    obtain ⟨b1, b2⟩ := List.pairwise_cons.mp hb
    have e : x = y := by
      rcases List.mem_cons.mp ((h x).mp List.mem_cons_self) with e | e
      · exact e
      · rcases List.mem_cons.mp ((h y).mpr List.mem_cons_self) with e' | e'
        · exact e'.symm
        · have := b1 x e; have := a1 y e'; omega
    subst e
    congr 1
    refine lt_unique a2 b2 fun z => ?_
    constructor
    · intro hz
      rcases List.mem_cons.mp ((h z).mp (List.mem_cons_of_mem _ hz)) with e | e
      · have := a1 z hz; omega
      · exact e
    · intro hz
      rcases List.mem_cons.mp ((h z).mpr (List.mem_cons_of_mem _ hz)) with e | e
      · have := b1 z hz; omega
      · exact e
theorem nodup_len : ∀ {l m : List Nat}, l.Nodup → (∀ x ∈ l, x ∈ m) → l.length ≤ m.length
  | [], m, _, _ => Nat.zero_le _
  | x :: l, m, hn, hs => by
    obtain ⟨h1, h2⟩ := List.nodup_cons.mp hn
    have hx := hs x List.mem_cons_self
    have := nodup_len (l := l) (m := m.erase x) h2 fun y hy => (List.mem_erase_of_ne (fun e : y = x => h1 (e ▸ hy))).mpr (hs y (List.mem_cons_of_mem _ hy))
    rw [List.length_erase_of_mem hx] at this
    have := List.length_pos_of_mem hx
    rw [List.length_cons]
    omega
theorem ltrs_lt (t : List Nat) : (ltrs t).Pairwise (· < ·) := (List.pairwise_and_iff.mpr ⟨ltrs_le t, ltrs_nodup t⟩).imp fun {a b} h => Nat.lt_of_le_of_ne h.1 h.2
theorem ix_get (t : List Nat) {c : Nat} (h : c ∈ t) : (ltrs t)[(ltrs t).idxOf c]? = some c := by
  rw [List.getElem?_eq_getElem (List.idxOf_lt_length_iff.mpr (ltrs_mem.mpr h)), List.getElem_idxOf]
end Lw


set_option Elab.async false
set_option linter.all false
set_option maxRecDepth 100000
set_option maxHeartbeats 4000000
namespace Lw
open PySem PySem.Spec L2 Dn
/-! ### decoded -/
def bb : List Nat := [66, 97, 100, 66, 105, 116, 115]
theorem sgn_lt {c : Nat} (h : sgn c = true) : c < 1114112 := by
  unfold sgn at h
  simp only [Bool.and_eq_true, decide_eq_true_eq] at h
  omega
/-- what the letters are asked -/
theorem dec_letters (lt : List Nat) (hl : lt.length ≤ 600) (h64 : (ltrs lt).length < 64) (v1 v2 v3 : Slot) :
    ifS (orT (notT (tst (app allD (consA (lstE (lcF (itS (vr 0)) (tgN 9) [9] (yes) (app d_is_sign (consA (vr 9) (nilA))))) (nilA))))) (tst (bin neD (app listA (consA (vr 0) (nilA))) (app srtSD (consA (vr 0) (nilA)))))) (rais "BadText") (nopS) [.val (.str lt), v1, v2, v3, .no, .no, .no, .no, .no, .no] =
      if lt.all sgn = true ∧ lt = ltrs lt then .nx [.val (.str lt), v1, v2, v3, .no, .no, .no, .no, .no, .no] else .rs "BadText" := by
  have hl' : lt.length ≤ line := by simp only [line]; omega
  have lc := lcN_map (δ := [.val (.str lt), v1, v2, v3, .no, .no, .no, .no, .no, .no]) (vs := [9]) (j := 9) (fe := app d_is_sign (consA (vr 9) (nilA))) (fi := itS (vr 0)) (xs := lt.map fun c => .str [c]) (f := fun d => match d with | .str [c] => .bl (sgn c) | d => d) (by simp only [seqS_eq, seq_nx, seq_rt, seq_rs, asg_eq, asgN_eq, drp_eq, retS_eq, retN_eq, rais_eq, ifS_eq, forF_eq, itS_eq, rngA_eq, vr_eq, cst_eq, bin_eq, un_eq, consA_eq, nilA_eq, app_eq, tst_eq, asB_bl, andT_eq, orT_eq, notT_eq, notD_bl, ifE_eq, newA_eq, lstE_eq, noP_eq, part_eq, asP_int, slc_eq, binS_eq, yes_eq, List.getElem?_cons_succ, List.getElem?_cons_zero, List.set, bind_ok, bind_rs, out_ok, out_rs, fin_rt, fin_rs, fin_nx, if_true, Bool.false_eq_true, if_false, Bool.not_true, Bool.not_false, decide_true, decide_false, nopS_eq, addD_int, subD_int, negD_int, ltD_int, leD_int, gtD_int, geD_int, eqD_int, neD_int, eqD_str, neD_str, lenD_lst, lenD_tup, lenD_scr, max2D_int, min2D_int, asSeq_lst, asSeq_tup, asSeq_str, binN_eq, frzS_eq, appS_eq, ixO_eq, stoS_eq, lenO_eq, asgU_eq, tgU_tup, tgU_lst, tgP_tup, asg2_eq, chn_eq, lnk_bl, isID_int, isID_bl, isID_non, isBD_int, isBD_bl, isBD_non, isPD_tup, isLD_lst, isLD_str, enumD_lst, zipD_lst, List.map_cons, List.map_nil, List.replicate_succ, List.replicate_zero, List.cons_append, List.nil_append]) (by rw [List.length_map]; exact hl') (fun x hx => by
    obtain ⟨c, _, rfl⟩ := List.mem_map.mp hx
    simp only [seqS_eq, seq_nx, seq_rt, seq_rs, asg_eq, asgN_eq, drp_eq, retS_eq, retN_eq, rais_eq, ifS_eq, forF_eq, itS_eq, rngA_eq, vr_eq, cst_eq, bin_eq, un_eq, consA_eq, nilA_eq, app_eq, tst_eq, asB_bl, andT_eq, orT_eq, notT_eq, notD_bl, ifE_eq, newA_eq, lstE_eq, noP_eq, part_eq, asP_int, slc_eq, binS_eq, yes_eq, List.getElem?_cons_succ, List.getElem?_cons_zero, List.set, bind_ok, bind_rs, out_ok, out_rs, fin_rt, fin_rs, fin_nx, if_true, Bool.false_eq_true, if_false, Bool.not_true, Bool.not_false, decide_true, decide_false, nopS_eq, addD_int, subD_int, negD_int, ltD_int, leD_int, gtD_int, geD_int, eqD_int, neD_int, eqD_str, neD_str, lenD_lst, lenD_tup, lenD_scr, max2D_int, min2D_int, asSeq_lst, asSeq_tup, asSeq_str, binN_eq, frzS_eq, appS_eq, ixO_eq, stoS_eq, lenO_eq, asgU_eq, tgU_tup, tgU_lst, tgP_tup, asg2_eq, chn_eq, lnk_bl, isID_int, isID_bl, isID_non, isBD_int, isBD_bl, isBD_non, isPD_tup, isLD_lst, isLD_str, enumD_lst, zipD_lst, List.map_cons, List.map_nil, List.replicate_succ, List.replicate_zero, List.cons_append, List.nil_append, wipeS, is_sign_is [c] (by show 1 ≤ line; decide), isSg])
  have e2 : (lt.map fun c => D.str [c]).map (fun d => match d with | .str [c] => D.bl (sgn c) | d => d) = lt.map fun c => D.bl (sgn c) := by rw [List.map_map]; rfl
  rw [e2] at lc
  have al := all_map sgn lt
  have li : listA [.str lt] = .ok (.lst (sgs lt)) := if_pos hl'
  have es : srtSD [.str lt] = .ok (.lst (sgs (ltrs lt))) := if_pos ⟨by omega, h64⟩
  by_cases h1 : lt.all sgn = true
  · have hb : ∀ c ∈ lt, c < 1114112 := fun c hc => sgn_lt (List.all_eq_true.mp h1 c hc)
    have ne := ne_sgs lt (ltrs lt) hb (fun c hc => hb c (ltrs_mem.mp hc))
    by_cases h2 : lt = ltrs lt
    · rw [if_pos ⟨h1, h2⟩]
      rw [decide_eq_true h2] at ne
      simp only [seqS_eq, seq_nx, seq_rt, seq_rs, asg_eq, asgN_eq, drp_eq, retS_eq, retN_eq, rais_eq, ifS_eq, forF_eq, itS_eq, rngA_eq, vr_eq, cst_eq, bin_eq, un_eq, consA_eq, nilA_eq, app_eq, tst_eq, asB_bl, andT_eq, orT_eq, notT_eq, notD_bl, ifE_eq, newA_eq, lstE_eq, noP_eq, part_eq, asP_int, slc_eq, binS_eq, yes_eq, List.getElem?_cons_succ, List.getElem?_cons_zero, List.set, bind_ok, bind_rs, out_ok, out_rs, fin_rt, fin_rs, fin_nx, if_true, Bool.false_eq_true, if_false, Bool.not_true, Bool.not_false, decide_true, decide_false, nopS_eq, addD_int, subD_int, negD_int, ltD_int, leD_int, gtD_int, geD_int, eqD_int, neD_int, eqD_str, neD_str, lenD_lst, lenD_tup, lenD_scr, max2D_int, min2D_int, asSeq_lst, asSeq_tup, asSeq_str, binN_eq, frzS_eq, appS_eq, ixO_eq, stoS_eq, lenO_eq, asgU_eq, tgU_tup, tgU_lst, tgP_tup, asg2_eq, chn_eq, lnk_bl, isID_int, isID_bl, isID_non, isBD_int, isBD_bl, isBD_non, isPD_tup, isLD_lst, isLD_str, enumD_lst, zipD_lst, List.map_cons, List.map_nil, List.replicate_succ, List.replicate_zero, List.cons_append, List.nil_append, lc, al, h1, li, es, ne]
    · rw [if_neg (fun q => h2 q.2)]
      rw [decide_eq_false h2] at ne
      simp only [seqS_eq, seq_nx, seq_rt, seq_rs, asg_eq, asgN_eq, drp_eq, retS_eq, retN_eq, rais_eq, ifS_eq, forF_eq, itS_eq, rngA_eq, vr_eq, cst_eq, bin_eq, un_eq, consA_eq, nilA_eq, app_eq, tst_eq, asB_bl, andT_eq, orT_eq, notT_eq, notD_bl, ifE_eq, newA_eq, lstE_eq, noP_eq, part_eq, asP_int, slc_eq, binS_eq, yes_eq, List.getElem?_cons_succ, List.getElem?_cons_zero, List.set, bind_ok, bind_rs, out_ok, out_rs, fin_rt, fin_rs, fin_nx, if_true, Bool.false_eq_true, if_false, Bool.not_true, Bool.not_false, decide_true, decide_false, nopS_eq, addD_int, subD_int, negD_int, ltD_int, leD_int, gtD_int, geD_int, eqD_int, neD_int, eqD_str, neD_str, lenD_lst, lenD_tup, lenD_scr, max2D_int, min2D_int, asSeq_lst, asSeq_tup, asSeq_str, binN_eq, frzS_eq, appS_eq, ixO_eq, stoS_eq, lenO_eq, asgU_eq, tgU_tup, tgU_lst, tgP_tup, asg2_eq, chn_eq, lnk_bl, isID_int, isID_bl, isID_non, isBD_int, isBD_bl, isBD_non, isPD_tup, isLD_lst, isLD_str, enumD_lst, zipD_lst, List.map_cons, List.map_nil, List.replicate_succ, List.replicate_zero, List.cons_append, List.nil_append, lc, al, h1, li, es, ne]
  · rw [if_neg (fun q => h1 q.1)]
    have h1' : lt.all sgn = false := by rw [← Bool.not_eq_true]; exact h1
    simp only [seqS_eq, seq_nx, seq_rt, seq_rs, asg_eq, asgN_eq, drp_eq, retS_eq, retN_eq, rais_eq, ifS_eq, forF_eq, itS_eq, rngA_eq, vr_eq, cst_eq, bin_eq, un_eq, consA_eq, nilA_eq, app_eq, tst_eq, asB_bl, andT_eq, orT_eq, notT_eq, notD_bl, ifE_eq, newA_eq, lstE_eq, noP_eq, part_eq, asP_int, slc_eq, binS_eq, yes_eq, List.getElem?_cons_succ, List.getElem?_cons_zero, List.set, bind_ok, bind_rs, out_ok, out_rs, fin_rt, fin_rs, fin_nx, if_true, Bool.false_eq_true, if_false, Bool.not_true, Bool.not_false, decide_true, decide_false, nopS_eq, addD_int, subD_int, negD_int, ltD_int, leD_int, gtD_int, geD_int, eqD_int, neD_int, eqD_str, neD_str, lenD_lst, lenD_tup, lenD_scr, max2D_int, min2D_int, asSeq_lst, asSeq_tup, asSeq_str, binN_eq, frzS_eq, appS_eq, ixO_eq, stoS_eq, lenO_eq, asgU_eq, tgU_tup, tgU_lst, tgP_tup, asg2_eq, chn_eq, lnk_bl, isID_int, isID_bl, isID_non, isBD_int, isBD_bl, isBD_non, isPD_tup, isLD_lst, isLD_str, enumD_lst, zipD_lst, List.map_cons, List.map_nil, List.replicate_succ, List.replicate_zero, List.cons_append, List.nil_append, lc, al, h1']
theorem decoded_badt (lt : List Nat) (hl : lt.length ≤ 600) (h64 : (ltrs lt).length < 64) (h : ¬ (lt.all sgn = true ∧ lt = ltrs lt)) (x y z : D) : d_decoded [.str lt, x, y, z] = .rs "BadText" := by
  rw [d_decoded, run_eq (by rfl)]; unfold b_decoded
  show (seqS _ _ [.val (.str lt), .val x, .val y, .val z, .no, .no, .no, .no, .no, .no]).fin = _
  rw [seqS_eq, dec_letters lt hl h64, if_neg h]
  rfl
theorem decoded_badc (lt : List Nat) (hl : lt.length ≤ 600) (h64 : (ltrs lt).length < 64) (h : lt.all sgn = true ∧ lt = ltrs lt) (xs : List D) (hx : xs.length ≠ lt.length ∨ d_words [.lst xs] = .rs "BadCode") (y z : D) : d_decoded [.str lt, .lst xs, y, z] = .rs "BadCode" := by
  have hl' : lt.length ≤ line := by simp only [line]; omega
  rw [d_decoded, run_eq (by rfl)]; unfold b_decoded
  show (seqS _ _ [.val (.str lt), .val (.lst xs), .val y, .val z, .no, .no, .no, .no, .no, .no]).fin = _
  rw [seqS_eq, dec_letters lt hl h64, if_pos h, seq_nx]
  by_cases he : xs.length = lt.length
  · have hw := hx.resolve_left (fun q => q he)
    rw [seq_to (δ' := [.val (.str lt), .val (.lst xs), .val y, .val z, .no, .no, .no, .no, .no, .no]) (by
      simp only [seqS_eq, seq_nx, seq_rt, seq_rs, asg_eq, asgN_eq, drp_eq, retS_eq, retN_eq, rais_eq, ifS_eq, forF_eq, itS_eq, rngA_eq, vr_eq, cst_eq, bin_eq, un_eq, consA_eq, nilA_eq, app_eq, tst_eq, asB_bl, andT_eq, orT_eq, notT_eq, notD_bl, ifE_eq, newA_eq, lstE_eq, noP_eq, part_eq, asP_int, slc_eq, binS_eq, yes_eq, List.getElem?_cons_succ, List.getElem?_cons_zero, List.set, bind_ok, bind_rs, out_ok, out_rs, fin_rt, fin_rs, fin_nx, if_true, Bool.false_eq_true, if_false, Bool.not_true, Bool.not_false, decide_true, decide_false, nopS_eq, addD_int, subD_int, negD_int, ltD_int, leD_int, gtD_int, geD_int, eqD_int, neD_int, eqD_str, neD_str, lenD_lst, lenD_tup, lenD_scr, max2D_int, min2D_int, asSeq_lst, asSeq_tup, asSeq_str, binN_eq, frzS_eq, appS_eq, ixO_eq, stoS_eq, lenO_eq, asgU_eq, tgU_tup, tgU_lst, tgP_tup, asg2_eq, chn_eq, lnk_bl, isID_int, isID_bl, isID_non, isBD_int, isBD_bl, isBD_non, isPD_tup, isLD_lst, isLD_str, enumD_lst, zipD_lst, List.map_cons, List.map_nil, List.replicate_succ, List.replicate_zero, List.cons_append, List.nil_append, lenD_str hl', decide_eq_true (show ((xs.length : Nat) : Int) = (lt.length : Int) by omega)]), seqS_eq]
    simp only [seqS_eq, seq_nx, seq_rt, seq_rs, asg_eq, asgN_eq, drp_eq, retS_eq, retN_eq, rais_eq, ifS_eq, forF_eq, itS_eq, rngA_eq, vr_eq, cst_eq, bin_eq, un_eq, consA_eq, nilA_eq, app_eq, tst_eq, asB_bl, andT_eq, orT_eq, notT_eq, notD_bl, ifE_eq, newA_eq, lstE_eq, noP_eq, part_eq, asP_int, slc_eq, binS_eq, yes_eq, List.getElem?_cons_succ, List.getElem?_cons_zero, List.set, bind_ok, bind_rs, out_ok, out_rs, fin_rt, fin_rs, fin_nx, if_true, Bool.false_eq_true, if_false, Bool.not_true, Bool.not_false, decide_true, decide_false, nopS_eq, addD_int, subD_int, negD_int, ltD_int, leD_int, gtD_int, geD_int, eqD_int, neD_int, eqD_str, neD_str, lenD_lst, lenD_tup, lenD_scr, max2D_int, min2D_int, asSeq_lst, asSeq_tup, asSeq_str, binN_eq, frzS_eq, appS_eq, ixO_eq, stoS_eq, lenO_eq, asgU_eq, tgU_tup, tgU_lst, tgP_tup, asg2_eq, chn_eq, lnk_bl, isID_int, isID_bl, isID_non, isBD_int, isBD_bl, isBD_non, isPD_tup, isLD_lst, isLD_str, enumD_lst, zipD_lst, List.map_cons, List.map_nil, List.replicate_succ, List.replicate_zero, List.cons_append, List.nil_append, hw]
  · rw [seqS_eq]
    simp only [seqS_eq, seq_nx, seq_rt, seq_rs, asg_eq, asgN_eq, drp_eq, retS_eq, retN_eq, rais_eq, ifS_eq, forF_eq, itS_eq, rngA_eq, vr_eq, cst_eq, bin_eq, un_eq, consA_eq, nilA_eq, app_eq, tst_eq, asB_bl, andT_eq, orT_eq, notT_eq, notD_bl, ifE_eq, newA_eq, lstE_eq, noP_eq, part_eq, asP_int, slc_eq, binS_eq, yes_eq, List.getElem?_cons_succ, List.getElem?_cons_zero, List.set, bind_ok, bind_rs, out_ok, out_rs, fin_rt, fin_rs, fin_nx, if_true, Bool.false_eq_true, if_false, Bool.not_true, Bool.not_false, decide_true, decide_false, nopS_eq, addD_int, subD_int, negD_int, ltD_int, leD_int, gtD_int, geD_int, eqD_int, neD_int, eqD_str, neD_str, lenD_lst, lenD_tup, lenD_scr, max2D_int, min2D_int, asSeq_lst, asSeq_tup, asSeq_str, binN_eq, frzS_eq, appS_eq, ixO_eq, stoS_eq, lenO_eq, asgU_eq, tgU_tup, tgU_lst, tgP_tup, asg2_eq, chn_eq, lnk_bl, isID_int, isID_bl, isID_non, isBD_int, isBD_bl, isBD_non, isPD_tup, isLD_lst, isLD_str, enumD_lst, zipD_lst, List.map_cons, List.map_nil, List.replicate_succ, List.replicate_zero, List.cons_append, List.nil_append, lenD_str hl', decide_eq_false (show ¬ ((xs.length : Nat) : Int) = (lt.length : Int) by omega)]
/-- letters and lengths that are a code -/
structure Code (lt fs : List Nat) : Prop where
  sg : lt.all sgn = true
  up : lt = ltrs lt
  few : lt.length < 64
  len : fs.length = lt.length
  ne : fs ≠ []
  le : ∀ n ∈ fs, n ≤ 94
  fl : fills fs
theorem Code.lts {lt fs : List Nat} (C : Code lt fs) : (ltrs lt).length < 64 := by rw [← C.up]; exact C.few
theorem Code.wl {lt fs : List Nat} (C : Code lt fs) : (wds fs).length = lt.length := by rw [wds_len, C.len]
theorem dec_start {lt fs : List Nat} (C : Code lt fs) (many : Int) (bits : List Nat) (hb : bits.length ≤ 100000) (k : Sto → Out) : 
    (seqS (ifS (orT (notT (tst (app allD (consA (lstE (lcF (itS (vr 0)) (tgN 9) [9] (yes) (app d_is_sign (consA (vr 9) (nilA))))) (nilA))))) (tst (bin neD (app listA (consA (vr 0) (nilA))) (app srtSD (consA (vr 0) (nilA)))))) (rais "BadText") (nopS))
      (seqS (ifS (tst (bin neD (app lenD (consA (vr 1) (nilA))) (app lenD (consA (vr 0) (nilA))))) (rais "BadCode") (nopS))
      (seqS (asg 4 (app d_words (consA (vr 1) (nilA))))
      (seqS (drp (app d_need_bits (consA (vr 3) (nilA))))
      (seqS (ifS (notT (tst (chn leD leD (cst (.int 1)) (vr 2) (cst (.int (512)))))) (rais "BadBits") (nopS)) k)))) [.val (.str lt), .val (.lst (fsD fs)), .val (.int many), .val (.str bits), .no, .no, .no, .no, .no, .no]) =
      if (∀ c ∈ bits, isBit c) ∧ 1 ≤ many ∧ many ≤ 512 then k [.val (.str lt), .val (.lst (fsD fs)), .val (.int many), .val (.str bits), .val (.lst (wsD (wds fs))), .no, .no, .no, .no, .no] else .rs "BadBits" := by
  have hl' : lt.length ≤ line := by have := C.few; simp only [line]; omega
  have hb' : bits.length ≤ line := by simp only [line]; omega
  have hf := C.few
  have hn := C.len
  rw [seqS_eq, dec_letters lt (by omega) C.lts, if_pos ⟨C.sg, C.up⟩, seq_nx]
  rw [seq_to (δ' := [.val (.str lt), .val (.lst (fsD fs)), .val (.int many), .val (.str bits), .no, .no, .no, .no, .no, .no]) (by
      simp only [seqS_eq, seq_nx, seq_rt, seq_rs, asg_eq, asgN_eq, drp_eq, retS_eq, retN_eq, rais_eq, ifS_eq, forF_eq, itS_eq, rngA_eq, vr_eq, cst_eq, bin_eq, un_eq, consA_eq, nilA_eq, app_eq, tst_eq, asB_bl, andT_eq, orT_eq, notT_eq, notD_bl, ifE_eq, newA_eq, lstE_eq, noP_eq, part_eq, asP_int, slc_eq, binS_eq, yes_eq, List.getElem?_cons_succ, List.getElem?_cons_zero, List.set, bind_ok, bind_rs, out_ok, out_rs, fin_rt, fin_rs, fin_nx, if_true, Bool.false_eq_true, if_false, Bool.not_true, Bool.not_false, decide_true, decide_false, nopS_eq, addD_int, subD_int, negD_int, ltD_int, leD_int, gtD_int, geD_int, eqD_int, neD_int, eqD_str, neD_str, lenD_lst, lenD_tup, lenD_scr, max2D_int, min2D_int, asSeq_lst, asSeq_tup, asSeq_str, binN_eq, frzS_eq, appS_eq, ixO_eq, stoS_eq, lenO_eq, asgU_eq, tgU_tup, tgU_lst, tgP_tup, asg2_eq, chn_eq, lnk_bl, isID_int, isID_bl, isID_non, isBD_int, isBD_bl, isBD_non, isPD_tup, isLD_lst, isLD_str, enumD_lst, zipD_lst, List.map_cons, List.map_nil, List.replicate_succ, List.replicate_zero, List.cons_append, List.nil_append, lenD_str hl', fsD_len, decide_eq_true (show ((fs.length : Nat) : Int) = (lt.length : Int) by omega)])]
  have wi := words_is fs (by omega) C.ne C.le C.fl
  rw [seq_to (δ' := [.val (.str lt), .val (.lst (fsD fs)), .val (.int many), .val (.str bits), .val (.lst (wsD (wds fs))), .no, .no, .no, .no, .no]) (by
      simp only [seqS_eq, seq_nx, seq_rt, seq_rs, asg_eq, asgN_eq, drp_eq, retS_eq, retN_eq, rais_eq, ifS_eq, forF_eq, itS_eq, rngA_eq, vr_eq, cst_eq, bin_eq, un_eq, consA_eq, nilA_eq, app_eq, tst_eq, asB_bl, andT_eq, orT_eq, notT_eq, notD_bl, ifE_eq, newA_eq, lstE_eq, noP_eq, part_eq, asP_int, slc_eq, binS_eq, yes_eq, List.getElem?_cons_succ, List.getElem?_cons_zero, List.set, bind_ok, bind_rs, out_ok, out_rs, fin_rt, fin_rs, fin_nx, if_true, Bool.false_eq_true, if_false, Bool.not_true, Bool.not_false, decide_true, decide_false, nopS_eq, addD_int, subD_int, negD_int, ltD_int, leD_int, gtD_int, geD_int, eqD_int, neD_int, eqD_str, neD_str, lenD_lst, lenD_tup, lenD_scr, max2D_int, min2D_int, asSeq_lst, asSeq_tup, asSeq_str, binN_eq, frzS_eq, appS_eq, ixO_eq, stoS_eq, lenO_eq, asgU_eq, tgU_tup, tgU_lst, tgP_tup, asg2_eq, chn_eq, lnk_bl, isID_int, isID_bl, isID_non, isBD_int, isBD_bl, isBD_non, isPD_tup, isLD_lst, isLD_str, enumD_lst, zipD_lst, List.map_cons, List.map_nil, List.replicate_succ, List.replicate_zero, List.cons_append, List.nil_append, wi]; rfl)]
  have nb := need_bits_is bits hb'
  by_cases h1 : ∀ c ∈ bits, isBit c
  · rw [if_pos h1] at nb
    rw [seq_to (δ' := [.val (.str lt), .val (.lst (fsD fs)), .val (.int many), .val (.str bits), .val (.lst (wsD (wds fs))), .no, .no, .no, .no, .no]) (by
      simp only [seqS_eq, seq_nx, seq_rt, seq_rs, asg_eq, asgN_eq, drp_eq, retS_eq, retN_eq, rais_eq, ifS_eq, forF_eq, itS_eq, rngA_eq, vr_eq, cst_eq, bin_eq, un_eq, consA_eq, nilA_eq, app_eq, tst_eq, asB_bl, andT_eq, orT_eq, notT_eq, notD_bl, ifE_eq, newA_eq, lstE_eq, noP_eq, part_eq, asP_int, slc_eq, binS_eq, yes_eq, List.getElem?_cons_succ, List.getElem?_cons_zero, List.set, bind_ok, bind_rs, out_ok, out_rs, fin_rt, fin_rs, fin_nx, if_true, Bool.false_eq_true, if_false, Bool.not_true, Bool.not_false, decide_true, decide_false, nopS_eq, addD_int, subD_int, negD_int, ltD_int, leD_int, gtD_int, geD_int, eqD_int, neD_int, eqD_str, neD_str, lenD_lst, lenD_tup, lenD_scr, max2D_int, min2D_int, asSeq_lst, asSeq_tup, asSeq_str, binN_eq, frzS_eq, appS_eq, ixO_eq, stoS_eq, lenO_eq, asgU_eq, tgU_tup, tgU_lst, tgP_tup, asg2_eq, chn_eq, lnk_bl, isID_int, isID_bl, isID_non, isBD_int, isBD_bl, isBD_non, isPD_tup, isLD_lst, isLD_str, enumD_lst, zipD_lst, List.map_cons, List.map_nil, List.replicate_succ, List.replicate_zero, List.cons_append, List.nil_append, nb])]
    by_cases h2 : 1 ≤ many
    · by_cases h3 : many ≤ 512
      · rw [if_pos ⟨h1, h2, h3⟩]
        rw [seq_to (δ' := [.val (.str lt), .val (.lst (fsD fs)), .val (.int many), .val (.str bits), .val (.lst (wsD (wds fs))), .no, .no, .no, .no, .no]) (by
          simp only [seqS_eq, seq_nx, seq_rt, seq_rs, asg_eq, asgN_eq, drp_eq, retS_eq, retN_eq, rais_eq, ifS_eq, forF_eq, itS_eq, rngA_eq, vr_eq, cst_eq, bin_eq, un_eq, consA_eq, nilA_eq, app_eq, tst_eq, asB_bl, andT_eq, orT_eq, notT_eq, notD_bl, ifE_eq, newA_eq, lstE_eq, noP_eq, part_eq, asP_int, slc_eq, binS_eq, yes_eq, List.getElem?_cons_succ, List.getElem?_cons_zero, List.set, bind_ok, bind_rs, out_ok, out_rs, fin_rt, fin_rs, fin_nx, if_true, Bool.false_eq_true, if_false, Bool.not_true, Bool.not_false, decide_true, decide_false, nopS_eq, addD_int, subD_int, negD_int, ltD_int, leD_int, gtD_int, geD_int, eqD_int, neD_int, eqD_str, neD_str, lenD_lst, lenD_tup, lenD_scr, max2D_int, min2D_int, asSeq_lst, asSeq_tup, asSeq_str, binN_eq, frzS_eq, appS_eq, ixO_eq, stoS_eq, lenO_eq, asgU_eq, tgU_tup, tgU_lst, tgP_tup, asg2_eq, chn_eq, lnk_bl, isID_int, isID_bl, isID_non, isBD_int, isBD_bl, isBD_non, isPD_tup, isLD_lst, isLD_str, enumD_lst, zipD_lst, List.map_cons, List.map_nil, List.replicate_succ, List.replicate_zero, List.cons_append, List.nil_append, decide_eq_true h2, decide_eq_true h3])]
      · rw [if_neg (fun q => h3 q.2.2), seqS_eq]
        simp only [seqS_eq, seq_nx, seq_rt, seq_rs, asg_eq, asgN_eq, drp_eq, retS_eq, retN_eq, rais_eq, ifS_eq, forF_eq, itS_eq, rngA_eq, vr_eq, cst_eq, bin_eq, un_eq, consA_eq, nilA_eq, app_eq, tst_eq, asB_bl, andT_eq, orT_eq, notT_eq, notD_bl, ifE_eq, newA_eq, lstE_eq, noP_eq, part_eq, asP_int, slc_eq, binS_eq, yes_eq, List.getElem?_cons_succ, List.getElem?_cons_zero, List.set, bind_ok, bind_rs, out_ok, out_rs, fin_rt, fin_rs, fin_nx, if_true, Bool.false_eq_true, if_false, Bool.not_true, Bool.not_false, decide_true, decide_false, nopS_eq, addD_int, subD_int, negD_int, ltD_int, leD_int, gtD_int, geD_int, eqD_int, neD_int, eqD_str, neD_str, lenD_lst, lenD_tup, lenD_scr, max2D_int, min2D_int, asSeq_lst, asSeq_tup, asSeq_str, binN_eq, frzS_eq, appS_eq, ixO_eq, stoS_eq, lenO_eq, asgU_eq, tgU_tup, tgU_lst, tgP_tup, asg2_eq, chn_eq, lnk_bl, isID_int, isID_bl, isID_non, isBD_int, isBD_bl, isBD_non, isPD_tup, isLD_lst, isLD_str, enumD_lst, zipD_lst, List.map_cons, List.map_nil, List.replicate_succ, List.replicate_zero, List.cons_append, List.nil_append, decide_eq_true h2, decide_eq_false h3]
    · rw [if_neg (fun q => h2 q.2.1), seqS_eq]
      simp only [seqS_eq, seq_nx, seq_rt, seq_rs, asg_eq, asgN_eq, drp_eq, retS_eq, retN_eq, rais_eq, ifS_eq, forF_eq, itS_eq, rngA_eq, vr_eq, cst_eq, bin_eq, un_eq, consA_eq, nilA_eq, app_eq, tst_eq, asB_bl, andT_eq, orT_eq, notT_eq, notD_bl, ifE_eq, newA_eq, lstE_eq, noP_eq, part_eq, asP_int, slc_eq, binS_eq, yes_eq, List.getElem?_cons_succ, List.getElem?_cons_zero, List.set, bind_ok, bind_rs, out_ok, out_rs, fin_rt, fin_rs, fin_nx, if_true, Bool.false_eq_true, if_false, Bool.not_true, Bool.not_false, decide_true, decide_false, nopS_eq, addD_int, subD_int, negD_int, ltD_int, leD_int, gtD_int, geD_int, eqD_int, neD_int, eqD_str, neD_str, lenD_lst, lenD_tup, lenD_scr, max2D_int, min2D_int, asSeq_lst, asSeq_tup, asSeq_str, binN_eq, frzS_eq, appS_eq, ixO_eq, stoS_eq, lenO_eq, asgU_eq, tgU_tup, tgU_lst, tgP_tup, asg2_eq, chn_eq, lnk_bl, isID_int, isID_bl, isID_non, isBD_int, isBD_bl, isBD_non, isPD_tup, isLD_lst, isLD_str, enumD_lst, zipD_lst, List.map_cons, List.map_nil, List.replicate_succ, List.replicate_zero, List.cons_append, List.nil_append, decide_eq_false h2]
  · rw [if_neg h1] at nb
    rw [if_neg (fun q => h1 q.1), seqS_eq]
    simp only [seqS_eq, seq_nx, seq_rt, seq_rs, asg_eq, asgN_eq, drp_eq, retS_eq, retN_eq, rais_eq, ifS_eq, forF_eq, itS_eq, rngA_eq, vr_eq, cst_eq, bin_eq, un_eq, consA_eq, nilA_eq, app_eq, tst_eq, asB_bl, andT_eq, orT_eq, notT_eq, notD_bl, ifE_eq, newA_eq, lstE_eq, noP_eq, part_eq, asP_int, slc_eq, binS_eq, yes_eq, List.getElem?_cons_succ, List.getElem?_cons_zero, List.set, bind_ok, bind_rs, out_ok, out_rs, fin_rt, fin_rs, fin_nx, if_true, Bool.false_eq_true, if_false, Bool.not_true, Bool.not_false, decide_true, decide_false, nopS_eq, addD_int, subD_int, negD_int, ltD_int, leD_int, gtD_int, geD_int, eqD_int, neD_int, eqD_str, neD_str, lenD_lst, lenD_tup, lenD_scr, max2D_int, min2D_int, asSeq_lst, asSeq_tup, asSeq_str, binN_eq, frzS_eq, appS_eq, ixO_eq, stoS_eq, lenO_eq, asgU_eq, tgU_tup, tgU_lst, tgP_tup, asg2_eq, chn_eq, lnk_bl, isID_int, isID_bl, isID_non, isBD_int, isBD_bl, isBD_non, isPD_tup, isLD_lst, isLD_str, enumD_lst, zipD_lst, List.map_cons, List.map_nil, List.replicate_succ, List.replicate_zero, List.cons_append, List.nil_append, nb]
theorem decoded_badb {lt fs : List Nat} (C : Code lt fs) (many : Int) (bits : List Nat) (hb : bits.length ≤ 100000) (h : ¬ ((∀ c ∈ bits, isBit c) ∧ 1 ≤ many ∧ many ≤ 512)) : d_decoded [.str lt, .lst (fsD fs), .int many, .str bits] = .rs "BadBits" := by
  rw [d_decoded, run_eq (by rfl)]; unfold b_decoded
  show (seqS _ _ [.val (.str lt), .val (.lst (fsD fs)), .val (.int many), .val (.str bits), .no, .no, .no, .no, .no, .no]).fin = _
  rw [dec_start C many bits hb, if_neg h]
  rfl
theorem decoded_is {lt fs : List Nat} (C : Code lt fs) (n : Nat) (h1 : 1 ≤ n) (h2 : n ≤ 512) (bits : List Nat) (hb : bits.length ≤ 100000) (hbit : ∀ c ∈ bits, isBit c) : d_decoded [.str lt, .lst (fsD fs), .int (n : Int), .str bits] = (match rd (wds fs) lt n bits with | some t => .ok (.str t) | none => .rs "BadBits") := by
  have hl' : lt.length ≤ line := by have := C.few; simp only [line]; omega
  have hb' : bits.length ≤ line := by simp only [line]; omega
  rw [d_decoded, run_eq (by rfl)]; unfold b_decoded
  show (seqS _ _ [.val (.str lt), .val (.lst (fsD fs)), .val (.int (n : Int)), .val (.str bits), .no, .no, .no, .no, .no, .no]).fin = _
  rw [dec_start C (n : Int) bits hb, if_pos ⟨hbit, by omega, by omega⟩]
  rw [seq_to (δ' := [.val (.str lt), .val (.lst (fsD fs)), .val (.int (n : Int)), .val (.str bits), .val (.lst (wsD (wds fs))), .val (.str []), .no, .no, .no, .no]) (by simp only [seqS_eq, seq_nx, seq_rt, seq_rs, asg_eq, asgN_eq, drp_eq, retS_eq, retN_eq, rais_eq, ifS_eq, forF_eq, itS_eq, rngA_eq, vr_eq, cst_eq, bin_eq, un_eq, consA_eq, nilA_eq, app_eq, tst_eq, asB_bl, andT_eq, orT_eq, notT_eq, notD_bl, ifE_eq, newA_eq, lstE_eq, noP_eq, part_eq, asP_int, slc_eq, binS_eq, yes_eq, List.getElem?_cons_succ, List.getElem?_cons_zero, List.set, bind_ok, bind_rs, out_ok, out_rs, fin_rt, fin_rs, fin_nx, if_true, Bool.false_eq_true, if_false, Bool.not_true, Bool.not_false, decide_true, decide_false, nopS_eq, addD_int, subD_int, negD_int, ltD_int, leD_int, gtD_int, geD_int, eqD_int, neD_int, eqD_str, neD_str, lenD_lst, lenD_tup, lenD_scr, max2D_int, min2D_int, asSeq_lst, asSeq_tup, asSeq_str, binN_eq, frzS_eq, appS_eq, ixO_eq, stoS_eq, lenO_eq, asgU_eq, tgU_tup, tgU_lst, tgP_tup, asg2_eq, chn_eq, lnk_bl, isID_int, isID_bl, isID_non, isBD_int, isBD_bl, isBD_non, isPD_tup, isLD_lst, isLD_str, enumD_lst, zipD_lst, List.map_cons, List.map_nil, List.replicate_succ, List.replicate_zero, List.cons_append, List.nil_append])]
  rw [seq_to (δ' := [.val (.str lt), .val (.lst (fsD fs)), .val (.int (n : Int)), .val (.str bits), .val (.lst (wsD (wds fs))), .val (.str []), .val (.int ((0 : Nat) : Int)), .no, .no, .no]) (by simp only [seqS_eq, seq_nx, seq_rt, seq_rs, asg_eq, asgN_eq, drp_eq, retS_eq, retN_eq, rais_eq, ifS_eq, forF_eq, itS_eq, rngA_eq, vr_eq, cst_eq, bin_eq, un_eq, consA_eq, nilA_eq, app_eq, tst_eq, asB_bl, andT_eq, orT_eq, notT_eq, notD_bl, ifE_eq, newA_eq, lstE_eq, noP_eq, part_eq, asP_int, slc_eq, binS_eq, yes_eq, List.getElem?_cons_succ, List.getElem?_cons_zero, List.set, bind_ok, bind_rs, out_ok, out_rs, fin_rt, fin_rs, fin_nx, if_true, Bool.false_eq_true, if_false, Bool.not_true, Bool.not_false, decide_true, decide_false, nopS_eq, addD_int, subD_int, negD_int, ltD_int, leD_int, gtD_int, geD_int, eqD_int, neD_int, eqD_str, neD_str, lenD_lst, lenD_tup, lenD_scr, max2D_int, min2D_int, asSeq_lst, asSeq_tup, asSeq_str, binN_eq, frzS_eq, appS_eq, ixO_eq, stoS_eq, lenO_eq, asgU_eq, tgU_tup, tgU_lst, tgP_tup, asg2_eq, chn_eq, lnk_bl, isID_int, isID_bl, isID_non, isBD_int, isBD_bl, isBD_non, isPD_tup, isLD_lst, isLD_str, enumD_lst, zipD_lst, List.map_cons, List.map_nil, List.replicate_succ, List.replicate_zero, List.cons_append, List.nil_append]; rfl)]
  have rg := rng1 (j := (n : Int)) (okI_of (by omega) (by omega))
  rw [Int.toNat_natCast] at rg
  have ef : ∀ o, forS (tgN 7) lp_decoded_1 (Dn.upTo 0 n) [.val (.str lt), .val (.lst (fsD fs)), .val (.int (n : Int)), .val (.str bits), .val (.lst (wsD (wds fs))), .val (.str []), .val (.int ((0 : Nat) : Int)), .no, .no, .no] = o →
      forF (rngA asRng1 (consA (vr 2) nilA)) (tgN 7) lp_decoded_1 [.val (.str lt), .val (.lst (fsD fs)), .val (.int (n : Int)), .val (.str bits), .val (.lst (wsD (wds fs))), .val (.str []), .val (.int ((0 : Nat) : Int)), .no, .no, .no] = o := fun o ho => by
    rw [forF_eq, rngA_eq, consA_eq]
    simp only [vr_eq, List.getElem?_cons_succ, List.getElem?_cons_zero, bind_ok, nilA_eq, rg, out_ok]
    exact ho
  rcases dec_for (wds fs) (wds_pf fs C.le C.fl) lt C.wl hl' bits hb (.val (.lst (fsD fs))) (.val (.int (n : Int))) .no (Dn.upTo 0 n) 0 [] .no .no (Nat.zero_le _) (by rw [upTo_len]; show 0 + n ≤ 1000; omega) with ⟨e, r⟩ | ⟨at', t, s7, s8, g1, g2, e⟩
  · rw [upTo_len, List.drop_zero] at r
    rw [r, seqS_eq, ef _ e]
    rfl
  · rw [upTo_len, List.drop_zero] at g2
    rw [g2, seq_to (ef _ e), List.nil_append]
    by_cases q : at' = bits.length
    · have : bits.drop at' = [] := List.drop_of_length_le (by omega)
      rw [if_pos this]
      simp only [seqS_eq, seq_nx, seq_rt, seq_rs, asg_eq, asgN_eq, drp_eq, retS_eq, retN_eq, rais_eq, ifS_eq, forF_eq, itS_eq, rngA_eq, vr_eq, cst_eq, bin_eq, un_eq, consA_eq, nilA_eq, app_eq, tst_eq, asB_bl, andT_eq, orT_eq, notT_eq, notD_bl, ifE_eq, newA_eq, lstE_eq, noP_eq, part_eq, asP_int, slc_eq, binS_eq, yes_eq, List.getElem?_cons_succ, List.getElem?_cons_zero, List.set, bind_ok, bind_rs, out_ok, out_rs, fin_rt, fin_rs, fin_nx, if_true, Bool.false_eq_true, if_false, Bool.not_true, Bool.not_false, decide_true, decide_false, nopS_eq, addD_int, subD_int, negD_int, ltD_int, leD_int, gtD_int, geD_int, eqD_int, neD_int, eqD_str, neD_str, lenD_lst, lenD_tup, lenD_scr, max2D_int, min2D_int, asSeq_lst, asSeq_tup, asSeq_str, binN_eq, frzS_eq, appS_eq, ixO_eq, stoS_eq, lenO_eq, asgU_eq, tgU_tup, tgU_lst, tgP_tup, asg2_eq, chn_eq, lnk_bl, isID_int, isID_bl, isID_non, isBD_int, isBD_bl, isBD_non, isPD_tup, isLD_lst, isLD_str, enumD_lst, zipD_lst, List.map_cons, List.map_nil, List.replicate_succ, List.replicate_zero, List.cons_append, List.nil_append, lenD_str hb', decide_eq_false (show ¬ (at' : Int) < (bits.length : Int) by omega)]
    · have : ¬ bits.drop at' = [] := fun z => by
        have := congrArg List.length z
        rw [List.length_drop] at this
        simp at this
        omega
      rw [if_neg this, seqS_eq]
      simp only [seqS_eq, seq_nx, seq_rt, seq_rs, asg_eq, asgN_eq, drp_eq, retS_eq, retN_eq, rais_eq, ifS_eq, forF_eq, itS_eq, rngA_eq, vr_eq, cst_eq, bin_eq, un_eq, consA_eq, nilA_eq, app_eq, tst_eq, asB_bl, andT_eq, orT_eq, notT_eq, notD_bl, ifE_eq, newA_eq, lstE_eq, noP_eq, part_eq, asP_int, slc_eq, binS_eq, yes_eq, List.getElem?_cons_succ, List.getElem?_cons_zero, List.set, bind_ok, bind_rs, out_ok, out_rs, fin_rt, fin_rs, fin_nx, if_true, Bool.false_eq_true, if_false, Bool.not_true, Bool.not_false, decide_true, decide_false, nopS_eq, addD_int, subD_int, negD_int, ltD_int, leD_int, gtD_int, geD_int, eqD_int, neD_int, eqD_str, neD_str, lenD_lst, lenD_tup, lenD_scr, max2D_int, min2D_int, asSeq_lst, asSeq_tup, asSeq_str, binN_eq, frzS_eq, appS_eq, ixO_eq, stoS_eq, lenO_eq, asgU_eq, tgU_tup, tgU_lst, tgP_tup, asg2_eq, chn_eq, lnk_bl, isID_int, isID_bl, isID_non, isBD_int, isBD_bl, isBD_non, isPD_tup, isLD_lst, isLD_str, enumD_lst, zipD_lst, List.map_cons, List.map_nil, List.replicate_succ, List.replicate_zero, List.cons_append, List.nil_append, lenD_str hb', decide_eq_true (show (at' : Int) < (bits.length : Int) by omega)]
end Lw


set_option Elab.async false
set_option linter.all false
set_option maxRecDepth 100000
set_option maxHeartbeats 4000000
namespace Lw
open PySem PySem.Spec L2 Dn
/-! ### the law's own reading -/
def fit (ws : List (List Nat)) (r : List Nat) : List Nat := (List.range ws.length).filter fun i => (ws.getD i []).isPrefixOf r
theorem fit_nil {ws : List (List Nat)} {r : List Nat} (h : fit ws r = []) : ws.findIdx? (fun w => w.isPrefixOf r) = none := by
  rw [List.findIdx?_eq_none_iff]
  intro w hw
  obtain ⟨i, hi⟩ := List.mem_iff_getElem?.mp hw
  have hl := (List.getElem?_eq_some_iff.mp hi).1
  have := List.filter_eq_nil_iff.mp h i (List.mem_range.mpr hl)
  rw [List.getD_eq_getElem?_getD, hi, Option.getD_some] at this
  rw [← Bool.not_eq_true]; exact this
theorem fit_cons {ws : List (List Nat)} {r : List Nat} {i : Nat} {is : List Nat} (h : fit ws r = i :: is) : ws.findIdx? (fun w => w.isPrefixOf r) = some i ∧ i < ws.length := by
  have hm : i ∈ fit ws r := by rw [h]; exact List.mem_cons_self
  obtain ⟨h1, h2⟩ := List.mem_filter.mp hm
  have hl := List.mem_range.mp h1
  refine ⟨?_, hl⟩
  rw [List.findIdx?_eq_some_iff_getElem]
  refine ⟨hl, by rw [List.getD_eq_getElem?_getD, List.getElem?_eq_getElem hl, Option.getD_some] at h2; exact h2, fun j hj q => ?_⟩
  have hjm : j ∈ fit ws r := List.mem_filter.mpr ⟨List.mem_range.mpr (by omega), by
    show (ws.getD j []).isPrefixOf r = true
    rw [List.getD_eq_getElem?_getD, List.getElem?_eq_getElem (by omega), Option.getD_some]; exact q⟩
  have pw : (fit ws r).Pairwise (· < ·) := List.Pairwise.filter _ List.pairwise_lt_range
  rw [h] at hjm pw
  rcases List.mem_cons.mp hjm with e | e
  · omega
  · have := (List.pairwise_cons.mp pw).1 j e
    omega
theorem pre_take (w r : List Nat) : decide (r.take w.length = w) = w.isPrefixOf r := by
  rw [Bool.eq_iff_iff, decide_eq_true_eq, List.isPrefixOf_iff_prefix, List.prefix_iff_eq_take]
  exact ⟨Eq.symm, Eq.symm⟩
theorem lfit_is (ws : List (List Nat)) (hws : ws.length ≤ 1000) (hwl : ∀ w ∈ ws, w.length ≤ 1000) (r : List Nat) (hr : r.length ≤ 100000) (v0 v2 v4 v5 v6 v7 : Slot) :
    lcF (rngA asRng1 (consA (app lenD (consA (vr 1) (nilA))) (nilA))) (tgN 7) [7] (tst (bin eqD (slc (vr 3) (noP) (part (app lenD (consA (bin ixD (vr 1) (vr 7)) (nilA))))) (bin ixD (vr 1) (vr 7)))) (vr 7) [v0, .val (.lst (wsD ws)), v2, .val (.str r), v4, v5, v6, v7] = .ok (fsD (fit ws r)) := by
  have hr' : r.length ≤ line := by simp only [line]; omega
  have rg := rng1 (j := (ws.length : Int)) (okI_of (by omega) (by omega))
  rw [Int.toNat_natCast] at rg
  have q := lcN_filter (δ := [v0, .val (.lst (wsD ws)), v2, .val (.str r), v4, v5, v6, v7]) (vs := [7]) (j := 7) (ft := tst (bin eqD (slc (vr 3) (noP) (part (app lenD (consA (bin ixD (vr 1) (vr 7)) (nilA))))) (bin ixD (vr 1) (vr 7)))) (fe := vr 7) (fi := rngA asRng1 (consA (app lenD (consA (vr 1) (nilA))) (nilA))) (xs := Dn.upTo 0 ws.length) (p := fun d => match d with | .int z => (ws.getD z.toNat []).isPrefixOf r | _ => false) (f := id) (by
      simp only [seqS_eq, seq_nx, seq_rt, seq_rs, asg_eq, asgN_eq, drp_eq, retS_eq, retN_eq, rais_eq, ifS_eq, forF_eq, itS_eq, rngA_eq, vr_eq, cst_eq, bin_eq, un_eq, consA_eq, nilA_eq, app_eq, tst_eq, asB_bl, andT_eq, orT_eq, notT_eq, notD_bl, ifE_eq, newA_eq, lstE_eq, noP_eq, part_eq, asP_int, slc_eq, binS_eq, yes_eq, List.getElem?_cons_succ, List.getElem?_cons_zero, List.set, bind_ok, bind_rs, out_ok, out_rs, fin_rt, fin_rs, fin_nx, if_true, Bool.false_eq_true, if_false, Bool.not_true, Bool.not_false, decide_true, decide_false, nopS_eq, addD_int, subD_int, negD_int, ltD_int, leD_int, gtD_int, geD_int, eqD_int, neD_int, eqD_str, neD_str, lenD_lst, lenD_tup, lenD_scr, max2D_int, min2D_int, asSeq_lst, asSeq_tup, asSeq_str, binN_eq, frzS_eq, appS_eq, ixO_eq, stoS_eq, lenO_eq, asgU_eq, tgU_tup, tgU_lst, tgP_tup, asg2_eq, chn_eq, lnk_bl, isID_int, isID_bl, isID_non, isBD_int, isBD_bl, isBD_non, isPD_tup, isLD_lst, isLD_str, enumD_lst, zipD_lst, List.map_cons, List.map_nil, List.replicate_succ, List.replicate_zero, List.cons_append, List.nil_append, wsD_len, rg]) (by rw [upTo_len]; simp only [line]; omega) (fun x hx => by
    obtain ⟨i, hi⟩ := List.mem_iff_getElem?.mp hx
    obtain ⟨hi2, rfl⟩ := upTo_get hi
    rw [Int.zero_add]
    have ix := ix_ws (ws := ws) (List.getElem?_eq_getElem hi2)
    have wl : ws[i].length ≤ line := by have := hwl _ (List.getElem_mem hi2); simp only [line]; omega
    have sl : slD (.str r) none (some (ws[i].length : Int)) = .ok (.str (r.take ws[i].length)) := by
      show (if r.length ≤ line then Res.ok (D.str (cutL r none (some (ws[i].length : Int)))) else .stuck) = _
      rw [if_pos hr', cut_to]
    refine ⟨?_, fun _ => by simp only [seqS_eq, seq_nx, seq_rt, seq_rs, asg_eq, asgN_eq, drp_eq, retS_eq, retN_eq, rais_eq, ifS_eq, forF_eq, itS_eq, rngA_eq, vr_eq, cst_eq, bin_eq, un_eq, consA_eq, nilA_eq, app_eq, tst_eq, asB_bl, andT_eq, orT_eq, notT_eq, notD_bl, ifE_eq, newA_eq, lstE_eq, noP_eq, part_eq, asP_int, slc_eq, binS_eq, yes_eq, List.getElem?_cons_succ, List.getElem?_cons_zero, List.set, bind_ok, bind_rs, out_ok, out_rs, fin_rt, fin_rs, fin_nx, if_true, Bool.false_eq_true, if_false, Bool.not_true, Bool.not_false, decide_true, decide_false, nopS_eq, addD_int, subD_int, negD_int, ltD_int, leD_int, gtD_int, geD_int, eqD_int, neD_int, eqD_str, neD_str, lenD_lst, lenD_tup, lenD_scr, max2D_int, min2D_int, asSeq_lst, asSeq_tup, asSeq_str, binN_eq, frzS_eq, appS_eq, ixO_eq, stoS_eq, lenO_eq, asgU_eq, tgU_tup, tgU_lst, tgP_tup, asg2_eq, chn_eq, lnk_bl, isID_int, isID_bl, isID_non, isBD_int, isBD_bl, isBD_non, isPD_tup, isLD_lst, isLD_str, enumD_lst, zipD_lst, List.map_cons, List.map_nil, List.replicate_succ, List.replicate_zero, List.cons_append, List.nil_append, wipeS]; rfl⟩
    simp only [seqS_eq, seq_nx, seq_rt, seq_rs, asg_eq, asgN_eq, drp_eq, retS_eq, retN_eq, rais_eq, ifS_eq, forF_eq, itS_eq, rngA_eq, vr_eq, cst_eq, bin_eq, un_eq, consA_eq, nilA_eq, app_eq, tst_eq, asB_bl, andT_eq, orT_eq, notT_eq, notD_bl, ifE_eq, newA_eq, lstE_eq, noP_eq, part_eq, asP_int, slc_eq, binS_eq, yes_eq, List.getElem?_cons_succ, List.getElem?_cons_zero, List.set, bind_ok, bind_rs, out_ok, out_rs, fin_rt, fin_rs, fin_nx, if_true, Bool.false_eq_true, if_false, Bool.not_true, Bool.not_false, decide_true, decide_false, nopS_eq, addD_int, subD_int, negD_int, ltD_int, leD_int, gtD_int, geD_int, eqD_int, neD_int, eqD_str, neD_str, lenD_lst, lenD_tup, lenD_scr, max2D_int, min2D_int, asSeq_lst, asSeq_tup, asSeq_str, binN_eq, frzS_eq, appS_eq, ixO_eq, stoS_eq, lenO_eq, asgU_eq, tgU_tup, tgU_lst, tgP_tup, asg2_eq, chn_eq, lnk_bl, isID_int, isID_bl, isID_non, isBD_int, isBD_bl, isBD_non, isPD_tup, isLD_lst, isLD_str, enumD_lst, zipD_lst, List.map_cons, List.map_nil, List.replicate_succ, List.replicate_zero, List.cons_append, List.nil_append, wipeS, ix, lenD_str wl, sl, pre_take, Int.toNat_natCast, List.getD_eq_getElem?_getD, List.getElem?_eq_getElem hi2, Option.getD_some])
  rw [q, List.map_id]
  congr 1
  unfold Dn.upTo fsD fit
  rw [List.filter_map]
  have e : ((fun d => match d with | D.int z => (ws.getD z.toNat []).isPrefixOf r | _ => false) ∘ fun (k : Nat) => D.int (0 + (k : Int))) = fun i => (ws.getD i []).isPrefixOf r := by
    funext i
    show (ws.getD (0 + (i : Int)).toNat []).isPrefixOf r = _
    rw [show (0 + (i : Int)).toNat = i by omega]
  rw [e]
  refine List.map_congr_left fun i _ => ?_
  rw [Int.zero_add]
theorem lread_for (ws : List (List Nat)) (hws : ws.length ≤ 1000) (hwl : ∀ w ∈ ws, w.length ≤ 1000) (lt : List Nat) (hlt : ws.length = lt.length) (v2 : Slot) : ∀ (xs : List D) (r acc : List Nat) (s5 s6 s7 : Slot), r.length ≤ 100000 → acc.length + xs.length ≤ 1000 →
    (forS (tgN 5) lp__law_read_1 xs [.val (.str lt), .val (.lst (wsD ws)), v2, .val (.str r), .val (.str acc), s5, s6, s7] = .rt (.str bb) ∧ rd ws lt xs.length r = none) ∨
    ∃ (r' t : List Nat) (s5' s6' s7' : Slot), rd ws lt xs.length r = (if r' = [] then some t else none) ∧ forS (tgN 5) lp__law_read_1 xs [.val (.str lt), .val (.lst (wsD ws)), v2, .val (.str r), .val (.str acc), s5, s6, s7] = .nx [.val (.str lt), .val (.lst (wsD ws)), v2, .val (.str r'), .val (.str (acc ++ t)), s5', s6', s7']
  | [], r, acc, s5, s6, s7, h1, h2 => .inr ⟨r, [], s5, s6, s7, rfl, by rw [List.append_nil]; rfl⟩
  | x :: xs, r, acc, s5, s6, s7, h1, h2 => by
    rw [List.length_cons] at h2 ⊢
    have hr' : r.length ≤ line := by simp only [line]; omega
    have hl' : lt.length ≤ line := by simp only [line]; omega
    have lf := lfit_is ws hws hwl r h1 (.val (.str lt)) v2 (.val (.str acc)) (.val x) s6 s7
    have mk0 : mkL [] = .ok (.lst []) := mkL_ok (by decide)
    have eqz : ∀ ns : List Nat, eqD (.lst (fsD ns)) (.lst []) = .ok (.bl (decide (ns = []))) := fun ns => by
      rw [fsD_ints]
      have := eq_ints (ns.map fun (n : Nat) => (n : Int)) []
      rw [List.map_nil] at this
      rw [this]
      congr 2
      exact decide_eq_decide.mpr List.map_eq_nil_iff
    have st1 : asg 6 (lstE (lcF (rngA asRng1 (consA (app lenD (consA (vr 1) (nilA))) (nilA))) (tgN 7) [7] (tst (bin eqD (slc (vr 3) (noP) (part (app lenD (consA (bin ixD (vr 1) (vr 7)) (nilA))))) (bin ixD (vr 1) (vr 7)))) (vr 7))) [.val (.str lt), .val (.lst (wsD ws)), v2, .val (.str r), .val (.str acc), .val x, s6, s7] = .nx [.val (.str lt), .val (.lst (wsD ws)), v2, .val (.str r), .val (.str acc), .val x, .val (.lst (fsD (fit ws r))), s7] := by
      rw [asg_eq, lstE_eq, lf]; rfl
    cases hf : fit ws r with
    | nil =>
      left
      refine ⟨for_rt (d := .str bb) rfl ?_, rd_none (fit_nil hf)⟩
      show lp__law_read_1 [.val (.str lt), .val (.lst (wsD ws)), v2, .val (.str r), .val (.str acc), .val x, s6, s7] = _
      unfold lp__law_read_1
      rw [seq_to st1, hf, seqS_eq]
      simp only [seqS_eq, seq_nx, seq_rt, seq_rs, asg_eq, asgN_eq, drp_eq, retS_eq, retN_eq, rais_eq, ifS_eq, forF_eq, itS_eq, rngA_eq, vr_eq, cst_eq, bin_eq, un_eq, consA_eq, nilA_eq, app_eq, tst_eq, asB_bl, andT_eq, orT_eq, notT_eq, notD_bl, ifE_eq, newA_eq, lstE_eq, noP_eq, part_eq, asP_int, slc_eq, binS_eq, yes_eq, List.getElem?_cons_succ, List.getElem?_cons_zero, List.set, bind_ok, bind_rs, out_ok, out_rs, fin_rt, fin_rs, fin_nx, if_true, Bool.false_eq_true, if_false, Bool.not_true, Bool.not_false, decide_true, decide_false, nopS_eq, addD_int, subD_int, negD_int, ltD_int, leD_int, gtD_int, geD_int, eqD_int, neD_int, eqD_str, neD_str, lenD_lst, lenD_tup, lenD_scr, max2D_int, min2D_int, asSeq_lst, asSeq_tup, asSeq_str, binN_eq, frzS_eq, appS_eq, ixO_eq, stoS_eq, lenO_eq, asgU_eq, tgU_tup, tgU_lst, tgP_tup, asg2_eq, chn_eq, lnk_bl, isID_int, isID_bl, isID_non, isBD_int, isBD_bl, isBD_non, isPD_tup, isLD_lst, isLD_str, enumD_lst, zipD_lst, List.map_cons, List.map_nil, List.replicate_succ, List.replicate_zero, List.cons_append, List.nil_append, mk0, eqz]
      rfl
    | cons i is =>
      obtain ⟨fi, hil⟩ := fit_cons hf
      have hw : ws[i]? = some ws[i] := List.getElem?_eq_getElem hil
      have ix := ix_ws hw
      have wl : ws[i].length ≤ line := by have := hwl _ (List.getElem_mem hil); simp only [line]; omega
      have hg : ws.getD i [] = ws[i] := by rw [List.getD_eq_getElem?_getD, hw]; rfl
      have ix0 : ixD (.lst (fsD (i :: is))) (.int 0) = .ok (.int (i : Int)) := ix_nat (i := 0) rfl
      have ad : addD (.str acc) (.str [lt.getD i 0]) = .ok (.str (acc ++ [lt.getD i 0])) := addD_str (by simp only [List.length_singleton, line]; omega)
      have sl : slD (.str r) (some (ws[i].length : Int)) none = .ok (.str (r.drop ws[i].length)) := by
        show (if r.length ≤ line then Res.ok (D.str (cutL r (some (ws[i].length : Int)) none)) else .stuck) = _
        rw [if_pos hr', cut_from]
      have bd : lp__law_read_1 [.val (.str lt), .val (.lst (wsD ws)), v2, .val (.str r), .val (.str acc), .val x, s6, s7] = .nx [.val (.str lt), .val (.lst (wsD ws)), v2, .val (.str (r.drop ws[i].length)), .val (.str (acc ++ [lt.getD i 0])), .val x, .val (.lst (fsD (i :: is))), s7] := by
        unfold lp__law_read_1
        rw [seq_to st1, hf]
        have en := eqz (i :: is)
        rw [decide_eq_false (by intro z; cases z)] at en
        generalize hG : fsD (i :: is) = G at *
        rw [seq_to (δ' := [.val (.str lt), .val (.lst (wsD ws)), v2, .val (.str r), .val (.str acc), .val x, .val (.lst G), s7]) (by
          simp only [seqS_eq, seq_nx, seq_rt, seq_rs, asg_eq, asgN_eq, drp_eq, retS_eq, retN_eq, rais_eq, ifS_eq, forF_eq, itS_eq, rngA_eq, vr_eq, cst_eq, bin_eq, un_eq, consA_eq, nilA_eq, app_eq, tst_eq, asB_bl, andT_eq, orT_eq, notT_eq, notD_bl, ifE_eq, newA_eq, lstE_eq, noP_eq, part_eq, asP_int, slc_eq, binS_eq, yes_eq, List.getElem?_cons_succ, List.getElem?_cons_zero, List.set, bind_ok, bind_rs, out_ok, out_rs, fin_rt, fin_rs, fin_nx, if_true, Bool.false_eq_true, if_false, Bool.not_true, Bool.not_false, decide_true, decide_false, nopS_eq, addD_int, subD_int, negD_int, ltD_int, leD_int, gtD_int, geD_int, eqD_int, neD_int, eqD_str, neD_str, lenD_lst, lenD_tup, lenD_scr, max2D_int, min2D_int, asSeq_lst, asSeq_tup, asSeq_str, binN_eq, frzS_eq, appS_eq, ixO_eq, stoS_eq, lenO_eq, asgU_eq, tgU_tup, tgU_lst, tgP_tup, asg2_eq, chn_eq, lnk_bl, isID_int, isID_bl, isID_non, isBD_int, isBD_bl, isBD_non, isPD_tup, isLD_lst, isLD_str, enumD_lst, zipD_lst, List.map_cons, List.map_nil, List.replicate_succ, List.replicate_zero, List.cons_append, List.nil_append, mk0, en])]
        simp only [seqS_eq, seq_nx, seq_rt, seq_rs, asg_eq, asgN_eq, drp_eq, retS_eq, retN_eq, rais_eq, ifS_eq, forF_eq, itS_eq, rngA_eq, vr_eq, cst_eq, bin_eq, un_eq, consA_eq, nilA_eq, app_eq, tst_eq, asB_bl, andT_eq, orT_eq, notT_eq, notD_bl, ifE_eq, newA_eq, lstE_eq, noP_eq, part_eq, asP_int, slc_eq, binS_eq, yes_eq, List.getElem?_cons_succ, List.getElem?_cons_zero, List.set, bind_ok, bind_rs, out_ok, out_rs, fin_rt, fin_rs, fin_nx, if_true, Bool.false_eq_true, if_false, Bool.not_true, Bool.not_false, decide_true, decide_false, nopS_eq, addD_int, subD_int, negD_int, ltD_int, leD_int, gtD_int, geD_int, eqD_int, neD_int, eqD_str, neD_str, lenD_lst, lenD_tup, lenD_scr, max2D_int, min2D_int, asSeq_lst, asSeq_tup, asSeq_str, binN_eq, frzS_eq, appS_eq, ixO_eq, stoS_eq, lenO_eq, asgU_eq, tgU_tup, tgU_lst, tgP_tup, asg2_eq, chn_eq, lnk_bl, isID_int, isID_bl, isID_non, isBD_int, isBD_bl, isBD_non, isPD_tup, isLD_lst, isLD_str, enumD_lst, zipD_lst, List.map_cons, List.map_nil, List.replicate_succ, List.replicate_zero, List.cons_append, List.nil_append, ix0, ix_lt hl' (show i < lt.length by omega), ad, ix, lenD_str wl, sl]
      rw [rd_some fi, hg]
      rcases lread_for ws hws hwl lt hlt v2 xs (r.drop ws[i].length) (acc ++ [lt.getD i 0]) (.val x) (.val (.lst (fsD (i :: is)))) s7 (by rw [List.length_drop]; omega) (by rw [List.length_append, List.length_singleton]; omega) with ⟨e2, r2⟩ | ⟨r', t, u5, u6, u7, g2, e2⟩
      · exact .inl ⟨by rw [for_step rfl bd, e2], by rw [r2]; rfl⟩
      · refine .inr ⟨r', lt.getD i 0 :: t, u5, u6, u7, ?_, by rw [for_step rfl bd, e2, List.append_assoc]; rfl⟩
        rw [g2]
        by_cases q : r' = []
        · rw [if_pos q, if_pos q]; rfl
        · rw [if_neg q, if_neg q]; rfl
theorem lread_is (ws : List (List Nat)) (hws : ws.length ≤ 1000) (hwl : ∀ w ∈ ws, w.length ≤ 1000) (lt : List Nat) (hlt : ws.length = lt.length) (n : Nat) (hn : n ≤ 512) (r : List Nat) (hr : r.length ≤ 100000) : d__law_read [.str lt, .lst (wsD ws), .int (n : Int), .str r] = .ok (.str ((rd ws lt n r).getD bb)) := by
  rw [d__law_read, run_eq (by rfl)]; unfold b__law_read
  show (seqS _ _ [.val (.str lt), .val (.lst (wsD ws)), .val (.int (n : Int)), .val (.str r), .no, .no, .no, .no]).fin = _
  rw [seq_to (δ' := [.val (.str lt), .val (.lst (wsD ws)), .val (.int (n : Int)), .val (.str r), .val (.str []), .no, .no, .no]) (by simp only [seqS_eq, seq_nx, seq_rt, seq_rs, asg_eq, asgN_eq, drp_eq, retS_eq, retN_eq, rais_eq, ifS_eq, forF_eq, itS_eq, rngA_eq, vr_eq, cst_eq, bin_eq, un_eq, consA_eq, nilA_eq, app_eq, tst_eq, asB_bl, andT_eq, orT_eq, notT_eq, notD_bl, ifE_eq, newA_eq, lstE_eq, noP_eq, part_eq, asP_int, slc_eq, binS_eq, yes_eq, List.getElem?_cons_succ, List.getElem?_cons_zero, List.set, bind_ok, bind_rs, out_ok, out_rs, fin_rt, fin_rs, fin_nx, if_true, Bool.false_eq_true, if_false, Bool.not_true, Bool.not_false, decide_true, decide_false, nopS_eq, addD_int, subD_int, negD_int, ltD_int, leD_int, gtD_int, geD_int, eqD_int, neD_int, eqD_str, neD_str, lenD_lst, lenD_tup, lenD_scr, max2D_int, min2D_int, asSeq_lst, asSeq_tup, asSeq_str, binN_eq, frzS_eq, appS_eq, ixO_eq, stoS_eq, lenO_eq, asgU_eq, tgU_tup, tgU_lst, tgP_tup, asg2_eq, chn_eq, lnk_bl, isID_int, isID_bl, isID_non, isBD_int, isBD_bl, isBD_non, isPD_tup, isLD_lst, isLD_str, enumD_lst, zipD_lst, List.map_cons, List.map_nil, List.replicate_succ, List.replicate_zero, List.cons_append, List.nil_append])]
  have rg := rng1 (j := (n : Int)) (okI_of (by omega) (by omega))
  rw [Int.toNat_natCast] at rg
  have ef : ∀ o, forS (tgN 5) lp__law_read_1 (Dn.upTo 0 n) [.val (.str lt), .val (.lst (wsD ws)), .val (.int (n : Int)), .val (.str r), .val (.str []), .no, .no, .no] = o →
      forF (rngA asRng1 (consA (vr 2) nilA)) (tgN 5) lp__law_read_1 [.val (.str lt), .val (.lst (wsD ws)), .val (.int (n : Int)), .val (.str r), .val (.str []), .no, .no, .no] = o := fun o ho => by
    rw [forF_eq, rngA_eq, consA_eq]
    simp only [vr_eq, List.getElem?_cons_succ, List.getElem?_cons_zero, bind_ok, nilA_eq, rg, out_ok]
    exact ho
  rcases lread_for ws hws hwl lt hlt (.val (.int (n : Int))) (Dn.upTo 0 n) r [] .no .no .no hr (by rw [upTo_len]; show 0 + n ≤ 1000; omega) with ⟨e, q⟩ | ⟨r', t, s5, s6, s7, q, e⟩
  · rw [upTo_len] at q
    rw [q, seqS_eq, ef _ e]
    rfl
  · rw [upTo_len] at q
    rw [q, seq_to (ef _ e), List.nil_append]
    by_cases z : r' = []
    · rw [if_pos z]
      simp only [seqS_eq, seq_nx, seq_rt, seq_rs, asg_eq, asgN_eq, drp_eq, retS_eq, retN_eq, rais_eq, ifS_eq, forF_eq, itS_eq, rngA_eq, vr_eq, cst_eq, bin_eq, un_eq, consA_eq, nilA_eq, app_eq, tst_eq, asB_bl, andT_eq, orT_eq, notT_eq, notD_bl, ifE_eq, newA_eq, lstE_eq, noP_eq, part_eq, asP_int, slc_eq, binS_eq, yes_eq, List.getElem?_cons_succ, List.getElem?_cons_zero, List.set, bind_ok, bind_rs, out_ok, out_rs, fin_rt, fin_rs, fin_nx, if_true, Bool.false_eq_true, if_false, Bool.not_true, Bool.not_false, decide_true, decide_false, nopS_eq, addD_int, subD_int, negD_int, ltD_int, leD_int, gtD_int, geD_int, eqD_int, neD_int, eqD_str, neD_str, lenD_lst, lenD_tup, lenD_scr, max2D_int, min2D_int, asSeq_lst, asSeq_tup, asSeq_str, binN_eq, frzS_eq, appS_eq, ixO_eq, stoS_eq, lenO_eq, asgU_eq, tgU_tup, tgU_lst, tgP_tup, asg2_eq, chn_eq, lnk_bl, isID_int, isID_bl, isID_non, isBD_int, isBD_bl, isBD_non, isPD_tup, isLD_lst, isLD_str, enumD_lst, zipD_lst, List.map_cons, List.map_nil, List.replicate_succ, List.replicate_zero, List.cons_append, List.nil_append, decide_eq_true z]
      rfl
    · rw [if_neg z]
      simp only [seqS_eq, seq_nx, seq_rt, seq_rs, asg_eq, asgN_eq, drp_eq, retS_eq, retN_eq, rais_eq, ifS_eq, forF_eq, itS_eq, rngA_eq, vr_eq, cst_eq, bin_eq, un_eq, consA_eq, nilA_eq, app_eq, tst_eq, asB_bl, andT_eq, orT_eq, notT_eq, notD_bl, ifE_eq, newA_eq, lstE_eq, noP_eq, part_eq, asP_int, slc_eq, binS_eq, yes_eq, List.getElem?_cons_succ, List.getElem?_cons_zero, List.set, bind_ok, bind_rs, out_ok, out_rs, fin_rt, fin_rs, fin_nx, if_true, Bool.false_eq_true, if_false, Bool.not_true, Bool.not_false, decide_true, decide_false, nopS_eq, addD_int, subD_int, negD_int, ltD_int, leD_int, gtD_int, geD_int, eqD_int, neD_int, eqD_str, neD_str, lenD_lst, lenD_tup, lenD_scr, max2D_int, min2D_int, asSeq_lst, asSeq_tup, asSeq_str, binN_eq, frzS_eq, appS_eq, ixO_eq, stoS_eq, lenO_eq, asgU_eq, tgU_tup, tgU_lst, tgP_tup, asg2_eq, chn_eq, lnk_bl, isID_int, isID_bl, isID_non, isBD_int, isBD_bl, isBD_non, isPD_tup, isLD_lst, isLD_str, enumD_lst, zipD_lst, List.map_cons, List.map_nil, List.replicate_succ, List.replicate_zero, List.cons_append, List.nil_append, decide_eq_false z]
      rfl
end Lw


set_option Elab.async false
set_option linter.all false
set_option maxRecDepth 100000
set_option maxHeartbeats 4000000
namespace Lw
open PySem PySem.Spec L2 Dn
/-! ### coded -/
def enc (ws : List (List Nat)) (lt t : List Nat) : List Nat := (t.map fun c => ws.getD (lt.idxOf c) []).flatten
theorem enc_cons (ws : List (List Nat)) (lt : List Nat) (c : Nat) (t : List Nat) : enc ws lt (c :: t) = ws.getD (lt.idxOf c) [] ++ enc ws lt t := rfl
theorem lt_at {lt : List Nat} {c : Nat} (h : c ∈ lt) : lt.getD (lt.idxOf c) 0 = c := by
  rw [List.getD_eq_getElem?_getD, List.getElem?_eq_getElem (List.idxOf_lt_length_iff.mpr h), Option.getD_some, List.getElem_idxOf]
theorem rd_enc {ws : List (List Nat)} (pf : PF ws) {lt : List Nat} (hl : ws.length = lt.length) : ∀ {t : List Nat}, (∀ c ∈ t, c ∈ lt) → rd ws lt t.length (enc ws lt t) = some t
  | [], _ => rfl
  | c :: t, h => by
    have hi : lt.idxOf c < ws.length := by rw [hl]; exact List.idxOf_lt_length_iff.mpr (h c List.mem_cons_self)
    have hw : ws[lt.idxOf c]? = some (ws.getD (lt.idxOf c) []) := by rw [List.getD_eq_getElem?_getD, List.getElem?_eq_getElem hi]; rfl
    rw [List.length_cons, enc_cons, rd_some (pf_find pf hw (List.prefix_append _ _)), List.drop_left, rd_enc pf hl fun x hx => h x (List.mem_cons_of_mem _ hx), lt_at (h c List.mem_cons_self)]
    rfl
theorem enc_bit {ws : List (List Nat)} (hb : ∀ w ∈ ws, ∀ c ∈ w, isBit c) (lt t : List Nat) : ∀ c ∈ enc ws lt t, isBit c := fun c hc => by
  obtain ⟨w, hw, hcw⟩ := List.mem_flatten.mp hc
  obtain ⟨x, _, rfl⟩ := List.mem_map.mp hw
  rw [List.getD_eq_getElem?_getD] at hcw
  cases q : ws[lt.idxOf x]? with
  | none => rw [q] at hcw; cases hcw
  | some w => rw [q] at hcw; exact hb w (List.mem_of_getElem? q) c hcw
theorem wsum_bump : ∀ {lt fs : List Nat} {t : List Nat} {c : Nat}, lt.Nodup → fs.length = lt.length → c ∈ lt → wsum (lt.map fun x => (((c :: t).count x : Nat) : Int)) fs = wsum (lt.map fun x => ((t.count x : Nat) : Int)) fs + ((fs.getD (lt.idxOf c) 0 : Nat) : Int)
  | [], _, _, c, _, _, h => by cases h
  | x :: lt, [], _, _, _, h, _ => by cases h
  | x :: lt, f :: fs, t, c, hn, hl, hc => by
    rw [List.nodup_cons] at hn
    rw [List.map_cons, List.map_cons, wsum, wsum]
    by_cases e : x = c
    · subst e
      have rest : (lt.map fun y => (((x :: t).count y : Nat) : Int)) = lt.map fun y => ((t.count y : Nat) : Int) := List.map_congr_left fun y hy => by
        rw [List.count_cons_of_ne (fun q => hn.1 (by rw [q]; exact hy))]
      rw [rest, List.count_cons_self, List.idxOf_cons_self]
      show _ = _ + ((f : Nat) : Int)
      rw [Int.natCast_add, Int.add_mul]
      omega
    · have hc' : c ∈ lt := (List.mem_cons.mp hc).resolve_left (fun q => e q.symm)
      rw [List.count_cons_of_ne (fun q => e q.symm), wsum_bump hn.2 (by simpa using hl) hc', List.idxOf_cons, beq_eq_false_iff_ne.mpr e, cond_false]
      show _ = _ + ((fs.getD (lt.idxOf c) 0 : Nat) : Int)
      omega
theorem wsum_zero : ∀ (lt fs : List Nat), wsum (lt.map fun x => ((([] : List Nat).count x : Nat) : Int)) fs = 0
  | [], _ => by cases ‹List Nat› <;> rfl
  | x :: lt, [] => rfl
  | x :: lt, f :: fs => by rw [List.map_cons, wsum, wsum_zero lt fs]; simp
theorem enc_len {ws : List (List Nat)} {lt fs : List Nat} (hn : lt.Nodup) (hl : fs.length = lt.length) (hw : ∀ i, i < lt.length → (ws.getD i []).length = fs.getD i 0) : ∀ {t : List Nat}, (∀ c ∈ t, c ∈ lt) → (((enc ws lt t).length : Nat) : Int) = wsum (lt.map fun x => ((t.count x : Nat) : Int)) fs
  | [], _ => by rw [wsum_zero]; rfl
  | c :: t, h => by
    rw [enc_cons, List.length_append, wsum_bump hn hl (h c List.mem_cons_self), hw _ (List.idxOf_lt_length_iff.mpr (h c List.mem_cons_self)), Int.natCast_add, enc_len hn hl hw fun x hx => h x (List.mem_cons_of_mem _ hx)]
    omega
theorem enc_le {ws : List (List Nat)} {B : Nat} (hB : ∀ w ∈ ws, w.length ≤ B) (lt : List Nat) : ∀ t : List Nat, (enc ws lt t).length ≤ t.length * B
  | [] => Nat.zero_le _
  | c :: t => by
    rw [enc_cons, List.length_append, List.length_cons, Nat.add_mul, Nat.one_mul]
    have := enc_le hB lt t
    have : (ws.getD (lt.idxOf c) []).length ≤ B := by
      rw [List.getD_eq_getElem?_getD]
      cases q : ws[lt.idxOf c]? with
      | none => exact Nat.zero_le _
      | some w => exact hB w (List.mem_of_getElem? q)
    omega
end Lw


set_option Elab.async false
set_option linter.all false
set_option maxRecDepth 100000
set_option maxHeartbeats 4000000
namespace Lw
open PySem PySem.Spec L2 Dn
theorem Code.bits {lt fs : List Nat} (C : Code lt fs) : ∀ w ∈ wds fs, w.length ≤ 94 := fun w hw => by
  obtain ⟨i, hi⟩ := List.mem_iff_getElem?.mp hw
  have hl : i < fs.length := by rw [← wds_len]; exact (List.getElem?_eq_some_iff.mp hi).1
  rw [wds_wlen fs C.le C.fl (List.getElem?_eq_getElem hl) hi]
  exact C.le _ (List.getElem_mem hl)
theorem Code.at_ {lt fs : List Nat} (C : Code lt fs) (i : Nat) (h : i < lt.length) : ((wds fs).getD i []).length = fs.getD i 0 := by
  have hl : i < fs.length := by rw [C.len]; exact h
  have hw : i < (wds fs).length := by rw [wds_len]; exact hl
  rw [List.getD_eq_getElem?_getD, List.getElem?_eq_getElem hw, Option.getD_some, List.getD_eq_getElem?_getD, List.getElem?_eq_getElem hl, Option.getD_some]
  exact wds_wlen fs C.le C.fl (List.getElem?_eq_getElem hl) (List.getElem?_eq_getElem hw)
def cnts (t : List Nat) : List Int := (ltrs t).map fun x => ((t.count x : Nat) : Int)
theorem ltrs_idem (t : List Nat) : ltrs t = ltrs (ltrs t) := lt_unique (ltrs_lt t) (ltrs_lt _) fun x => by rw [ltrs_mem, ltrs_mem, ltrs_mem]
/-- the words' signs laid one behind the other, in a loop over a text -/
theorem join_enc (ws : List (List Nat)) (hws : ∀ w ∈ ws, w.length ≤ 94) (lt t : List Nat) (hlt : lt.length ≤ line) (hl : ws.length = lt.length) (ht : ∀ c ∈ t, c ∈ lt) (h90 : t.length ≤ 512) {δ : Sto} {i j a b : Nat} (hij : a ≠ j) (hbj : b ≠ j) (hj : j < δ.length) (hi : δ[i]? = some (.val (.str t))) (ha : δ[a]? = some (.val (.lst (wsD ws)))) (hb : δ[b]? = some (.val (.str lt))) :
    binS joinD (cst (.str [])) (lstE (lcF (itS (vr i)) (tgN j) [j] (yes) (bin ixD (vr a) (idxE (vr b) (vr j))))) δ = .ok (.str (enc ws lt t)) := by
  have lc := lcN_map (δ := δ) (vs := [j]) (j := j) (fe := bin ixD (vr a) (idxE (vr b) (vr j))) (fi := itS (vr i)) (xs := t.map fun c => .str [c]) (f := fun d => match d with | .str [c] => .str (ws.getD (lt.idxOf c) []) | d => d) (by
      rw [itS_eq, vr_eq, hi]; simp only [bind_ok, asSeq_str]) (by rw [List.length_map]; simp only [line]; omega) (fun x hx => by
    obtain ⟨c, hc, rfl⟩ := List.mem_map.mp hx
    have wa : ((wipeS δ [j]).set j (.val (.str [c])))[a]? = some (.val (.lst (wsD ws))) := by
      show ((δ.set j .no).set j _)[a]? = _
      rw [List.getElem?_set_ne (fun e => hij e.symm), List.getElem?_set_ne (fun e => hij e.symm), ha]
    have wb : ((wipeS δ [j]).set j (.val (.str [c])))[b]? = some (.val (.str lt)) := by
      show ((δ.set j .no).set j _)[b]? = _
      rw [List.getElem?_set_ne (fun e => hbj e.symm), List.getElem?_set_ne (fun e => hbj e.symm), hb]
    have wj : ((wipeS δ [j]).set j (.val (.str [c])))[j]? = some (.val (.str [c])) := by
      show ((δ.set j .no).set j _)[j]? = _
      rw [List.getElem?_set_self (by rw [List.length_set]; exact hj)]
    have ie : idxS lt (.str [c]) = .ok (.int ((lt.idxOf c : Nat) : Int)) := by
      show (match lt.findIdx? (fun d => d == c) with | some i => Res.ok (D.int (i : Int)) | none => _) = _
      rw [find_of (ht c hc)]
    have hi : lt.idxOf c < ws.length := by rw [hl]; exact List.idxOf_lt_length_iff.mpr (ht c hc)
    have ix := ix_ws (ws := ws) (w := ws.getD (lt.idxOf c) []) (by rw [List.getD_eq_getElem?_getD, List.getElem?_eq_getElem hi]; rfl)
    rw [bin_eq, vr_eq, wa, idxE_eq, vr_eq, wb, vr_eq, wj]
    simp only [bind_ok, ie, ix])
  have e2 : (t.map fun c => D.str [c]).map (fun d => match d with | .str [c] => D.str (ws.getD (lt.idxOf c) []) | d => d) = (t.map fun c => ws.getD (lt.idxOf c) []).map D.str := by rw [List.map_map, List.map_map]; rfl
  rw [e2] at lc
  have le := enc_le hws lt t
  have jn := join_is (ls := t.map fun c => ws.getD (lt.idxOf c) []) (by
    show (enc ws lt t).length ≤ line
    have : t.length * 94 ≤ 512 * 94 := Nat.mul_le_mul_right _ h90
    simp only [line]; omega)
  rw [binS_eq, cst_eq, bind_ok]
  show (lstE _ δ).bind (joinD []) = _
  rw [lstE_eq, lc, bind_ok, bind_ok, jn]
  rfl
theorem counts_lc (t : List Nat) (hl : t.length ≤ 512) (h64 : (ltrs t).length < 64) {δ : Sto} {i j a : Nat} (haj : a ≠ j) (hj : j < δ.length) (hi : δ[i]? = some (.val (.str (ltrs t)))) (ha : δ[a]? = some (.val (.str t))) :
    lcF (itS (vr i)) (tgN j) [j] (yes) (binS countD (vr a) (vr j)) δ = .ok ((cnts t).map .int) := by
  have lc := lcN_map (δ := δ) (vs := [j]) (j := j) (fe := binS countD (vr a) (vr j)) (fi := itS (vr i)) (xs := (ltrs t).map fun c => .str [c]) (f := fun d => match d with | .str [c] => .int ((t.count c : Nat) : Int) | d => d) (by
      rw [itS_eq, vr_eq, hi]; simp only [bind_ok, asSeq_str]) (by rw [List.length_map]; simp only [line]; omega) (fun x hx => by
    obtain ⟨c, hc, rfl⟩ := List.mem_map.mp hx
    have wa : ((wipeS δ [j]).set j (.val (.str [c])))[a]? = some (.val (.str t)) := by
      show ((δ.set j .no).set j _)[a]? = _
      rw [List.getElem?_set_ne (fun e => haj e.symm), List.getElem?_set_ne (fun e => haj e.symm), ha]
    have wj : ((wipeS δ [j]).set j (.val (.str [c])))[j]? = some (.val (.str [c])) := by
      show ((δ.set j .no).set j _)[j]? = _
      rw [List.getElem?_set_self (by rw [List.length_set]; exact hj)]
    rw [binS_eq, vr_eq, wa, bind_ok]
    show (vr j _).bind (countD t) = _
    rw [vr_eq, wj, bind_ok]
    rfl)
  rw [lc]
  congr 1
  unfold cnts
  rw [List.map_map, List.map_map]
  rfl
theorem coded_is (t : List Nat) (ok : okT t = true) (hne : t ≠ []) (h64 : (ltrs t).length < 64) : ∃ fs, Code (ltrs t) fs ∧ wsum (cnts t) fs = hcost (cnts t).length (hs0 (cnts t)) ∧ d_coded [.str t] = .ok (.tup [.str (ltrs t), .lst (fsD fs), .int (t.length : Int), .str (enc (wds fs) (ltrs t) t)]) := by
  have hl : t.length ≤ 512 := by unfold okT at ok; rw [Bool.and_eq_true] at ok; exact of_decide_eq_true ok.1
  have hl' : t.length ≤ line := by simp only [line]; omega
  have lle : (ltrs t).length ≤ line := by simp only [line]; omega
  have cl : (cnts t).length = (ltrs t).length := List.length_map _
  have l1 : 1 ≤ (ltrs t).length := by
    cases q : t with
    | nil => exact (hne q).elim
    | cons c r => rw [← q]; exact List.length_pos_of_mem (ltrs_mem.mpr (by rw [q]; exact List.mem_cons_self))
  obtain ⟨fs, h, ef, I, hw⟩ := lengths_is (cnts t) (by omega) (by omega) (fun z hz => by
    obtain ⟨c, hc, rfl⟩ := List.mem_map.mp hz
    have := List.count_pos_iff.mpr (ltrs_mem.mp hc)
    omega)
  have fl : fs.length = (cnts t).length := I.len
  have f64 : ∀ f ∈ fs, f ≤ 94 := fun f hf => by
    obtain ⟨i, hi⟩ := List.mem_iff_getElem?.mp hf
    have := I.bd i
    rw [List.getD_eq_getElem?_getD, hi] at this
    simp only [Option.getD_some, List.length_singleton] at this
    omega
  have C : Code (ltrs t) fs := by
    refine ⟨?_, ltrs_idem t, h64, by omega, fun q => by rw [q] at fl; simp at fl; omega, f64, I.fin 94 f64⟩
    unfold okT at ok
    rw [Bool.and_eq_true] at ok
    exact List.all_eq_true.mpr fun c hc => List.all_eq_true.mp ok.2 c (ltrs_mem.mp hc)
  refine ⟨fs, C, hw, ?_⟩
  rw [d_coded, run_eq (by rfl)]; unfold b_coded
  show (seqS _ _ [.val (.str t), .no, .no, .no, .no]).fin = _
  have nt := need_text_is t hl'
  rw [ok, if_pos rfl] at nt
  rw [seq_to (δ' := [.val (.str t), .no, .no, .no, .no]) (by simp only [seqS_eq, seq_nx, seq_rt, seq_rs, asg_eq, asgN_eq, drp_eq, retS_eq, retN_eq, rais_eq, ifS_eq, forF_eq, itS_eq, rngA_eq, vr_eq, cst_eq, bin_eq, un_eq, consA_eq, nilA_eq, app_eq, tst_eq, asB_bl, andT_eq, orT_eq, notT_eq, notD_bl, ifE_eq, newA_eq, lstE_eq, noP_eq, part_eq, asP_int, slc_eq, binS_eq, yes_eq, List.getElem?_cons_succ, List.getElem?_cons_zero, List.set, bind_ok, bind_rs, out_ok, out_rs, fin_rt, fin_rs, fin_nx, if_true, Bool.false_eq_true, if_false, Bool.not_true, Bool.not_false, decide_true, decide_false, nopS_eq, addD_int, subD_int, negD_int, ltD_int, leD_int, gtD_int, geD_int, eqD_int, neD_int, eqD_str, neD_str, lenD_lst, lenD_tup, lenD_scr, max2D_int, min2D_int, asSeq_lst, asSeq_tup, asSeq_str, binN_eq, frzS_eq, appS_eq, ixO_eq, stoS_eq, lenO_eq, asgU_eq, tgU_tup, tgU_lst, tgP_tup, asg2_eq, chn_eq, lnk_bl, isID_int, isID_bl, isID_non, isBD_int, isBD_bl, isBD_non, isPD_tup, isLD_lst, isLD_str, enumD_lst, zipD_lst, List.map_cons, List.map_nil, List.replicate_succ, List.replicate_zero, List.cons_append, List.nil_append, nt])]
  rw [seq_to (δ' := [.val (.str t), .no, .no, .no, .no]) (by simp only [seqS_eq, seq_nx, seq_rt, seq_rs, asg_eq, asgN_eq, drp_eq, retS_eq, retN_eq, rais_eq, ifS_eq, forF_eq, itS_eq, rngA_eq, vr_eq, cst_eq, bin_eq, un_eq, consA_eq, nilA_eq, app_eq, tst_eq, asB_bl, andT_eq, orT_eq, notT_eq, notD_bl, ifE_eq, newA_eq, lstE_eq, noP_eq, part_eq, asP_int, slc_eq, binS_eq, yes_eq, List.getElem?_cons_succ, List.getElem?_cons_zero, List.set, bind_ok, bind_rs, out_ok, out_rs, fin_rt, fin_rs, fin_nx, if_true, Bool.false_eq_true, if_false, Bool.not_true, Bool.not_false, decide_true, decide_false, nopS_eq, addD_int, subD_int, negD_int, ltD_int, leD_int, gtD_int, geD_int, eqD_int, neD_int, eqD_str, neD_str, lenD_lst, lenD_tup, lenD_scr, max2D_int, min2D_int, asSeq_lst, asSeq_tup, asSeq_str, binN_eq, frzS_eq, appS_eq, ixO_eq, stoS_eq, lenO_eq, asgU_eq, tgU_tup, tgU_lst, tgP_tup, asg2_eq, chn_eq, lnk_bl, isID_int, isID_bl, isID_non, isBD_int, isBD_bl, isBD_non, isPD_tup, isLD_lst, isLD_str, enumD_lst, zipD_lst, List.map_cons, List.map_nil, List.replicate_succ, List.replicate_zero, List.cons_append, List.nil_append, decide_eq_false hne])]
  have lo := letters_of_is t (by omega) h64
  rw [seq_to (δ' := [.val (.str t), .val (.str (ltrs t)), .no, .no, .no]) (by simp only [seqS_eq, seq_nx, seq_rt, seq_rs, asg_eq, asgN_eq, drp_eq, retS_eq, retN_eq, rais_eq, ifS_eq, forF_eq, itS_eq, rngA_eq, vr_eq, cst_eq, bin_eq, un_eq, consA_eq, nilA_eq, app_eq, tst_eq, asB_bl, andT_eq, orT_eq, notT_eq, notD_bl, ifE_eq, newA_eq, lstE_eq, noP_eq, part_eq, asP_int, slc_eq, binS_eq, yes_eq, List.getElem?_cons_succ, List.getElem?_cons_zero, List.set, bind_ok, bind_rs, out_ok, out_rs, fin_rt, fin_rs, fin_nx, if_true, Bool.false_eq_true, if_false, Bool.not_true, Bool.not_false, decide_true, decide_false, nopS_eq, addD_int, subD_int, negD_int, ltD_int, leD_int, gtD_int, geD_int, eqD_int, neD_int, eqD_str, neD_str, lenD_lst, lenD_tup, lenD_scr, max2D_int, min2D_int, asSeq_lst, asSeq_tup, asSeq_str, binN_eq, frzS_eq, appS_eq, ixO_eq, stoS_eq, lenO_eq, asgU_eq, tgU_tup, tgU_lst, tgP_tup, asg2_eq, chn_eq, lnk_bl, isID_int, isID_bl, isID_non, isBD_int, isBD_bl, isBD_non, isPD_tup, isLD_lst, isLD_str, enumD_lst, zipD_lst, List.map_cons, List.map_nil, List.replicate_succ, List.replicate_zero, List.cons_append, List.nil_append, lo])]
  have lc := counts_lc t hl h64 (δ := [.val (.str t), .val (.str (ltrs t)), .no, .no, .no]) (i := 1) (j := 4) (a := 0) (by decide) (by show 4 < 5; decide) rfl rfl
  rw [seq_to (δ' := [.val (.str t), .val (.str (ltrs t)), .val (.lst (fsD fs)), .no, .no]) (by
    rw [asg_eq, app_eq, consA_eq, lstE_eq, lc]
    simp only [bind_ok, nilA_eq, ef, out_ok, List.set])]
  have wi := words_is fs (by omega) C.ne C.le C.fl
  rw [seq_to (δ' := [.val (.str t), .val (.str (ltrs t)), .val (.lst (fsD fs)), .val (.lst (wsD (wds fs))), .no]) (by simp only [seqS_eq, seq_nx, seq_rt, seq_rs, asg_eq, asgN_eq, drp_eq, retS_eq, retN_eq, rais_eq, ifS_eq, forF_eq, itS_eq, rngA_eq, vr_eq, cst_eq, bin_eq, un_eq, consA_eq, nilA_eq, app_eq, tst_eq, asB_bl, andT_eq, orT_eq, notT_eq, notD_bl, ifE_eq, newA_eq, lstE_eq, noP_eq, part_eq, asP_int, slc_eq, binS_eq, yes_eq, List.getElem?_cons_succ, List.getElem?_cons_zero, List.set, bind_ok, bind_rs, out_ok, out_rs, fin_rt, fin_rs, fin_nx, if_true, Bool.false_eq_true, if_false, Bool.not_true, Bool.not_false, decide_true, decide_false, nopS_eq, addD_int, subD_int, negD_int, ltD_int, leD_int, gtD_int, geD_int, eqD_int, neD_int, eqD_str, neD_str, lenD_lst, lenD_tup, lenD_scr, max2D_int, min2D_int, asSeq_lst, asSeq_tup, asSeq_str, binN_eq, frzS_eq, appS_eq, ixO_eq, stoS_eq, lenO_eq, asgU_eq, tgU_tup, tgU_lst, tgP_tup, asg2_eq, chn_eq, lnk_bl, isID_int, isID_bl, isID_non, isBD_int, isBD_bl, isBD_non, isPD_tup, isLD_lst, isLD_str, enumD_lst, zipD_lst, List.map_cons, List.map_nil, List.replicate_succ, List.replicate_zero, List.cons_append, List.nil_append, wi]; rfl)]
  have je := join_enc (wds fs) C.bits (ltrs t) t lle C.wl (fun c hc => ltrs_mem.mpr hc) hl (δ := [.val (.str t), .val (.str (ltrs t)), .val (.lst (fsD fs)), .val (.lst (wsD (wds fs))), .no]) (i := 0) (j := 4) (a := 3) (b := 1) (by decide) (by decide) (by show 4 < 5; decide) rfl rfl rfl
  have mk : ∀ a b c d : D, mkT [a, b, c, d] = .ok (.tup [a, b, c, d]) := fun a b c d => by rfl
  rw [retS_eq, app_eq, consA_eq, consA_eq, consA_eq, consA_eq, je]
  simp only [seqS_eq, seq_nx, seq_rt, seq_rs, asg_eq, asgN_eq, drp_eq, retS_eq, retN_eq, rais_eq, ifS_eq, forF_eq, itS_eq, rngA_eq, vr_eq, cst_eq, bin_eq, un_eq, consA_eq, nilA_eq, app_eq, tst_eq, asB_bl, andT_eq, orT_eq, notT_eq, notD_bl, ifE_eq, newA_eq, lstE_eq, noP_eq, part_eq, asP_int, slc_eq, binS_eq, yes_eq, List.getElem?_cons_succ, List.getElem?_cons_zero, List.set, bind_ok, bind_rs, out_ok, out_rs, fin_rt, fin_rs, fin_nx, if_true, Bool.false_eq_true, if_false, Bool.not_true, Bool.not_false, decide_true, decide_false, nopS_eq, addD_int, subD_int, negD_int, ltD_int, leD_int, gtD_int, geD_int, eqD_int, neD_int, eqD_str, neD_str, lenD_lst, lenD_tup, lenD_scr, max2D_int, min2D_int, asSeq_lst, asSeq_tup, asSeq_str, binN_eq, frzS_eq, appS_eq, ixO_eq, stoS_eq, lenO_eq, asgU_eq, tgU_tup, tgU_lst, tgP_tup, asg2_eq, chn_eq, lnk_bl, isID_int, isID_bl, isID_non, isBD_int, isBD_bl, isBD_non, isPD_tup, isLD_lst, isLD_str, enumD_lst, zipD_lst, List.map_cons, List.map_nil, List.replicate_succ, List.replicate_zero, List.cons_append, List.nil_append, lenD_str hl', mk]
theorem coded_bad (t : List Nat) (hl : t.length ≤ line) (h : okT t = false ∨ t = []) : d_coded [.str t] = .rs "BadText" := by
  rw [d_coded, run_eq (by rfl)]; unfold b_coded
  show (seqS _ _ [.val (.str t), .no, .no, .no, .no]).fin = _
  have nt := need_text_is t hl
  by_cases q : okT t = true
  · have e := h.resolve_left (by rw [q]; decide)
    rw [q, if_pos rfl] at nt
    rw [seq_to (δ' := [.val (.str t), .no, .no, .no, .no]) (by simp only [seqS_eq, seq_nx, seq_rt, seq_rs, asg_eq, asgN_eq, drp_eq, retS_eq, retN_eq, rais_eq, ifS_eq, forF_eq, itS_eq, rngA_eq, vr_eq, cst_eq, bin_eq, un_eq, consA_eq, nilA_eq, app_eq, tst_eq, asB_bl, andT_eq, orT_eq, notT_eq, notD_bl, ifE_eq, newA_eq, lstE_eq, noP_eq, part_eq, asP_int, slc_eq, binS_eq, yes_eq, List.getElem?_cons_succ, List.getElem?_cons_zero, List.set, bind_ok, bind_rs, out_ok, out_rs, fin_rt, fin_rs, fin_nx, if_true, Bool.false_eq_true, if_false, Bool.not_true, Bool.not_false, decide_true, decide_false, nopS_eq, addD_int, subD_int, negD_int, ltD_int, leD_int, gtD_int, geD_int, eqD_int, neD_int, eqD_str, neD_str, lenD_lst, lenD_tup, lenD_scr, max2D_int, min2D_int, asSeq_lst, asSeq_tup, asSeq_str, binN_eq, frzS_eq, appS_eq, ixO_eq, stoS_eq, lenO_eq, asgU_eq, tgU_tup, tgU_lst, tgP_tup, asg2_eq, chn_eq, lnk_bl, isID_int, isID_bl, isID_non, isBD_int, isBD_bl, isBD_non, isPD_tup, isLD_lst, isLD_str, enumD_lst, zipD_lst, List.map_cons, List.map_nil, List.replicate_succ, List.replicate_zero, List.cons_append, List.nil_append, nt]), seqS_eq]
    simp only [seqS_eq, seq_nx, seq_rt, seq_rs, asg_eq, asgN_eq, drp_eq, retS_eq, retN_eq, rais_eq, ifS_eq, forF_eq, itS_eq, rngA_eq, vr_eq, cst_eq, bin_eq, un_eq, consA_eq, nilA_eq, app_eq, tst_eq, asB_bl, andT_eq, orT_eq, notT_eq, notD_bl, ifE_eq, newA_eq, lstE_eq, noP_eq, part_eq, asP_int, slc_eq, binS_eq, yes_eq, List.getElem?_cons_succ, List.getElem?_cons_zero, List.set, bind_ok, bind_rs, out_ok, out_rs, fin_rt, fin_rs, fin_nx, if_true, Bool.false_eq_true, if_false, Bool.not_true, Bool.not_false, decide_true, decide_false, nopS_eq, addD_int, subD_int, negD_int, ltD_int, leD_int, gtD_int, geD_int, eqD_int, neD_int, eqD_str, neD_str, lenD_lst, lenD_tup, lenD_scr, max2D_int, min2D_int, asSeq_lst, asSeq_tup, asSeq_str, binN_eq, frzS_eq, appS_eq, ixO_eq, stoS_eq, lenO_eq, asgU_eq, tgU_tup, tgU_lst, tgP_tup, asg2_eq, chn_eq, lnk_bl, isID_int, isID_bl, isID_non, isBD_int, isBD_bl, isBD_non, isPD_tup, isLD_lst, isLD_str, enumD_lst, zipD_lst, List.map_cons, List.map_nil, List.replicate_succ, List.replicate_zero, List.cons_append, List.nil_append, decide_eq_true e]
  · rw [if_neg q] at nt
    rw [seqS_eq]
    simp only [seqS_eq, seq_nx, seq_rt, seq_rs, asg_eq, asgN_eq, drp_eq, retS_eq, retN_eq, rais_eq, ifS_eq, forF_eq, itS_eq, rngA_eq, vr_eq, cst_eq, bin_eq, un_eq, consA_eq, nilA_eq, app_eq, tst_eq, asB_bl, andT_eq, orT_eq, notT_eq, notD_bl, ifE_eq, newA_eq, lstE_eq, noP_eq, part_eq, asP_int, slc_eq, binS_eq, yes_eq, List.getElem?_cons_succ, List.getElem?_cons_zero, List.set, bind_ok, bind_rs, out_ok, out_rs, fin_rt, fin_rs, fin_nx, if_true, Bool.false_eq_true, if_false, Bool.not_true, Bool.not_false, decide_true, decide_false, nopS_eq, addD_int, subD_int, negD_int, ltD_int, leD_int, gtD_int, geD_int, eqD_int, neD_int, eqD_str, neD_str, lenD_lst, lenD_tup, lenD_scr, max2D_int, min2D_int, asSeq_lst, asSeq_tup, asSeq_str, binN_eq, frzS_eq, appS_eq, ixO_eq, stoS_eq, lenO_eq, asgU_eq, tgU_tup, tgU_lst, tgP_tup, asg2_eq, chn_eq, lnk_bl, isID_int, isID_bl, isID_non, isBD_int, isBD_bl, isBD_non, isPD_tup, isLD_lst, isLD_str, enumD_lst, zipD_lst, List.map_cons, List.map_nil, List.replicate_succ, List.replicate_zero, List.cons_append, List.nil_append, nt]
end Lw


set_option Elab.async false
set_option linter.all false
set_option maxRecDepth 100000
set_option maxHeartbeats 4000000
namespace Lw
open PySem PySem.Spec L2 Dn
/-! ### the law's texts -/
def lets : List (List Nat) := [[97, 98], [97], [97, 98, 99, 100, 32, 126], [116, 104, 101, 32, 113, 117, 105, 99, 107, 32, 98, 114, 111, 119, 110, 32, 102, 111, 120, 32, 106, 117, 109, 112, 115], [33, 48, 97, 65, 122, 90, 126], [32]]
theorem str_ix {l : List Nat} (hl : l.length ≤ line) {i : Int} (h0 : 0 ≤ i) (h1 : i.toNat < l.length) : ∃ c, l[i.toNat]? = some c ∧ c ∈ l ∧ ixD (.str l) (.int i) = .ok (.str [c]) := by
  refine ⟨l[i.toNat], List.getElem?_eq_getElem h1, List.getElem_mem h1, ?_⟩
  show (if l.length ≤ line then (match atI l i with | some c => Res.ok (D.str [c]) | none => .stuck) else .stuck) = _
  rw [if_pos hl, at_nat h0 h1]
theorem lst_ix {l : List D} {i : Int} (h0 : 0 ≤ i) (h1 : i.toNat < l.length) : ixD (.lst l) (.int i) = .ok l[i.toNat] := by
  show (match atI l i with | some c => Res.ok c | none => .stuck) = _
  rw [at_nat h0 h1]
theorem lets_ok : ∀ L ∈ lets, 1 ≤ L.length ∧ L.length ≤ 25 ∧ L.all sgn = true := by decide
theorem law_text_is (more most : Int) (h0 : 0 ≤ more) (h1 : 0 ≤ most) (h2 : most ≤ 400) : ∃ t L, L ∈ lets ∧ d__law_text [.int more, .int most] = .ok (.str t) ∧ (t.length : Int) ≤ most ∧ ∀ c ∈ t, c ∈ L := by
  have m0 : 0 ≤ more % 6 := Int.emod_nonneg _ (by decide)
  have m1 : more % 6 < 6 := Int.emod_lt_of_pos _ (by decide)
  have hlt : (more % 6).toNat < lets.length := by show _ < 6; omega
  generalize hL : lets[(more % 6).toNat] = L
  have hLm : L ∈ lets := hL ▸ List.getElem_mem hlt
  obtain ⟨l1, l2, _⟩ := lets_ok L hLm
  have hll : L.length ≤ line := by simp only [line]; omega
  have mk6 : ∀ a b c d e f : D, mkL [a, b, c, d, e, f] = .ok (.lst [a, b, c, d, e, f]) := fun a b c d e f => mkL_ok (by show 6 ≤ line; decide)
  have ix : ixD (.lst (lets.map .str)) (.int (more % 6)) = .ok (.str L) := by
    rw [lst_ix m0 (by rw [List.length_map]; exact hlt), List.getElem_map, hL]
  rw [show d__law_text [.int more, .int most] = _ from by rw [d__law_text, run_eq (by rfl)]]
  unfold b__law_text
  show ∃ t L, L ∈ lets ∧ (seqS _ _ [.val (.int more), .val (.int most), .no, .no, .no, .no]).fin = _ ∧ _
  rw [seq_to (δ' := [.val (.int more), .val (.int most), .val (.str L), .no, .no, .no]) (by
    have ix' := ix
    unfold lets at ix'
    simp only [List.map_cons, List.map_nil] at ix'
    simp only [seqS_eq, seq_nx, seq_rt, seq_rs, asg_eq, asgN_eq, drp_eq, retS_eq, retN_eq, rais_eq, ifS_eq, forF_eq, itS_eq, rngA_eq, vr_eq, cst_eq, bin_eq, un_eq, consA_eq, nilA_eq, app_eq, tst_eq, asB_bl, andT_eq, orT_eq, notT_eq, notD_bl, ifE_eq, newA_eq, lstE_eq, noP_eq, part_eq, asP_int, slc_eq, binS_eq, yes_eq, List.getElem?_cons_succ, List.getElem?_cons_zero, List.set, bind_ok, bind_rs, out_ok, out_rs, fin_rt, fin_rs, fin_nx, if_true, Bool.false_eq_true, if_false, Bool.not_true, Bool.not_false, decide_true, decide_false, nopS_eq, addD_int, subD_int, negD_int, ltD_int, leD_int, gtD_int, geD_int, eqD_int, neD_int, eqD_str, neD_str, lenD_lst, lenD_tup, lenD_scr, max2D_int, min2D_int, asSeq_lst, asSeq_tup, asSeq_str, binN_eq, frzS_eq, appS_eq, ixO_eq, stoS_eq, lenO_eq, asgU_eq, tgU_tup, tgU_lst, tgP_tup, asg2_eq, chn_eq, lnk_bl, isID_int, isID_bl, isID_non, isBD_int, isBD_bl, isBD_non, isPD_tup, isLD_lst, isLD_str, enumD_lst, zipD_lst, List.map_cons, List.map_nil, List.replicate_succ, List.replicate_zero, List.cons_append, List.nil_append, mk6, modD_int (show (0 : Int) < 6 by decide), ix'])]
  rw [seq_to (δ' := [.val (.int more), .val (.int most), .val (.str L), .val (.str []), .no, .no]) (by simp only [seqS_eq, seq_nx, seq_rt, seq_rs, asg_eq, asgN_eq, drp_eq, retS_eq, retN_eq, rais_eq, ifS_eq, forF_eq, itS_eq, rngA_eq, vr_eq, cst_eq, bin_eq, un_eq, consA_eq, nilA_eq, app_eq, tst_eq, asB_bl, andT_eq, orT_eq, notT_eq, notD_bl, ifE_eq, newA_eq, lstE_eq, noP_eq, part_eq, asP_int, slc_eq, binS_eq, yes_eq, List.getElem?_cons_succ, List.getElem?_cons_zero, List.set, bind_ok, bind_rs, out_ok, out_rs, fin_rt, fin_rs, fin_nx, if_true, Bool.false_eq_true, if_false, Bool.not_true, Bool.not_false, decide_true, decide_false, nopS_eq, addD_int, subD_int, negD_int, ltD_int, leD_int, gtD_int, geD_int, eqD_int, neD_int, eqD_str, neD_str, lenD_lst, lenD_tup, lenD_scr, max2D_int, min2D_int, asSeq_lst, asSeq_tup, asSeq_str, binN_eq, frzS_eq, appS_eq, ixO_eq, stoS_eq, lenO_eq, asgU_eq, tgU_tup, tgU_lst, tgP_tup, asg2_eq, chn_eq, lnk_bl, isID_int, isID_bl, isID_non, isBD_int, isBD_bl, isBD_non, isPD_tup, isLD_lst, isLD_str, enumD_lst, zipD_lst, List.map_cons, List.map_nil, List.replicate_succ, List.replicate_zero, List.cons_append, List.nil_append])]
  have n0 : 0 ≤ more / 8 % (most + 1) := Int.emod_nonneg _ (by omega)
  have n1 : more / 8 % (most + 1) < most + 1 := Int.emod_lt_of_pos _ (by omega)
  obtain ⟨δ', ef, t, s4, s5, tl, tm, rfl⟩ := for_inv (g := tgN 4) (xs := Dn.upTo 0 (more / 8 % (most + 1)).toNat) (δ := [.val (.int more), .val (.int most), .val (.str L), .val (.str []), .no, .no])
    (b := seqS (asg 5 (app d__law_drawn (consA (vr 0) (consA (vr 4) (nilA))))) (ifS (tst (bin gtD (bin modD (vr 5) (cst (.int 3))) (cst (.int 0)))) (asg 3 (bin addD (vr 3) (bin ixD (vr 2) (bin modD (bin fdivD (vr 5) (cst (.int 8))) (app min2D (consA (app lenD (consA (vr 2) (nilA))) (consA (cst (.int 2)) (nilA)))))))) (asg 3 (bin addD (vr 3) (bin ixD (vr 2) (bin modD (bin fdivD (vr 5) (cst (.int 8))) (app lenD (consA (vr 2) (nilA)))))))))
    (I := fun i δ => ∃ t s4 s5, t.length = i ∧ (∀ c ∈ t, c ∈ L) ∧ δ = [.val (.int more), .val (.int most), .val (.str L), .val (.str t), s4, s5]) 0 ⟨[], _, _, rfl, fun c hc => (by cases hc), rfl⟩ (fun i x δ hx hI => by
      obtain ⟨t, s4, s5, tl, tm, rfl⟩ := hI
      obtain ⟨hi, rfl⟩ := upTo_get hx
      rw [Nat.zero_add] at tl ⊢
      generalize hz : dz more (0 + (i : Int)) = z
      have add : ∀ c : Nat, addD (.str t) (.str [c]) = .ok (.str (t ++ [c])) := fun c => addD_str (by simp only [List.length_singleton, line]; omega)
      have fin : ∀ c ∈ L, ∃ t' s4 s5, t'.length = i + 1 ∧ (∀ c ∈ t', c ∈ L) ∧ [.val (.int more), .val (.int most), .val (.str L), .val (.str (t ++ [c])), .val (.int (0 + (i : Int))), .val (.int z)] = [Slot.val (.int more), .val (.int most), .val (.str L), .val (.str t'), s4, s5] := fun c hc => ⟨t ++ [c], _, _, by rw [List.length_append, tl]; rfl, fun d hd => by
        rcases List.mem_append.mp hd with q | q
        · exact tm d q
        · rw [List.mem_singleton.mp q]; exact hc, rfl⟩
      have e1 : 0 ≤ z / 8 % (min (L.length : Int) 2) := Int.emod_nonneg _ (by omega)
      have e2 : z / 8 % (min (L.length : Int) 2) < min (L.length : Int) 2 := Int.emod_lt_of_pos _ (by omega)
      have e3 : 0 ≤ z / 8 % (L.length : Int) := Int.emod_nonneg _ (by omega)
      have e4 : z / 8 % (L.length : Int) < (L.length : Int) := Int.emod_lt_of_pos _ (by omega)
      by_cases hc : 0 < z % 3
      · obtain ⟨c, _, hcm, hix⟩ := str_ix hll e1 (by omega)
        refine ⟨_, _, rfl, ?_, fin c hcm⟩
        show seqS _ _ [.val (.int more), .val (.int most), .val (.str L), .val (.str t), .val (.int (0 + (i : Int))), s5] = _
        rw [seq_to (δ' := [.val (.int more), .val (.int most), .val (.str L), .val (.str t), .val (.int (0 + (i : Int))), .val (.int z)]) (by simp only [seqS_eq, seq_nx, seq_rt, seq_rs, asg_eq, asgN_eq, drp_eq, retS_eq, retN_eq, rais_eq, ifS_eq, forF_eq, itS_eq, rngA_eq, vr_eq, cst_eq, bin_eq, un_eq, consA_eq, nilA_eq, app_eq, tst_eq, asB_bl, andT_eq, orT_eq, notT_eq, notD_bl, ifE_eq, newA_eq, lstE_eq, noP_eq, part_eq, asP_int, slc_eq, binS_eq, yes_eq, List.getElem?_cons_succ, List.getElem?_cons_zero, List.set, bind_ok, bind_rs, out_ok, out_rs, fin_rt, fin_rs, fin_nx, if_true, Bool.false_eq_true, if_false, Bool.not_true, Bool.not_false, decide_true, decide_false, nopS_eq, addD_int, subD_int, negD_int, ltD_int, leD_int, gtD_int, geD_int, eqD_int, neD_int, eqD_str, neD_str, lenD_lst, lenD_tup, lenD_scr, max2D_int, min2D_int, asSeq_lst, asSeq_tup, asSeq_str, binN_eq, frzS_eq, appS_eq, ixO_eq, stoS_eq, lenO_eq, asgU_eq, tgU_tup, tgU_lst, tgP_tup, asg2_eq, chn_eq, lnk_bl, isID_int, isID_bl, isID_non, isBD_int, isBD_bl, isBD_non, isPD_tup, isLD_lst, isLD_str, enumD_lst, zipD_lst, List.map_cons, List.map_nil, List.replicate_succ, List.replicate_zero, List.cons_append, List.nil_append, dz_is, hz])]
        simp only [seqS_eq, seq_nx, seq_rt, seq_rs, asg_eq, asgN_eq, drp_eq, retS_eq, retN_eq, rais_eq, ifS_eq, forF_eq, itS_eq, rngA_eq, vr_eq, cst_eq, bin_eq, un_eq, consA_eq, nilA_eq, app_eq, tst_eq, asB_bl, andT_eq, orT_eq, notT_eq, notD_bl, ifE_eq, newA_eq, lstE_eq, noP_eq, part_eq, asP_int, slc_eq, binS_eq, yes_eq, List.getElem?_cons_succ, List.getElem?_cons_zero, List.set, bind_ok, bind_rs, out_ok, out_rs, fin_rt, fin_rs, fin_nx, if_true, Bool.false_eq_true, if_false, Bool.not_true, Bool.not_false, decide_true, decide_false, nopS_eq, addD_int, subD_int, negD_int, ltD_int, leD_int, gtD_int, geD_int, eqD_int, neD_int, eqD_str, neD_str, lenD_lst, lenD_tup, lenD_scr, max2D_int, min2D_int, asSeq_lst, asSeq_tup, asSeq_str, binN_eq, frzS_eq, appS_eq, ixO_eq, stoS_eq, lenO_eq, asgU_eq, tgU_tup, tgU_lst, tgP_tup, asg2_eq, chn_eq, lnk_bl, isID_int, isID_bl, isID_non, isBD_int, isBD_bl, isBD_non, isPD_tup, isLD_lst, isLD_str, enumD_lst, zipD_lst, List.map_cons, List.map_nil, List.replicate_succ, List.replicate_zero, List.cons_append, List.nil_append, modD_int (show (0 : Int) < 3 by decide), decide_eq_true hc, fdivD_int (show (0 : Int) < 8 ∧ (8 : Int) < 2 ^ 200 by decide), lenD_str hll, modD_int (show (0 : Int) < min (L.length : Int) 2 by omega), hix, add]
      · obtain ⟨c, _, hcm, hix⟩ := str_ix hll e3 (by omega)
        refine ⟨_, _, rfl, ?_, fin c hcm⟩
        show seqS _ _ [.val (.int more), .val (.int most), .val (.str L), .val (.str t), .val (.int (0 + (i : Int))), s5] = _
        rw [seq_to (δ' := [.val (.int more), .val (.int most), .val (.str L), .val (.str t), .val (.int (0 + (i : Int))), .val (.int z)]) (by simp only [seqS_eq, seq_nx, seq_rt, seq_rs, asg_eq, asgN_eq, drp_eq, retS_eq, retN_eq, rais_eq, ifS_eq, forF_eq, itS_eq, rngA_eq, vr_eq, cst_eq, bin_eq, un_eq, consA_eq, nilA_eq, app_eq, tst_eq, asB_bl, andT_eq, orT_eq, notT_eq, notD_bl, ifE_eq, newA_eq, lstE_eq, noP_eq, part_eq, asP_int, slc_eq, binS_eq, yes_eq, List.getElem?_cons_succ, List.getElem?_cons_zero, List.set, bind_ok, bind_rs, out_ok, out_rs, fin_rt, fin_rs, fin_nx, if_true, Bool.false_eq_true, if_false, Bool.not_true, Bool.not_false, decide_true, decide_false, nopS_eq, addD_int, subD_int, negD_int, ltD_int, leD_int, gtD_int, geD_int, eqD_int, neD_int, eqD_str, neD_str, lenD_lst, lenD_tup, lenD_scr, max2D_int, min2D_int, asSeq_lst, asSeq_tup, asSeq_str, binN_eq, frzS_eq, appS_eq, ixO_eq, stoS_eq, lenO_eq, asgU_eq, tgU_tup, tgU_lst, tgP_tup, asg2_eq, chn_eq, lnk_bl, isID_int, isID_bl, isID_non, isBD_int, isBD_bl, isBD_non, isPD_tup, isLD_lst, isLD_str, enumD_lst, zipD_lst, List.map_cons, List.map_nil, List.replicate_succ, List.replicate_zero, List.cons_append, List.nil_append, dz_is, hz])]
        simp only [seqS_eq, seq_nx, seq_rt, seq_rs, asg_eq, asgN_eq, drp_eq, retS_eq, retN_eq, rais_eq, ifS_eq, forF_eq, itS_eq, rngA_eq, vr_eq, cst_eq, bin_eq, un_eq, consA_eq, nilA_eq, app_eq, tst_eq, asB_bl, andT_eq, orT_eq, notT_eq, notD_bl, ifE_eq, newA_eq, lstE_eq, noP_eq, part_eq, asP_int, slc_eq, binS_eq, yes_eq, List.getElem?_cons_succ, List.getElem?_cons_zero, List.set, bind_ok, bind_rs, out_ok, out_rs, fin_rt, fin_rs, fin_nx, if_true, Bool.false_eq_true, if_false, Bool.not_true, Bool.not_false, decide_true, decide_false, nopS_eq, addD_int, subD_int, negD_int, ltD_int, leD_int, gtD_int, geD_int, eqD_int, neD_int, eqD_str, neD_str, lenD_lst, lenD_tup, lenD_scr, max2D_int, min2D_int, asSeq_lst, asSeq_tup, asSeq_str, binN_eq, frzS_eq, appS_eq, ixO_eq, stoS_eq, lenO_eq, asgU_eq, tgU_tup, tgU_lst, tgP_tup, asg2_eq, chn_eq, lnk_bl, isID_int, isID_bl, isID_non, isBD_int, isBD_bl, isBD_non, isPD_tup, isLD_lst, isLD_str, enumD_lst, zipD_lst, List.map_cons, List.map_nil, List.replicate_succ, List.replicate_zero, List.cons_append, List.nil_append, modD_int (show (0 : Int) < 3 by decide), decide_eq_false hc, fdivD_int (show (0 : Int) < 8 ∧ (8 : Int) < 2 ^ 200 by decide), lenD_str hll, modD_int (show (0 : Int) < (L.length : Int) by omega), hix, add])
  rw [Nat.zero_add, upTo_len] at tl
  rw [seq_to (δ' := _) (by
    rw [← ef]
    simp only [forF_eq, rngA_eq, consA_eq, bin_eq, vr_eq, cst_eq, List.getElem?_cons_zero, List.getElem?_cons_succ, bind_ok, nilA_eq, fdivD_int (show (0 : Int) < 8 ∧ (8 : Int) < 2 ^ 200 by decide), addD_int, modD_int (show (0 : Int) < most + 1 by omega), rng1 (okI_of n0 (by omega)), out_ok])]
  refine ⟨t, L, hLm, by simp only [seqS_eq, seq_nx, seq_rt, seq_rs, asg_eq, asgN_eq, drp_eq, retS_eq, retN_eq, rais_eq, ifS_eq, forF_eq, itS_eq, rngA_eq, vr_eq, cst_eq, bin_eq, un_eq, consA_eq, nilA_eq, app_eq, tst_eq, asB_bl, andT_eq, orT_eq, notT_eq, notD_bl, ifE_eq, newA_eq, lstE_eq, noP_eq, part_eq, asP_int, slc_eq, binS_eq, yes_eq, List.getElem?_cons_succ, List.getElem?_cons_zero, List.set, bind_ok, bind_rs, out_ok, out_rs, fin_rt, fin_rs, fin_nx, if_true, Bool.false_eq_true, if_false, Bool.not_true, Bool.not_false, decide_true, decide_false, nopS_eq, addD_int, subD_int, negD_int, ltD_int, leD_int, gtD_int, geD_int, eqD_int, neD_int, eqD_str, neD_str, lenD_lst, lenD_tup, lenD_scr, max2D_int, min2D_int, asSeq_lst, asSeq_tup, asSeq_str, binN_eq, frzS_eq, appS_eq, ixO_eq, stoS_eq, lenO_eq, asgU_eq, tgU_tup, tgU_lst, tgP_tup, asg2_eq, chn_eq, lnk_bl, isID_int, isID_bl, isID_non, isBD_int, isBD_bl, isBD_non, isPD_tup, isLD_lst, isLD_str, enumD_lst, zipD_lst, List.map_cons, List.map_nil, List.replicate_succ, List.replicate_zero, List.cons_append, List.nil_append], by omega, tm⟩
theorem lawt_ok {t L : List Nat} (hL : L ∈ lets) (hl : t.length ≤ 400) (ht : ∀ c ∈ t, c ∈ L) : okT t = true ∧ (ltrs t).length < 64 := by
  obtain ⟨l1, l2, l3⟩ := lets_ok L hL
  constructor
  · unfold okT
    rw [Bool.and_eq_true]
    exact ⟨decide_eq_true (by omega), List.all_eq_true.mpr fun c hc => List.all_eq_true.mp l3 c (ht c hc)⟩
  · have := nodup_len (ltrs_nodup t) (m := L) fun x hx => ht x (ltrs_mem.mp hx)
    omega
/-! ### sorted signs -/
theorem ins_map {α β : Type} {lt : α → α → Bool} {lt' : β → β → Bool} {f : α → β} (h : ∀ a b, lt' (f a) (f b) = lt a b) (x : α) : ∀ l, insL lt' (f x) (l.map f) = (insL lt x l).map f
  | [] => rfl
  | y :: l => by
    rw [List.map_cons, insL, insL, h]
    by_cases c : lt y x = true
    · rw [if_pos c, if_pos c, ins_map h x l]; rfl
    · rw [if_neg c, if_neg c]; rfl
theorem srt_map {α β : Type} {lt : α → α → Bool} {lt' : β → β → Bool} {f : α → β} (h : ∀ a b, lt' (f a) (f b) = lt a b) : ∀ l, srtL lt' (l.map f) = (srtL lt l).map f
  | [] => rfl
  | x :: l => by rw [List.map_cons, srtL, srt_map h l, ins_map h]; rfl
theorem sorted_sgs (l : List Nat) : sortedD [.lst (sgs l)] = .ok (.lst (sgs (srtL ltN l))) := by
  have e : sgs l = (l.map fun c => [c]).map D.str := by unfold sgs; rw [List.map_map]; rfl
  rw [e, Dn.sorted_texts, srt_map (lt := ltN) (fun a b => decide_eq_decide.mpr one_lt), List.map_map]
  rfl
theorem srt_le (l : List Nat) : (srtL ltN l).Pairwise (· ≤ ·) := (srt_srtd swo_N _).imp fun {x y} h => by have := of_decide_eq_false h; omega
abbrev bc : D := .str [66, 97, 100, 67, 111, 100, 101]
abbrev bbD : D := .str [66, 97, 100, 66, 105, 116, 115]
theorem mk1 (a : D) : mkL [a] = .ok (.lst [a]) := mkL_ok (by show 1 ≤ line; decide)
theorem mk2 (a b : D) : mkL [a, b] = .ok (.lst [a, b]) := mkL_ok (by show 2 ≤ line; decide)
theorem mk3 (a b c : D) : mkL [a, b, c] = .ok (.lst [a, b, c]) := mkL_ok (by show 3 ≤ line; decide)
theorem mk4 (a b c d : D) : mkL [a, b, c, d] = .ok (.lst [a, b, c, d]) := mkL_ok (by show 4 ≤ line; decide)
theorem okT_many {l : List Nat} (h : 512 < l.length) : okT l = false := by
  unfold okT; rw [decide_eq_false (by omega)]; rfl
theorem told_app {f : List D → Res D} {fa : Sto → Res (List D)} {δ : Sto} {xs : List D} {d : D} (ha : fa δ = .ok xs) (h : f xs = .ok d) : told (app f fa) δ = .ok d := told_ok' (by rw [app_eq, ha, bind_ok, h])
theorem told_bx {f : List D → Res D} {fa : Sto → Res (List D)} {δ : Sto} {xs : List D} (ha : fa δ = .ok xs) (h : f xs = .rs "BadText") : told (app f fa) δ = .ok bx := told_BadText (by rw [app_eq, ha, bind_ok, h])
theorem told_bc {f : List D → Res D} {fa : Sto → Res (List D)} {δ : Sto} {xs : List D} (ha : fa δ = .ok xs) (h : f xs = .rs "BadCode") : told (app f fa) δ = .ok bc := told_BadCode (by rw [app_eq, ha, bind_ok, h])
theorem told_bb {f : List D → Res D} {fa : Sto → Res (List D)} {δ : Sto} {xs : List D} (ha : fa δ = .ok xs) (h : f xs = .rs "BadBits") : told (app f fa) δ = .ok bbD := told_BadBits (by rw [app_eq, ha, bind_ok, h])
theorem cat_told {δ : Sto} {fe : Sto → Res D} {xs : List D} {d : D} (h : δ[4]? = some (.val (.lst xs))) (hn : xs.length ≤ 100) (e : told fe δ = .ok d) :
    asg 4 (bin addD (vr 4) (app mkL (consA (told fe) nilA))) δ = .nx (δ.set 4 (.val (.lst (xs ++ [d])))) := by
  rw [asg_eq, bin_eq, vr_eq, h, app_eq, consA_eq, e]
  simp only [bind_ok, nilA_eq, mk1]
  rw [addD_lst (by simp only [List.length_singleton, line]; omega), out_ok]
theorem refused_is {lt fs : List Nat} (C : Code lt fs) (n : Nat) (bits : List Nat) (hb : bits.length ≤ 90000) : d__law_refused_right [.str lt, .lst (fsD fs), .int (n : Int), .str bits] = .ok (.bl true) := by
  have hf := C.few
  have hn := C.len
  have hl' : lt.length ≤ line := by simp only [line]; omega
  have l1 : 0 < lt.length := by
    cases q : fs with
    | nil => exact (C.ne q).elim
    | cons x r => rw [q] at hn; simp at hn; omega
  rw [d__law_refused_right, run_eq (by rfl)]; unfold b__law_refused_right
  show (seqS _ _ [.val (.str lt), .val (.lst (fsD fs)), .val (.int (n : Int)), .val (.str bits), .no, .no]).fin = _
  have ix0 := ix_lt hl' l1
  have ad0 : addD (.str lt) (.str [lt.getD 0 0]) = .ok (.str (lt ++ [lt.getD 0 0])) := addD_str (by simp only [List.length_singleton, line]; omega)
  have hm0 : lt.getD 0 0 ∈ lt := by rw [List.getD_eq_getElem?_getD, List.getElem?_eq_getElem l1, Option.getD_some]; exact List.getElem_mem l1
  have hll : ltrs (lt ++ [lt.getD 0 0]) = lt := by
    rw [C.up]
    refine lt_unique (ltrs_lt _) (ltrs_lt _) fun x => ?_
    rw [ltrs_mem, ltrs_mem, ← C.up, List.mem_append, List.mem_singleton]
    exact ⟨fun q => q.elim id (fun e => e ▸ hm0), .inl⟩
  have t1 : told (app d_decoded (consA (bin addD (vr 0) (bin ixD (vr 0) (cst (.int 0)))) (consA (vr 1) (consA (vr 2) (consA (cst (.str [120])) (nilA)))))) [.val (.str lt), .val (.lst (fsD fs)), .val (.int (n : Int)), .val (.str bits), .no, .no] = .ok bx :=
    told_bx (xs := [.str (lt ++ [lt.getD 0 0]), .lst (fsD fs), .int (n : Int), .str [120]]) (by
      have ix0' : ixD (.str lt) (.int 0) = .ok (.str [lt.getD 0 0]) := ix0
      simp only [seqS_eq, seq_nx, seq_rt, seq_rs, asg_eq, asgN_eq, drp_eq, retS_eq, retN_eq, rais_eq, ifS_eq, forF_eq, itS_eq, rngA_eq, vr_eq, cst_eq, bin_eq, un_eq, consA_eq, nilA_eq, app_eq, tst_eq, asB_bl, andT_eq, orT_eq, notT_eq, notD_bl, ifE_eq, newA_eq, lstE_eq, noP_eq, part_eq, asP_int, slc_eq, binS_eq, yes_eq, List.getElem?_cons_succ, List.getElem?_cons_zero, List.set, bind_ok, bind_rs, out_ok, out_rs, fin_rt, fin_rs, fin_nx, if_true, Bool.false_eq_true, if_false, Bool.not_true, Bool.not_false, decide_true, decide_false, nopS_eq, addD_int, subD_int, negD_int, ltD_int, leD_int, gtD_int, geD_int, eqD_int, neD_int, eqD_str, neD_str, lenD_lst, lenD_tup, lenD_scr, max2D_int, min2D_int, asSeq_lst, asSeq_tup, asSeq_str, binN_eq, frzS_eq, appS_eq, ixO_eq, stoS_eq, lenO_eq, asgU_eq, tgU_tup, tgU_lst, tgP_tup, asg2_eq, chn_eq, lnk_bl, isID_int, isID_bl, isID_non, isBD_int, isBD_bl, isBD_non, isPD_tup, isLD_lst, isLD_str, enumD_lst, zipD_lst, List.map_cons, List.map_nil, List.replicate_succ, List.replicate_zero, List.cons_append, List.nil_append, ix0', ad0]) (decoded_badt _ (by rw [List.length_append, List.length_singleton]; omega) (by rw [hll]; exact hf) (fun q => by
        have := congrArg List.length q.2
        rw [hll, List.length_append, List.length_singleton] at this
        omega) _ _ _)
  rw [seq_to (δ' := [.val (.str lt), .val (.lst (fsD fs)), .val (.int (n : Int)), .val (.str bits), .val (.lst [bx]), .no]) (by
    rw [asg_eq, app_eq, consA_eq, t1]
    simp only [bind_ok, nilA_eq, mk1, out_ok, List.set])]
  have ad1 : addD (.lst (fsD fs)) (.lst [.int 1]) = .ok (.lst (fsD fs ++ [.int 1])) := addD_lst (by rw [fsD_len]; simp only [line, List.length_singleton]; omega)
  rw [seq_to (cat_told (xs := [bx]) rfl (by decide) (told_bc (xs := [.str lt, .lst (fsD fs ++ [.int 1]), .int (n : Int), .str [120]]) (by simp only [seqS_eq, seq_nx, seq_rt, seq_rs, asg_eq, asgN_eq, drp_eq, retS_eq, retN_eq, rais_eq, ifS_eq, forF_eq, itS_eq, rngA_eq, vr_eq, cst_eq, bin_eq, un_eq, consA_eq, nilA_eq, app_eq, tst_eq, asB_bl, andT_eq, orT_eq, notT_eq, notD_bl, ifE_eq, newA_eq, lstE_eq, noP_eq, part_eq, asP_int, slc_eq, binS_eq, yes_eq, List.getElem?_cons_succ, List.getElem?_cons_zero, List.set, bind_ok, bind_rs, out_ok, out_rs, fin_rt, fin_rs, fin_nx, if_true, Bool.false_eq_true, if_false, Bool.not_true, Bool.not_false, decide_true, decide_false, nopS_eq, addD_int, subD_int, negD_int, ltD_int, leD_int, gtD_int, geD_int, eqD_int, neD_int, eqD_str, neD_str, lenD_lst, lenD_tup, lenD_scr, max2D_int, min2D_int, asSeq_lst, asSeq_tup, asSeq_str, binN_eq, frzS_eq, appS_eq, ixO_eq, stoS_eq, lenO_eq, asgU_eq, tgU_tup, tgU_lst, tgP_tup, asg2_eq, chn_eq, lnk_bl, isID_int, isID_bl, isID_non, isBD_int, isBD_bl, isBD_non, isPD_tup, isLD_lst, isLD_str, enumD_lst, zipD_lst, List.map_cons, List.map_nil, List.replicate_succ, List.replicate_zero, List.cons_append, List.nil_append, mk1, ad1]) (decoded_badc lt (by omega) C.lts ⟨C.sg, C.up⟩ _ (.inl (by rw [List.length_append, fsD_len, List.length_singleton]; omega)) _ _)))]
  have nf : ¬ fills [1, 2] := by unfold fills; decide
  have wb : d_words [.lst [.int 1, .int 2]] = .rs "BadCode" := by
    have nl := need_lengths_is [1, 2] (by decide) (by decide) (by decide)
    rw [if_neg nf] at nl
    exact words_bad _ nl
  have ab : ltrs [97, 98] = [97, 98] := by decide
  rw [seq_to (cat_told (xs := [bx, bc]) rfl (by decide) (told_bc (xs := [.str [97, 98], .lst [.int 1, .int 2], .int (n : Int), .str [120]]) (by
    show consA _ _ [.val (.str lt), .val (.lst (fsD fs)), .val (.int (n : Int)), .val (.str bits), .val (.lst [bx, bc]), .no] = _
    simp only [seqS_eq, seq_nx, seq_rt, seq_rs, asg_eq, asgN_eq, drp_eq, retS_eq, retN_eq, rais_eq, ifS_eq, forF_eq, itS_eq, rngA_eq, vr_eq, cst_eq, bin_eq, un_eq, consA_eq, nilA_eq, app_eq, tst_eq, asB_bl, andT_eq, orT_eq, notT_eq, notD_bl, ifE_eq, newA_eq, lstE_eq, noP_eq, part_eq, asP_int, slc_eq, binS_eq, yes_eq, List.getElem?_cons_succ, List.getElem?_cons_zero, List.set, bind_ok, bind_rs, out_ok, out_rs, fin_rt, fin_rs, fin_nx, if_true, Bool.false_eq_true, if_false, Bool.not_true, Bool.not_false, decide_true, decide_false, nopS_eq, addD_int, subD_int, negD_int, ltD_int, leD_int, gtD_int, geD_int, eqD_int, neD_int, eqD_str, neD_str, lenD_lst, lenD_tup, lenD_scr, max2D_int, min2D_int, asSeq_lst, asSeq_tup, asSeq_str, binN_eq, frzS_eq, appS_eq, ixO_eq, stoS_eq, lenO_eq, asgU_eq, tgU_tup, tgU_lst, tgP_tup, asg2_eq, chn_eq, lnk_bl, isID_int, isID_bl, isID_non, isBD_int, isBD_bl, isBD_non, isPD_tup, isLD_lst, isLD_str, enumD_lst, zipD_lst, List.map_cons, List.map_nil, List.replicate_succ, List.replicate_zero, List.cons_append, List.nil_append, mk2]) (decoded_badc [97, 98] (by decide) (by rw [ab]; decide) ⟨by decide, ab.symm⟩ _ (.inr wb) _ _)))]
  have ad2 : addD (.str bits) (.str [120]) = .ok (.str (bits ++ [120])) := addD_str (by simp only [List.length_singleton, line]; omega)
  rw [seq_to (cat_told (xs := [bx, bc, bc]) rfl (by decide) (told_bb (xs := [.str lt, .lst (fsD fs), .int (n : Int), .str (bits ++ [120])]) (by
    show consA _ _ [.val (.str lt), .val (.lst (fsD fs)), .val (.int (n : Int)), .val (.str bits), .val (.lst [bx, bc, bc]), .no] = _
    simp only [seqS_eq, seq_nx, seq_rt, seq_rs, asg_eq, asgN_eq, drp_eq, retS_eq, retN_eq, rais_eq, ifS_eq, forF_eq, itS_eq, rngA_eq, vr_eq, cst_eq, bin_eq, un_eq, consA_eq, nilA_eq, app_eq, tst_eq, asB_bl, andT_eq, orT_eq, notT_eq, notD_bl, ifE_eq, newA_eq, lstE_eq, noP_eq, part_eq, asP_int, slc_eq, binS_eq, yes_eq, List.getElem?_cons_succ, List.getElem?_cons_zero, List.set, bind_ok, bind_rs, out_ok, out_rs, fin_rt, fin_rs, fin_nx, if_true, Bool.false_eq_true, if_false, Bool.not_true, Bool.not_false, decide_true, decide_false, nopS_eq, addD_int, subD_int, negD_int, ltD_int, leD_int, gtD_int, geD_int, eqD_int, neD_int, eqD_str, neD_str, lenD_lst, lenD_tup, lenD_scr, max2D_int, min2D_int, asSeq_lst, asSeq_tup, asSeq_str, binN_eq, frzS_eq, appS_eq, ixO_eq, stoS_eq, lenO_eq, asgU_eq, tgU_tup, tgU_lst, tgP_tup, asg2_eq, chn_eq, lnk_bl, isID_int, isID_bl, isID_non, isBD_int, isBD_bl, isBD_non, isPD_tup, isLD_lst, isLD_str, enumD_lst, zipD_lst, List.map_cons, List.map_nil, List.replicate_succ, List.replicate_zero, List.cons_append, List.nil_append, ad2]) (decoded_badb C _ _ (by rw [List.length_append, List.length_singleton]; omega) (fun q => by
      have := q.1 120 (List.mem_append_right _ List.mem_cons_self)
      rcases this with e | e <;> cases e))))]
  have ne1 : neD (.lst [bx, bc, bc, bbD]) (.lst [bx, bc, bc, bbD]) = .ok (.bl false) := neD_self (by decide +kernel)
  rw [seq_to (δ' := [.val (.str lt), .val (.lst (fsD fs)), .val (.int (n : Int)), .val (.str bits), .val (.lst [bx, bc, bc, bbD]), .no]) (by
    show ifS _ _ _ [.val (.str lt), .val (.lst (fsD fs)), .val (.int (n : Int)), .val (.str bits), .val (.lst [bx, bc, bc, bbD]), .no] = _
    simp only [seqS_eq, seq_nx, seq_rt, seq_rs, asg_eq, asgN_eq, drp_eq, retS_eq, retN_eq, rais_eq, ifS_eq, forF_eq, itS_eq, rngA_eq, vr_eq, cst_eq, bin_eq, un_eq, consA_eq, nilA_eq, app_eq, tst_eq, asB_bl, andT_eq, orT_eq, notT_eq, notD_bl, ifE_eq, newA_eq, lstE_eq, noP_eq, part_eq, asP_int, slc_eq, binS_eq, yes_eq, List.getElem?_cons_succ, List.getElem?_cons_zero, List.set, bind_ok, bind_rs, out_ok, out_rs, fin_rt, fin_rs, fin_nx, if_true, Bool.false_eq_true, if_false, Bool.not_true, Bool.not_false, decide_true, decide_false, nopS_eq, addD_int, subD_int, negD_int, ltD_int, leD_int, gtD_int, geD_int, eqD_int, neD_int, eqD_str, neD_str, lenD_lst, lenD_tup, lenD_scr, max2D_int, min2D_int, asSeq_lst, asSeq_tup, asSeq_str, binN_eq, frzS_eq, appS_eq, ixO_eq, stoS_eq, lenO_eq, asgU_eq, tgU_tup, tgU_lst, tgP_tup, asg2_eq, chn_eq, lnk_bl, isID_int, isID_bl, isID_non, isBD_int, isBD_bl, isBD_non, isPD_tup, isLD_lst, isLD_str, enumD_lst, zipD_lst, List.map_cons, List.map_nil, List.replicate_succ, List.replicate_zero, List.cons_append, List.nil_append, mk4, ne1])]
  rw [seq_to (new_t (told_bx (xs := [.str []]) rfl (coded_bad [] (by decide) (.inr rfl))))]
  rw [seq_to (app_t (xs := [bx]) rfl (by decide) (told_bx (xs := [.str [97, 10]]) rfl (coded_bad [97, 10] (by decide) (.inl rfl))))]
  have m3 : mulD (.str [97]) (.int 513) = .ok (.str (repL 513 [97])) := mul_str ⟨by decide, by decide, by decide⟩
  have cb := coded_bad (repL 513 [97]) (by rw [rep_len]; decide) (.inl (okT_many (by rw [rep_len]; decide)))
  generalize repL 513 [97] = big at m3 cb
  rw [seq_to (cat_t (xs := [bx, bx]) rfl (by show 5 < 6; decide) (by decide) (told_bx (xs := [.str big]) (by simp only [seqS_eq, seq_nx, seq_rt, seq_rs, asg_eq, asgN_eq, drp_eq, retS_eq, retN_eq, rais_eq, ifS_eq, forF_eq, itS_eq, rngA_eq, vr_eq, cst_eq, bin_eq, un_eq, consA_eq, nilA_eq, app_eq, tst_eq, asB_bl, andT_eq, orT_eq, notT_eq, notD_bl, ifE_eq, newA_eq, lstE_eq, noP_eq, part_eq, asP_int, slc_eq, binS_eq, yes_eq, List.getElem?_cons_succ, List.getElem?_cons_zero, List.set, bind_ok, bind_rs, out_ok, out_rs, fin_rt, fin_rs, fin_nx, if_true, Bool.false_eq_true, if_false, Bool.not_true, Bool.not_false, decide_true, decide_false, nopS_eq, addD_int, subD_int, negD_int, ltD_int, leD_int, gtD_int, geD_int, eqD_int, neD_int, eqD_str, neD_str, lenD_lst, lenD_tup, lenD_scr, max2D_int, min2D_int, asSeq_lst, asSeq_tup, asSeq_str, binN_eq, frzS_eq, appS_eq, ixO_eq, stoS_eq, lenO_eq, asgU_eq, tgU_tup, tgU_lst, tgP_tup, asg2_eq, chn_eq, lnk_bl, isID_int, isID_bl, isID_non, isBD_int, isBD_bl, isBD_non, isPD_tup, isLD_lst, isLD_str, enumD_lst, zipD_lst, List.map_cons, List.map_nil, List.replicate_succ, List.replicate_zero, List.cons_append, List.nil_append, m3]) cb))]
  have td := told_bx (f := d_decoded) (fa := consA (cst (.str [97, 10])) (consA (app mkL (consA (cst (.int 1)) (consA (cst (.int 1)) (nilA)))) (consA (cst (.int 1)) (consA (cst (.str [48])) (nilA))))) (δ := [.val (.str lt), .val (.lst (fsD fs)), .val (.int (n : Int)), .val (.str bits), .val (.lst [bx, bc, bc, bbD]), .val (.lst [bx, bx, bx])]) (xs := [.str [97, 10], .lst [.int 1, .int 1], .int 1, .str [48]]) (by simp only [seqS_eq, seq_nx, seq_rt, seq_rs, asg_eq, asgN_eq, drp_eq, retS_eq, retN_eq, rais_eq, ifS_eq, forF_eq, itS_eq, rngA_eq, vr_eq, cst_eq, bin_eq, un_eq, consA_eq, nilA_eq, app_eq, tst_eq, asB_bl, andT_eq, orT_eq, notT_eq, notD_bl, ifE_eq, newA_eq, lstE_eq, noP_eq, part_eq, asP_int, slc_eq, binS_eq, yes_eq, List.getElem?_cons_succ, List.getElem?_cons_zero, List.set, bind_ok, bind_rs, out_ok, out_rs, fin_rt, fin_rs, fin_nx, if_true, Bool.false_eq_true, if_false, Bool.not_true, Bool.not_false, decide_true, decide_false, nopS_eq, addD_int, subD_int, negD_int, ltD_int, leD_int, gtD_int, geD_int, eqD_int, neD_int, eqD_str, neD_str, lenD_lst, lenD_tup, lenD_scr, max2D_int, min2D_int, asSeq_lst, asSeq_tup, asSeq_str, binN_eq, frzS_eq, appS_eq, ixO_eq, stoS_eq, lenO_eq, asgU_eq, tgU_tup, tgU_lst, tgP_tup, asg2_eq, chn_eq, lnk_bl, isID_int, isID_bl, isID_non, isBD_int, isBD_bl, isBD_non, isPD_tup, isLD_lst, isLD_str, enumD_lst, zipD_lst, List.map_cons, List.map_nil, List.replicate_succ, List.replicate_zero, List.cons_append, List.nil_append, mk2]) (decoded_badt [97, 10] (by decide) (by decide) (by decide) _ _ _)
  have add4 : addD (.lst [bx, bx, bx]) (.lst [bx]) = .ok (.lst [bx, bx, bx, bx]) := addD_lst (by show 4 ≤ line; decide)
  have mul4 : mulD (.lst [bx]) (.int 4) = .ok (.lst [bx, bx, bx, bx]) := by rfl
  have ne4 : neD (.lst [bx, bx, bx, bx]) (.lst [bx, bx, bx, bx]) = .ok (.bl false) := neD_self (by decide +kernel)
  rw [seq_to (δ' := [.val (.str lt), .val (.lst (fsD fs)), .val (.int (n : Int)), .val (.str bits), .val (.lst [bx, bc, bc, bbD]), .val (.lst [bx, bx, bx])]) (by
    show frzS 5 _ [.val (.str lt), .val (.lst (fsD fs)), .val (.int (n : Int)), .val (.str bits), .val (.lst [bx, bc, bc, bbD]), .own [bx, bx, bx]] = _
    rw [frzS_eq]
    show ifS _ _ _ [.val (.str lt), .val (.lst (fsD fs)), .val (.int (n : Int)), .val (.str bits), .val (.lst [bx, bc, bc, bbD]), .val (.lst [bx, bx, bx])] = _
    rw [ifS_eq, tst_eq, bin_eq, bin_eq, vr_eq, app_eq, consA_eq, td]
    simp only [seqS_eq, seq_nx, seq_rt, seq_rs, asg_eq, asgN_eq, drp_eq, retS_eq, retN_eq, rais_eq, ifS_eq, forF_eq, itS_eq, rngA_eq, vr_eq, cst_eq, bin_eq, un_eq, consA_eq, nilA_eq, app_eq, tst_eq, asB_bl, andT_eq, orT_eq, notT_eq, notD_bl, ifE_eq, newA_eq, lstE_eq, noP_eq, part_eq, asP_int, slc_eq, binS_eq, yes_eq, List.getElem?_cons_succ, List.getElem?_cons_zero, List.set, bind_ok, bind_rs, out_ok, out_rs, fin_rt, fin_rs, fin_nx, if_true, Bool.false_eq_true, if_false, Bool.not_true, Bool.not_false, decide_true, decide_false, nopS_eq, addD_int, subD_int, negD_int, ltD_int, leD_int, gtD_int, geD_int, eqD_int, neD_int, eqD_str, neD_str, lenD_lst, lenD_tup, lenD_scr, max2D_int, min2D_int, asSeq_lst, asSeq_tup, asSeq_str, binN_eq, frzS_eq, appS_eq, ixO_eq, stoS_eq, lenO_eq, asgU_eq, tgU_tup, tgU_lst, tgP_tup, asg2_eq, chn_eq, lnk_bl, isID_int, isID_bl, isID_non, isBD_int, isBD_bl, isBD_non, isPD_tup, isLD_lst, isLD_str, enumD_lst, zipD_lst, List.map_cons, List.map_nil, List.replicate_succ, List.replicate_zero, List.cons_append, List.nil_append, mk1, add4, mul4, ne4])]
  simp only [seqS_eq, seq_nx, seq_rt, seq_rs, asg_eq, asgN_eq, drp_eq, retS_eq, retN_eq, rais_eq, ifS_eq, forF_eq, itS_eq, rngA_eq, vr_eq, cst_eq, bin_eq, un_eq, consA_eq, nilA_eq, app_eq, tst_eq, asB_bl, andT_eq, orT_eq, notT_eq, notD_bl, ifE_eq, newA_eq, lstE_eq, noP_eq, part_eq, asP_int, slc_eq, binS_eq, yes_eq, List.getElem?_cons_succ, List.getElem?_cons_zero, List.set, bind_ok, bind_rs, out_ok, out_rs, fin_rt, fin_rs, fin_nx, if_true, Bool.false_eq_true, if_false, Bool.not_true, Bool.not_false, decide_true, decide_false, nopS_eq, addD_int, subD_int, negD_int, ltD_int, leD_int, gtD_int, geD_int, eqD_int, neD_int, eqD_str, neD_str, lenD_lst, lenD_tup, lenD_scr, max2D_int, min2D_int, asSeq_lst, asSeq_tup, asSeq_str, binN_eq, frzS_eq, appS_eq, ixO_eq, stoS_eq, lenO_eq, asgU_eq, tgU_tup, tgU_lst, tgP_tup, asg2_eq, chn_eq, lnk_bl, isID_int, isID_bl, isID_non, isBD_int, isBD_bl, isBD_non, isPD_tup, isLD_lst, isLD_str, enumD_lst, zipD_lst, List.map_cons, List.map_nil, List.replicate_succ, List.replicate_zero, List.cons_append, List.nil_append]
end Lw


set_option Elab.async false
set_option linter.all false
set_option maxRecDepth 100000
set_option maxHeartbeats 4000000
namespace Lw
open PySem PySem.Spec L2 Dn
theorem told_dec {lt fs : List Nat} (C : Code lt fs) (n : Nat) (h1 : 1 ≤ n) (h2 : n ≤ 512) (bits : List Nat) (hb : bits.length ≤ 100000) (hbit : ∀ c ∈ bits, isBit c) {fa : Sto → Res (List D)} {δ : Sto} (ha : fa δ = .ok [.str lt, .lst (fsD fs), .int (n : Int), .str bits]) : told (app d_decoded fa) δ = .ok (.str ((rd (wds fs) lt n bits).getD bb)) := by
  have e := decoded_is C n h1 h2 bits hb hbit
  cases q : rd (wds fs) lt n bits with
  | none => rw [q] at e; exact told_bb ha e
  | some t => rw [q] at e; exact told_app ha e
theorem body_ok (ns : List Int) (hns : ns.length ≤ 63) (k : Int) (hk : 0 ≤ k) (hk1 : k ≤ 10) (s2 s3 s4 s5 s6 s7 s8 s9 s10 s11 s12 s13 s14 s15 : Slot) :
    ∃ t1 t2 t3 t4 t5 t6 t7 t8 t9 t10 t11 t12 t13 t14 t15, lp_law_1 [.val (.scr ns), .val (.int k), s2, s3, s4, s5, s6, s7, s8, s9, s10, s11, s12, s13, s14, s15] = .nx [.val (.scr ns), t1, t2, t3, t4, t5, t6, t7, t8, t9, t10, t11, t12, t13, t14, t15] := by
  unfold lp_law_1
  obtain ⟨z, hz⟩ := cell_is ns hns k hk (by omega)
  generalize hmore : dz z k = more
  have m0 : 0 ≤ more := hmore ▸ dz_0 z k
  rw [seq_to (δ' := [.val (.scr ns), .val (.int k), .val (.int more), s3, s4, s5, s6, s7, s8, s9, s10, s11, s12, s13, s14, s15]) (by simp only [seqS_eq, seq_nx, seq_rt, seq_rs, asg_eq, asgN_eq, drp_eq, retS_eq, retN_eq, rais_eq, ifS_eq, forF_eq, itS_eq, rngA_eq, vr_eq, cst_eq, bin_eq, un_eq, consA_eq, nilA_eq, app_eq, tst_eq, asB_bl, andT_eq, orT_eq, notT_eq, notD_bl, ifE_eq, newA_eq, lstE_eq, noP_eq, part_eq, asP_int, slc_eq, binS_eq, yes_eq, List.getElem?_cons_succ, List.getElem?_cons_zero, List.set, bind_ok, bind_rs, out_ok, out_rs, fin_rt, fin_rs, fin_nx, if_true, Bool.false_eq_true, if_false, Bool.not_true, Bool.not_false, decide_true, decide_false, nopS_eq, addD_int, subD_int, negD_int, ltD_int, leD_int, gtD_int, geD_int, eqD_int, neD_int, eqD_str, neD_str, lenD_lst, lenD_tup, lenD_scr, max2D_int, min2D_int, asSeq_lst, asSeq_tup, asSeq_str, binN_eq, frzS_eq, appS_eq, ixO_eq, stoS_eq, lenO_eq, asgU_eq, tgU_tup, tgU_lst, tgP_tup, asg2_eq, chn_eq, lnk_bl, isID_int, isID_bl, isID_non, isBD_int, isBD_bl, isBD_non, isPD_tup, isLD_lst, isLD_str, enumD_lst, zipD_lst, List.map_cons, List.map_nil, List.replicate_succ, List.replicate_zero, List.cons_append, List.nil_append, hz, dz_is, hmore])]
  obtain ⟨t0, L, hL, et, htl, htm⟩ := law_text_is more 89 m0 (by decide) (by decide)
  have ade : addD (.str t0) (.str [101]) = .ok (.str (t0 ++ [101])) := addD_str (by simp only [List.length_singleton, line]; omega)
  have h90 : (t0 ++ [101]).length ≤ 90 := by rw [List.length_append, List.length_singleton]; omega
  have hne : t0 ++ [101] ≠ [] := by intro q; simp at q
  obtain ⟨l1, l2, l3⟩ := lets_ok L hL
  have hin : ∀ c ∈ t0 ++ [101], c ∈ L ++ [101] := fun c hc => by
    rcases List.mem_append.mp hc with q | q
    · exact List.mem_append_left _ (htm c q)
    · exact List.mem_append_right _ q
  have ok : okT (t0 ++ [101]) = true := by
    unfold okT
    rw [Bool.and_eq_true]
    refine ⟨decide_eq_true (by omega), List.all_eq_true.mpr fun c hc => ?_⟩
    rcases List.mem_append.mp (hin c hc) with q | q
    · exact List.all_eq_true.mp l3 c q
    · rw [List.mem_singleton.mp q]; rfl
  have h64 : (ltrs (t0 ++ [101])).length < 64 := by
    have := nodup_len (ltrs_nodup (t0 ++ [101])) (m := L ++ [101]) fun x hx => hin x (ltrs_mem.mp hx)
    rw [List.length_append, List.length_singleton] at this
    omega
  have tpos : 1 ≤ (t0 ++ [101]).length := by rw [List.length_append, List.length_singleton]; omega
  rw [seq_to (δ' := [.val (.scr ns), .val (.int k), .val (.int more), .val (.str (t0 ++ [101])), s4, s5, s6, s7, s8, s9, s10, s11, s12, s13, s14, s15]) (by simp only [seqS_eq, seq_nx, seq_rt, seq_rs, asg_eq, asgN_eq, drp_eq, retS_eq, retN_eq, rais_eq, ifS_eq, forF_eq, itS_eq, rngA_eq, vr_eq, cst_eq, bin_eq, un_eq, consA_eq, nilA_eq, app_eq, tst_eq, asB_bl, andT_eq, orT_eq, notT_eq, notD_bl, ifE_eq, newA_eq, lstE_eq, noP_eq, part_eq, asP_int, slc_eq, binS_eq, yes_eq, List.getElem?_cons_succ, List.getElem?_cons_zero, List.set, bind_ok, bind_rs, out_ok, out_rs, fin_rt, fin_rs, fin_nx, if_true, Bool.false_eq_true, if_false, Bool.not_true, Bool.not_false, decide_true, decide_false, nopS_eq, addD_int, subD_int, negD_int, ltD_int, leD_int, gtD_int, geD_int, eqD_int, neD_int, eqD_str, neD_str, lenD_lst, lenD_tup, lenD_scr, max2D_int, min2D_int, asSeq_lst, asSeq_tup, asSeq_str, binN_eq, frzS_eq, appS_eq, ixO_eq, stoS_eq, lenO_eq, asgU_eq, tgU_tup, tgU_lst, tgP_tup, asg2_eq, chn_eq, lnk_bl, isID_int, isID_bl, isID_non, isBD_int, isBD_bl, isBD_non, isPD_tup, isLD_lst, isLD_str, enumD_lst, zipD_lst, List.map_cons, List.map_nil, List.replicate_succ, List.replicate_zero, List.cons_append, List.nil_append, et, ade])]
  generalize t0 ++ [101] = t at *
  have hl' : t.length ≤ line := by simp only [line]; omega
  have lle : (ltrs t).length ≤ line := by simp only [line]; omega
  obtain ⟨fs, C, hw, ec⟩ := coded_is t ok hne h64
  have ebit := enc_bit (wds_bit fs) (ltrs t) t
  have ele := enc_le C.bits (ltrs t) t
  have ele2 : t.length * 94 ≤ 90 * 94 := Nat.mul_le_mul_right _ h90
  have elen := enc_len (ltrs_nodup t) C.len C.at_ (t := t) fun c hc => ltrs_mem.mpr hc
  have erd := rd_enc (wds_pf fs C.le C.fl) C.wl (t := t) fun c hc => ltrs_mem.mpr hc
  generalize hB : enc (wds fs) (ltrs t) t = B at *
  have hBl : B.length ≤ line := by simp only [line]; omega
  have tc := told_app (f := d_coded) (fa := consA (vr 3) (nilA)) (δ := [.val (.scr ns), .val (.int k), .val (.int more), .val (.str t), s4, s5, s6, s7, s8, s9, s10, s11, s12, s13, s14, s15]) (xs := [.str t]) rfl ec
  rw [seq_to (δ' := [.val (.scr ns), .val (.int k), .val (.int more), .val (.str t), .val (.tup [.str (ltrs t), .lst (fsD fs), .int (t.length : Int), .str B]), s5, s6, s7, s8, s9, s10, s11, s12, s13, s14, s15]) (by rw [asg_eq, tc]; rfl)]
  rw [seq_to (δ' := [.val (.scr ns), .val (.int k), .val (.int more), .val (.str t), .val (.tup [.str (ltrs t), .lst (fsD fs), .int (t.length : Int), .str B]), s5, s6, s7, s8, s9, s10, s11, s12, s13, s14, s15]) (by
    simp only [seqS_eq, seq_nx, seq_rt, seq_rs, asg_eq, asgN_eq, drp_eq, retS_eq, retN_eq, rais_eq, ifS_eq, forF_eq, itS_eq, rngA_eq, vr_eq, cst_eq, bin_eq, un_eq, consA_eq, nilA_eq, app_eq, tst_eq, asB_bl, andT_eq, orT_eq, notT_eq, notD_bl, ifE_eq, newA_eq, lstE_eq, noP_eq, part_eq, asP_int, slc_eq, binS_eq, yes_eq, List.getElem?_cons_succ, List.getElem?_cons_zero, List.set, bind_ok, bind_rs, out_ok, out_rs, fin_rt, fin_rs, fin_nx, if_true, Bool.false_eq_true, if_false, Bool.not_true, Bool.not_false, decide_true, decide_false, nopS_eq, addD_int, subD_int, negD_int, ltD_int, leD_int, gtD_int, geD_int, eqD_int, neD_int, eqD_str, neD_str, lenD_lst, lenD_tup, lenD_scr, max2D_int, min2D_int, asSeq_lst, asSeq_tup, asSeq_str, binN_eq, frzS_eq, appS_eq, ixO_eq, stoS_eq, lenO_eq, asgU_eq, tgU_tup, tgU_lst, tgP_tup, asg2_eq, chn_eq, lnk_bl, isID_int, isID_bl, isID_non, isBD_int, isBD_bl, isBD_non, isPD_tup, isLD_lst, isLD_str, enumD_lst, zipD_lst, List.map_cons, List.map_nil, List.replicate_succ, List.replicate_zero, List.cons_append, List.nil_append]; rfl)]
  rw [seq_to (δ' := [.val (.scr ns), .val (.int k), .val (.int more), .val (.str t), .val (.tup [.str (ltrs t), .lst (fsD fs), .int (t.length : Int), .str B]), .val (.str (ltrs t)), .val (.lst (fsD fs)), .val (.int (t.length : Int)), .val (.str B), s9, s10, s11, s12, s13, s14, s15]) (by
    simp only [seqS_eq, seq_nx, seq_rt, seq_rs, asg_eq, asgN_eq, drp_eq, retS_eq, retN_eq, rais_eq, ifS_eq, forF_eq, itS_eq, rngA_eq, vr_eq, cst_eq, bin_eq, un_eq, consA_eq, nilA_eq, app_eq, tst_eq, asB_bl, andT_eq, orT_eq, notT_eq, notD_bl, ifE_eq, newA_eq, lstE_eq, noP_eq, part_eq, asP_int, slc_eq, binS_eq, yes_eq, List.getElem?_cons_succ, List.getElem?_cons_zero, List.set, bind_ok, bind_rs, out_ok, out_rs, fin_rt, fin_rs, fin_nx, if_true, Bool.false_eq_true, if_false, Bool.not_true, Bool.not_false, decide_true, decide_false, nopS_eq, addD_int, subD_int, negD_int, ltD_int, leD_int, gtD_int, geD_int, eqD_int, neD_int, eqD_str, neD_str, lenD_lst, lenD_tup, lenD_scr, max2D_int, min2D_int, asSeq_lst, asSeq_tup, asSeq_str, binN_eq, frzS_eq, appS_eq, ixO_eq, stoS_eq, lenO_eq, asgU_eq, tgU_tup, tgU_lst, tgP_tup, asg2_eq, chn_eq, lnk_bl, isID_int, isID_bl, isID_non, isBD_int, isBD_bl, isBD_non, isPD_tup, isLD_lst, isLD_str, enumD_lst, zipD_lst, List.map_cons, List.map_nil, List.replicate_succ, List.replicate_zero, List.cons_append, List.nil_append, tgU4_tup])]
  have lc := counts_lc t (by omega) h64 (δ := [.val (.scr ns), .val (.int k), .val (.int more), .val (.str t), .val (.tup [.str (ltrs t), .lst (fsD fs), .int (t.length : Int), .str B]), .val (.str (ltrs t)), .val (.lst (fsD fs)), .val (.int (t.length : Int)), .val (.str B), s9, s10, s11, s12, s13, s14, s15]) (i := 5) (j := 15) (a := 3) (by decide) (by show 15 < 16; decide) rfl rfl
  generalize hTU : D.tup [.str (ltrs t), .lst (fsD fs), .int (t.length : Int), .str B] = TU at *
  rw [seq_to (δ' := [.val (.scr ns), .val (.int k), .val (.int more), .val (.str t), .val TU, .val (.str (ltrs t)), .val (.lst (fsD fs)), .val (.int (t.length : Int)), .val (.str B), .val (.lst ((cnts t).map .int)), s10, s11, s12, s13, s14, s15]) (by
    rw [asg_eq, lstE_eq, lc]; rfl)]
  have cl : (cnts t).length = (ltrs t).length := List.length_map _
  have lpos : 1 ≤ (ltrs t).length := by
    have := C.ne
    have := C.len
    cases q : fs with
    | nil => exact (C.ne q).elim
    | cons x r => rw [q] at this; simp at this; omega
  have le := least_is (cnts t) (by omega) (by omega)
  have elen' : ((B.length : Nat) : Int) = hcost (cnts t).length (hs0 (cnts t)) := by rw [← hw]; exact elen
  have es : srtSD [.str t] = .ok (.lst (sgs (ltrs t))) := if_pos ⟨by omega, h64⟩
  have e2 : sgs (ltrs t) = ((ltrs t).map fun c => [c]).map D.str := by unfold sgs; rw [List.map_map]; rfl
  have jn := join_is (ls := (ltrs t).map fun c => [c]) (by rw [flat_sgs]; exact lle)
  rw [flat_sgs, ← e2] at jn
  generalize hCN : (cnts t).map D.int = CN at *
  rw [seq_to (δ' := [.val (.scr ns), .val (.int k), .val (.int more), .val (.str t), .val TU, .val (.str (ltrs t)), .val (.lst (fsD fs)), .val (.int (t.length : Int)), .val (.str B), .val (.lst CN), s10, s11, s12, s13, s14, s15]) (by
    simp only [seqS_eq, seq_nx, seq_rt, seq_rs, asg_eq, asgN_eq, drp_eq, retS_eq, retN_eq, rais_eq, ifS_eq, forF_eq, itS_eq, rngA_eq, vr_eq, cst_eq, bin_eq, un_eq, consA_eq, nilA_eq, app_eq, tst_eq, asB_bl, andT_eq, orT_eq, notT_eq, notD_bl, ifE_eq, newA_eq, lstE_eq, noP_eq, part_eq, asP_int, slc_eq, binS_eq, yes_eq, List.getElem?_cons_succ, List.getElem?_cons_zero, List.set, bind_ok, bind_rs, out_ok, out_rs, fin_rt, fin_rs, fin_nx, if_true, Bool.false_eq_true, if_false, Bool.not_true, Bool.not_false, decide_true, decide_false, nopS_eq, addD_int, subD_int, negD_int, ltD_int, leD_int, gtD_int, geD_int, eqD_int, neD_int, eqD_str, neD_str, lenD_lst, lenD_tup, lenD_scr, max2D_int, min2D_int, asSeq_lst, asSeq_tup, asSeq_str, binN_eq, frzS_eq, appS_eq, ixO_eq, stoS_eq, lenO_eq, asgU_eq, tgU_tup, tgU_lst, tgP_tup, asg2_eq, chn_eq, lnk_bl, isID_int, isID_bl, isID_non, isBD_int, isBD_bl, isBD_non, isPD_tup, isLD_lst, isLD_str, enumD_lst, zipD_lst, List.map_cons, List.map_nil, List.replicate_succ, List.replicate_zero, List.cons_append, List.nil_append, es, jn, lenD_str hl', lenD_str hBl, le, decide_eq_true elen'])]
  have wi := words_is fs (by have := C.len; omega) C.ne C.le C.fl
  rw [seq_to (δ' := [.val (.scr ns), .val (.int k), .val (.int more), .val (.str t), .val TU, .val (.str (ltrs t)), .val (.lst (fsD fs)), .val (.int (t.length : Int)), .val (.str B), .val (.lst CN), .val (.lst (wsD (wds fs))), s11, s12, s13, s14, s15]) (by simp only [seqS_eq, seq_nx, seq_rt, seq_rs, asg_eq, asgN_eq, drp_eq, retS_eq, retN_eq, rais_eq, ifS_eq, forF_eq, itS_eq, rngA_eq, vr_eq, cst_eq, bin_eq, un_eq, consA_eq, nilA_eq, app_eq, tst_eq, asB_bl, andT_eq, orT_eq, notT_eq, notD_bl, ifE_eq, newA_eq, lstE_eq, noP_eq, part_eq, asP_int, slc_eq, binS_eq, yes_eq, List.getElem?_cons_succ, List.getElem?_cons_zero, List.set, bind_ok, bind_rs, out_ok, out_rs, fin_rt, fin_rs, fin_nx, if_true, Bool.false_eq_true, if_false, Bool.not_true, Bool.not_false, decide_true, decide_false, nopS_eq, addD_int, subD_int, negD_int, ltD_int, leD_int, gtD_int, geD_int, eqD_int, neD_int, eqD_str, neD_str, lenD_lst, lenD_tup, lenD_scr, max2D_int, min2D_int, asSeq_lst, asSeq_tup, asSeq_str, binN_eq, frzS_eq, appS_eq, ixO_eq, stoS_eq, lenO_eq, asgU_eq, tgU_tup, tgU_lst, tgP_tup, asg2_eq, chn_eq, lnk_bl, isID_int, isID_bl, isID_non, isBD_int, isBD_bl, isBD_non, isPD_tup, isLD_lst, isLD_str, enumD_lst, zipD_lst, List.map_cons, List.map_nil, List.replicate_succ, List.replicate_zero, List.cons_append, List.nil_append, wi]; rfl)]
  have je := join_enc (wds fs) C.bits (ltrs t) t lle C.wl (fun c hc => ltrs_mem.mpr hc) (by omega) (δ := [.val (.scr ns), .val (.int k), .val (.int more), .val (.str t), .val TU, .val (.str (ltrs t)), .val (.lst (fsD fs)), .val (.int (t.length : Int)), .val (.str B), .val (.lst CN), .val (.lst (wsD (wds fs))), s11, s12, s13, s14, s15]) (i := 3) (j := 15) (a := 10) (b := 5) (by decide) (by decide) (by show 15 < 16; decide) rfl rfl rfl
  rw [hB] at je
  rw [seq_to (δ' := [.val (.scr ns), .val (.int k), .val (.int more), .val (.str t), .val TU, .val (.str (ltrs t)), .val (.lst (fsD fs)), .val (.int (t.length : Int)), .val (.str B), .val (.lst CN), .val (.lst (wsD (wds fs))), s11, s12, s13, s14, s15]) (by
    rw [ifS_eq, tst_eq, bin_eq, je]
    simp only [seqS_eq, seq_nx, seq_rt, seq_rs, asg_eq, asgN_eq, drp_eq, retS_eq, retN_eq, rais_eq, ifS_eq, forF_eq, itS_eq, rngA_eq, vr_eq, cst_eq, bin_eq, un_eq, consA_eq, nilA_eq, app_eq, tst_eq, asB_bl, andT_eq, orT_eq, notT_eq, notD_bl, ifE_eq, newA_eq, lstE_eq, noP_eq, part_eq, asP_int, slc_eq, binS_eq, yes_eq, List.getElem?_cons_succ, List.getElem?_cons_zero, List.set, bind_ok, bind_rs, out_ok, out_rs, fin_rt, fin_rs, fin_nx, if_true, Bool.false_eq_true, if_false, Bool.not_true, Bool.not_false, decide_true, decide_false, nopS_eq, addD_int, subD_int, negD_int, ltD_int, leD_int, gtD_int, geD_int, eqD_int, neD_int, eqD_str, neD_str, lenD_lst, lenD_tup, lenD_scr, max2D_int, min2D_int, asSeq_lst, asSeq_tup, asSeq_str, binN_eq, frzS_eq, appS_eq, ixO_eq, stoS_eq, lenO_eq, asgU_eq, tgU_tup, tgU_lst, tgP_tup, asg2_eq, chn_eq, lnk_bl, isID_int, isID_bl, isID_non, isBD_int, isBD_bl, isBD_non, isPD_tup, isLD_lst, isLD_str, enumD_lst, zipD_lst, List.map_cons, List.map_nil, List.replicate_succ, List.replicate_zero, List.cons_append, List.nil_append])]
  have td := told_dec C t.length tpos (by omega) B (by omega) ebit (fa := consA (vr 5) (consA (vr 6) (consA (vr 7) (consA (vr 8) (nilA))))) (δ := [.val (.scr ns), .val (.int k), .val (.int more), .val (.str t), .val TU, .val (.str (ltrs t)), .val (.lst (fsD fs)), .val (.int (t.length : Int)), .val (.str B), .val (.lst CN), .val (.lst (wsD (wds fs))), s11, s12, s13, s14, s15]) rfl
  rw [erd, Option.getD_some] at td
  rw [seq_to (δ' := [.val (.scr ns), .val (.int k), .val (.int more), .val (.str t), .val TU, .val (.str (ltrs t)), .val (.lst (fsD fs)), .val (.int (t.length : Int)), .val (.str B), .val (.lst CN), .val (.lst (wsD (wds fs))), s11, s12, s13, s14, s15]) (by
    rw [ifS_eq, tst_eq, bin_eq, td]
    simp only [seqS_eq, seq_nx, seq_rt, seq_rs, asg_eq, asgN_eq, drp_eq, retS_eq, retN_eq, rais_eq, ifS_eq, forF_eq, itS_eq, rngA_eq, vr_eq, cst_eq, bin_eq, un_eq, consA_eq, nilA_eq, app_eq, tst_eq, asB_bl, andT_eq, orT_eq, notT_eq, notD_bl, ifE_eq, newA_eq, lstE_eq, noP_eq, part_eq, asP_int, slc_eq, binS_eq, yes_eq, List.getElem?_cons_succ, List.getElem?_cons_zero, List.set, bind_ok, bind_rs, out_ok, out_rs, fin_rt, fin_rs, fin_nx, if_true, Bool.false_eq_true, if_false, Bool.not_true, Bool.not_false, decide_true, decide_false, nopS_eq, addD_int, subD_int, negD_int, ltD_int, leD_int, gtD_int, geD_int, eqD_int, neD_int, eqD_str, neD_str, lenD_lst, lenD_tup, lenD_scr, max2D_int, min2D_int, asSeq_lst, asSeq_tup, asSeq_str, binN_eq, frzS_eq, appS_eq, ixO_eq, stoS_eq, lenO_eq, asgU_eq, tgU_tup, tgU_lst, tgP_tup, asg2_eq, chn_eq, lnk_bl, isID_int, isID_bl, isID_non, isBD_int, isBD_bl, isBD_non, isPD_tup, isLD_lst, isLD_str, enumD_lst, zipD_lst, List.map_cons, List.map_nil, List.replicate_succ, List.replicate_zero, List.cons_append, List.nil_append])]
  -- drawn bits
  have p20 : powD (.int 2) (.int 20) = .ok (.int 1048576) := by rfl
  have p40 : powD (.int 2) (.int 40) = .ok (.int 1099511627776) := by rfl
  have p60 : powD (.int 2) (.int 60) = .ok (.int 1152921504606846976) := by rfl
  have w0 := Int.emod_nonneg (more / 1152921504606846976) (show (41 : Int) ≠ 0 by decide)
  have w1 := Int.emod_lt_of_pos (more / 1152921504606846976) (show (0 : Int) < 41 by decide)
  have lb := law_bits_is (more / 1048576 % 1099511627776) (more / 1152921504606846976 % 41) w0 (by omega)
  have dbit := tb_bit (more / 1152921504606846976 % 41).toNat (more / 1048576 % 1099511627776)
  have dlen := tb_len (more / 1152921504606846976 % 41).toNat (more / 1048576 % 1099511627776)
  generalize hDR : tb (more / 1152921504606846976 % 41).toNat (more / 1048576 % 1099511627776) = DR at *
  rw [seq_to (δ' := [.val (.scr ns), .val (.int k), .val (.int more), .val (.str t), .val TU, .val (.str (ltrs t)), .val (.lst (fsD fs)), .val (.int (t.length : Int)), .val (.str B), .val (.lst CN), .val (.lst (wsD (wds fs))), .val (.str DR), s12, s13, s14, s15]) (by
    simp only [seqS_eq, seq_nx, seq_rt, seq_rs, asg_eq, asgN_eq, drp_eq, retS_eq, retN_eq, rais_eq, ifS_eq, forF_eq, itS_eq, rngA_eq, vr_eq, cst_eq, bin_eq, un_eq, consA_eq, nilA_eq, app_eq, tst_eq, asB_bl, andT_eq, orT_eq, notT_eq, notD_bl, ifE_eq, newA_eq, lstE_eq, noP_eq, part_eq, asP_int, slc_eq, binS_eq, yes_eq, List.getElem?_cons_succ, List.getElem?_cons_zero, List.set, bind_ok, bind_rs, out_ok, out_rs, fin_rt, fin_rs, fin_nx, if_true, Bool.false_eq_true, if_false, Bool.not_true, Bool.not_false, decide_true, decide_false, nopS_eq, addD_int, subD_int, negD_int, ltD_int, leD_int, gtD_int, geD_int, eqD_int, neD_int, eqD_str, neD_str, lenD_lst, lenD_tup, lenD_scr, max2D_int, min2D_int, asSeq_lst, asSeq_tup, asSeq_str, binN_eq, frzS_eq, appS_eq, ixO_eq, stoS_eq, lenO_eq, asgU_eq, tgU_tup, tgU_lst, tgP_tup, asg2_eq, chn_eq, lnk_bl, isID_int, isID_bl, isID_non, isBD_int, isBD_bl, isBD_non, isPD_tup, isLD_lst, isLD_str, enumD_lst, zipD_lst, List.map_cons, List.map_nil, List.replicate_succ, List.replicate_zero, List.cons_append, List.nil_append, p20, p40, p60, fdivD_int (show (0 : Int) < 1048576 ∧ (1048576 : Int) < 2 ^ 200 by decide), fdivD_int (show (0 : Int) < 1152921504606846976 ∧ (1152921504606846976 : Int) < 2 ^ 200 by decide), modD_int (show (0 : Int) < 1099511627776 by decide), modD_int (show (0 : Int) < 41 by decide), lb])]
  have mT : ∀ a b : D, mkT [a, b] = .ok (.tup [a, b]) := fun a b => by rfl
  have a1 : addD (.str B) (.str [49]) = .ok (.str (B ++ [49])) := addD_str (by simp only [List.length_singleton, line]; omega)
  have sl1 : slD (.str B) (some 1) none = .ok (.str (B.drop 1)) := by
    show (if B.length ≤ line then Res.ok (D.str (cutL B (some ((1 : Nat) : Int)) none)) else .stuck) = _
    rw [if_pos hBl, cut_from]
  rw [seq_to (δ' := [.val (.scr ns), .val (.int k), .val (.int more), .val (.str t), .val TU, .val (.str (ltrs t)), .val (.lst (fsD fs)), .val (.int (t.length : Int)), .val (.str B), .val (.lst CN), .val (.lst (wsD (wds fs))), .val (.str DR), .val (.lst [.tup [.str (B ++ [49]), .int (t.length : Int)], .tup [.str (B.drop 1), .int (t.length : Int)], .tup [.str B, .int ((t.length : Int) + 1)]]), s13, s14, s15]) (by
    simp only [seqS_eq, seq_nx, seq_rt, seq_rs, asg_eq, asgN_eq, drp_eq, retS_eq, retN_eq, rais_eq, ifS_eq, forF_eq, itS_eq, rngA_eq, vr_eq, cst_eq, bin_eq, un_eq, consA_eq, nilA_eq, app_eq, tst_eq, asB_bl, andT_eq, orT_eq, notT_eq, notD_bl, ifE_eq, newA_eq, lstE_eq, noP_eq, part_eq, asP_int, slc_eq, binS_eq, yes_eq, List.getElem?_cons_succ, List.getElem?_cons_zero, List.set, bind_ok, bind_rs, out_ok, out_rs, fin_rt, fin_rs, fin_nx, if_true, Bool.false_eq_true, if_false, Bool.not_true, Bool.not_false, decide_true, decide_false, nopS_eq, addD_int, subD_int, negD_int, ltD_int, leD_int, gtD_int, geD_int, eqD_int, neD_int, eqD_str, neD_str, lenD_lst, lenD_tup, lenD_scr, max2D_int, min2D_int, asSeq_lst, asSeq_tup, asSeq_str, binN_eq, frzS_eq, appS_eq, ixO_eq, stoS_eq, lenO_eq, asgU_eq, tgU_tup, tgU_lst, tgP_tup, asg2_eq, chn_eq, lnk_bl, isID_int, isID_bl, isID_non, isBD_int, isBD_bl, isBD_non, isPD_tup, isLD_lst, isLD_str, enumD_lst, zipD_lst, List.map_cons, List.map_nil, List.replicate_succ, List.replicate_zero, List.cons_append, List.nil_append, mT, a1, sl1, mk3])]
  have c0 := Int.emod_nonneg (more / 64) (show (20 : Int) ≠ 0 by decide)
  have c1 := Int.emod_lt_of_pos (more / 64) (show (0 : Int) < 20 by decide)
  have ad3 : ∀ a b c d : D, addD (.lst [a, b, c]) (.lst [d]) = .ok (.lst [a, b, c, d]) := fun a b c d => addD_lst (by show 4 ≤ line; decide)
  have ad4 : ∀ a b c d e : D, addD (.lst [a, b, c, d]) (.lst [e]) = .ok (.lst [a, b, c, d, e]) := fun a b c d e => addD_lst (by show 5 ≤ line; decide)
  rw [seq_to (δ' := [.val (.scr ns), .val (.int k), .val (.int more), .val (.str t), .val TU, .val (.str (ltrs t)), .val (.lst (fsD fs)), .val (.int (t.length : Int)), .val (.str B), .val (.lst CN), .val (.lst (wsD (wds fs))), .val (.str DR), .val (.lst [.tup [.str (B ++ [49]), .int (t.length : Int)], .tup [.str (B.drop 1), .int (t.length : Int)], .tup [.str B, .int ((t.length : Int) + 1)], .tup [.str DR, .int (more / 64 % 20 + 1)]]), s13, s14, s15]) (by
    simp only [seqS_eq, seq_nx, seq_rt, seq_rs, asg_eq, asgN_eq, drp_eq, retS_eq, retN_eq, rais_eq, ifS_eq, forF_eq, itS_eq, rngA_eq, vr_eq, cst_eq, bin_eq, un_eq, consA_eq, nilA_eq, app_eq, tst_eq, asB_bl, andT_eq, orT_eq, notT_eq, notD_bl, ifE_eq, newA_eq, lstE_eq, noP_eq, part_eq, asP_int, slc_eq, binS_eq, yes_eq, List.getElem?_cons_succ, List.getElem?_cons_zero, List.set, bind_ok, bind_rs, out_ok, out_rs, fin_rt, fin_rs, fin_nx, if_true, Bool.false_eq_true, if_false, Bool.not_true, Bool.not_false, decide_true, decide_false, nopS_eq, addD_int, subD_int, negD_int, ltD_int, leD_int, gtD_int, geD_int, eqD_int, neD_int, eqD_str, neD_str, lenD_lst, lenD_tup, lenD_scr, max2D_int, min2D_int, asSeq_lst, asSeq_tup, asSeq_str, binN_eq, frzS_eq, appS_eq, ixO_eq, stoS_eq, lenO_eq, asgU_eq, tgU_tup, tgU_lst, tgP_tup, asg2_eq, chn_eq, lnk_bl, isID_int, isID_bl, isID_non, isBD_int, isBD_bl, isBD_non, isPD_tup, isLD_lst, isLD_str, enumD_lst, zipD_lst, List.map_cons, List.map_nil, List.replicate_succ, List.replicate_zero, List.cons_append, List.nil_append, mT, mk1, fdivD_int (show (0 : Int) < 64 ∧ (64 : Int) < 2 ^ 200 by decide), modD_int (show (0 : Int) < 20 by decide), ad3])]
  have a2 : addD (.str B) (.str DR) = .ok (.str (B ++ DR)) := addD_str (by simp only [line]; omega)
  have wl94 : ∀ w ∈ wds fs, w.length ≤ 1000 := fun w hw => by have := C.bits w hw; omega
  have wl64 : (wds fs).length ≤ 1000 := by rw [C.wl]; omega
  obtain ⟨δ2, ef2, u13, u14, rfl⟩ := for_inv (g := tgP 13 14) (b := ifS (tst (bin neD (told (app d_decoded (consA (vr 5) (consA (vr 6) (consA (vr 14) (consA (vr 13) (nilA))))))) (app d__law_read (consA (vr 5) (consA (vr 10) (consA (vr 14) (consA (vr 13) (nilA)))))))) (retS (cst (.bl false))) (nopS))
    (xs := [.tup [.str (B ++ [49]), .int (t.length : Int)], .tup [.str (B.drop 1), .int (t.length : Int)], .tup [.str B, .int ((t.length : Int) + 1)], .tup [.str DR, .int (more / 64 % 20 + 1)], .tup [.str (B ++ DR), .int ((t.length : Int) + 3)]])
    (I := fun _ δ => ∃ u13 u14, δ = [.val (.scr ns), .val (.int k), .val (.int more), .val (.str t), .val TU, .val (.str (ltrs t)), .val (.lst (fsD fs)), .val (.int (t.length : Int)), .val (.str B), .val (.lst CN), .val (.lst (wsD (wds fs))), .val (.str DR), .val (.lst [.tup [.str (B ++ [49]), .int (t.length : Int)], .tup [.str (B.drop 1), .int (t.length : Int)], .tup [.str B, .int ((t.length : Int) + 1)], .tup [.str DR, .int (more / 64 % 20 + 1)]]), u13, u14, s15])
    (δ := [.val (.scr ns), .val (.int k), .val (.int more), .val (.str t), .val TU, .val (.str (ltrs t)), .val (.lst (fsD fs)), .val (.int (t.length : Int)), .val (.str B), .val (.lst CN), .val (.lst (wsD (wds fs))), .val (.str DR), .val (.lst [.tup [.str (B ++ [49]), .int (t.length : Int)], .tup [.str (B.drop 1), .int (t.length : Int)], .tup [.str B, .int ((t.length : Int) + 1)], .tup [.str DR, .int (more / 64 % 20 + 1)]]), s13, s14, s15]) 0 ⟨_, _, rfl⟩ (fun i x δ hx hI => by
      obtain ⟨u13, u14, rfl⟩ := hI
      obtain ⟨o, n, rfl, n1, n2, ol, ob⟩ : ∃ (o : List Nat) (n : Nat), x = .tup [.str o, .int (n : Int)] ∧ 1 ≤ n ∧ n ≤ 512 ∧ o.length ≤ 100000 ∧ ∀ c ∈ o, isBit c := by
        have hx := List.mem_of_getElem? hx
        rcases List.mem_cons.mp hx with rfl | hx
        · exact ⟨_, _, rfl, tpos, by omega, by rw [List.length_append, List.length_singleton]; omega, fun c hc => (List.mem_append.mp hc).elim (ebit c) fun q => by rw [List.mem_singleton.mp q]; exact .inr rfl⟩
        rcases List.mem_cons.mp hx with rfl | hx
        · exact ⟨_, _, rfl, tpos, by omega, by rw [List.length_drop]; omega, fun c hc => ebit c (List.mem_of_mem_drop hc)⟩
        rcases List.mem_cons.mp hx with rfl | hx
        · exact ⟨B, t.length + 1, rfl, by omega, by omega, by omega, ebit⟩
        rcases List.mem_cons.mp hx with rfl | hx
        · exact ⟨DR, (more / 64 % 20 + 1).toNat, by rw [Int.toNat_of_nonneg (by omega)], by omega, by omega, by omega, dbit⟩
        · rw [List.mem_singleton.mp hx]
          exact ⟨_, t.length + 3, rfl, by omega, by omega, by rw [List.length_append]; omega, fun c hc => (List.mem_append.mp hc).elim (ebit c) (dbit c)⟩
      refine ⟨_, _, rfl, ?_, .val (.str o), .val (.int (n : Int)), rfl⟩
      show ifS _ _ _ [.val (.scr ns), .val (.int k), .val (.int more), .val (.str t), .val TU, .val (.str (ltrs t)), .val (.lst (fsD fs)), .val (.int (t.length : Int)), .val (.str B), .val (.lst CN), .val (.lst (wsD (wds fs))), .val (.str DR), _, .val (.str o), .val (.int (n : Int)), s15] = _
      rw [ifS_eq, tst_eq, bin_eq, told_dec C n n1 n2 o ol ob rfl]
      simp only [seqS_eq, seq_nx, seq_rt, seq_rs, asg_eq, asgN_eq, drp_eq, retS_eq, retN_eq, rais_eq, ifS_eq, forF_eq, itS_eq, rngA_eq, vr_eq, cst_eq, bin_eq, un_eq, consA_eq, nilA_eq, app_eq, tst_eq, asB_bl, andT_eq, orT_eq, notT_eq, notD_bl, ifE_eq, newA_eq, lstE_eq, noP_eq, part_eq, asP_int, slc_eq, binS_eq, yes_eq, List.getElem?_cons_succ, List.getElem?_cons_zero, List.set, bind_ok, bind_rs, out_ok, out_rs, fin_rt, fin_rs, fin_nx, if_true, Bool.false_eq_true, if_false, Bool.not_true, Bool.not_false, decide_true, decide_false, nopS_eq, addD_int, subD_int, negD_int, ltD_int, leD_int, gtD_int, geD_int, eqD_int, neD_int, eqD_str, neD_str, lenD_lst, lenD_tup, lenD_scr, max2D_int, min2D_int, asSeq_lst, asSeq_tup, asSeq_str, binN_eq, frzS_eq, appS_eq, ixO_eq, stoS_eq, lenO_eq, asgU_eq, tgU_tup, tgU_lst, tgP_tup, asg2_eq, chn_eq, lnk_bl, isID_int, isID_bl, isID_non, isBD_int, isBD_bl, isBD_non, isPD_tup, isLD_lst, isLD_str, enumD_lst, zipD_lst, List.map_cons, List.map_nil, List.replicate_succ, List.replicate_zero, List.cons_append, List.nil_append, lread_is (wds fs) wl64 wl94 (ltrs t) C.wl n n2 o ol])
  rw [seq_to (δ' := _) (by
    rw [← ef2, forF_eq]
    simp only [itS_eq, bin_eq, vr_eq, List.getElem?_cons_succ, List.getElem?_cons_zero, bind_ok, app_eq, consA_eq, nilA_eq, cst_eq, addD_int, a2, mT, mk1, ad4, asSeq_lst, out_ok])]
  generalize hPP : D.lst [.tup [.str (B ++ [49]), .int (t.length : Int)], .tup [.str (B.drop 1), .int (t.length : Int)], .tup [.str B, .int ((t.length : Int) + 1)], .tup [.str DR, .int (more / 64 % 20 + 1)]] = PP
  have lc3 := lcN_map (δ := [.val (.scr ns), .val (.int k), .val (.int more), .val (.str t), .val TU, .val (.str (ltrs t)), .val (.lst (fsD fs)), .val (.int (t.length : Int)), .val (.str B), .val (.lst CN), .val (.lst (wsD (wds fs))), .val (.str DR), .val PP, u13, u14, s15]) (vs := [14]) (j := 14) (fe := told (app d_decoded (consA (vr 5) (consA (vr 6) (consA (vr 14) (consA (vr 8) (nilA))))))) (fi := itS (app mkL (consA (cst (.int 0)) (consA (un negD (cst (.int 1))) (consA (cst (.int 513)) (nilA)))))) (xs := [.int 0, .int (-1), .int 513]) (f := fun _ => bbD) (by simp only [seqS_eq, seq_nx, seq_rt, seq_rs, asg_eq, asgN_eq, drp_eq, retS_eq, retN_eq, rais_eq, ifS_eq, forF_eq, itS_eq, rngA_eq, vr_eq, cst_eq, bin_eq, un_eq, consA_eq, nilA_eq, app_eq, tst_eq, asB_bl, andT_eq, orT_eq, notT_eq, notD_bl, ifE_eq, newA_eq, lstE_eq, noP_eq, part_eq, asP_int, slc_eq, binS_eq, yes_eq, List.getElem?_cons_succ, List.getElem?_cons_zero, List.set, bind_ok, bind_rs, out_ok, out_rs, fin_rt, fin_rs, fin_nx, if_true, Bool.false_eq_true, if_false, Bool.not_true, Bool.not_false, decide_true, decide_false, nopS_eq, addD_int, subD_int, negD_int, ltD_int, leD_int, gtD_int, geD_int, eqD_int, neD_int, eqD_str, neD_str, lenD_lst, lenD_tup, lenD_scr, max2D_int, min2D_int, asSeq_lst, asSeq_tup, asSeq_str, binN_eq, frzS_eq, appS_eq, ixO_eq, stoS_eq, lenO_eq, asgU_eq, tgU_tup, tgU_lst, tgP_tup, asg2_eq, chn_eq, lnk_bl, isID_int, isID_bl, isID_non, isBD_int, isBD_bl, isBD_non, isPD_tup, isLD_lst, isLD_str, enumD_lst, zipD_lst, List.map_cons, List.map_nil, List.replicate_succ, List.replicate_zero, List.cons_append, List.nil_append, mk3]) (by show 3 ≤ line; decide) (fun x hx => by
    obtain ⟨n, rfl, hn⟩ : ∃ n : Int, x = .int n ∧ ¬ (1 ≤ n ∧ n ≤ 512) := by
      rcases List.mem_cons.mp hx with rfl | hx
      · exact ⟨0, rfl, by decide⟩
      rcases List.mem_cons.mp hx with rfl | hx
      · exact ⟨-1, rfl, by decide⟩
      · rw [List.mem_singleton.mp hx]; exact ⟨513, rfl, by decide⟩
    exact told_bb (xs := [.str (ltrs t), .lst (fsD fs), .int n, .str B]) rfl (decoded_badb C n B (by omega) fun q => hn q.2))
  have m3 : mulD (.lst [bbD]) (.int 3) = .ok (.lst [bbD, bbD, bbD]) := by rfl
  have ne3 : neD (.lst [bbD, bbD, bbD]) (.lst [bbD, bbD, bbD]) = .ok (.bl false) := neD_self (by decide +kernel)
  rw [seq_to (δ' := [.val (.scr ns), .val (.int k), .val (.int more), .val (.str t), .val TU, .val (.str (ltrs t)), .val (.lst (fsD fs)), .val (.int (t.length : Int)), .val (.str B), .val (.lst CN), .val (.lst (wsD (wds fs))), .val (.str DR), .val PP, u13, u14, s15]) (by
    rw [ifS_eq, tst_eq, bin_eq, lstE_eq, lc3]
    simp only [seqS_eq, seq_nx, seq_rt, seq_rs, asg_eq, asgN_eq, drp_eq, retS_eq, retN_eq, rais_eq, ifS_eq, forF_eq, itS_eq, rngA_eq, vr_eq, cst_eq, bin_eq, un_eq, consA_eq, nilA_eq, app_eq, tst_eq, asB_bl, andT_eq, orT_eq, notT_eq, notD_bl, ifE_eq, newA_eq, lstE_eq, noP_eq, part_eq, asP_int, slc_eq, binS_eq, yes_eq, List.getElem?_cons_succ, List.getElem?_cons_zero, List.set, bind_ok, bind_rs, out_ok, out_rs, fin_rt, fin_rs, fin_nx, if_true, Bool.false_eq_true, if_false, Bool.not_true, Bool.not_false, decide_true, decide_false, nopS_eq, addD_int, subD_int, negD_int, ltD_int, leD_int, gtD_int, geD_int, eqD_int, neD_int, eqD_str, neD_str, lenD_lst, lenD_tup, lenD_scr, max2D_int, min2D_int, asSeq_lst, asSeq_tup, asSeq_str, binN_eq, frzS_eq, appS_eq, ixO_eq, stoS_eq, lenO_eq, asgU_eq, tgU_tup, tgU_lst, tgP_tup, asg2_eq, chn_eq, lnk_bl, isID_int, isID_bl, isID_non, isBD_int, isBD_bl, isBD_non, isPD_tup, isLD_lst, isLD_str, enumD_lst, zipD_lst, List.map_cons, List.map_nil, List.replicate_succ, List.replicate_zero, List.cons_append, List.nil_append, mk1, m3, ne3])]
  have qr : q__law_refused_right [.str (ltrs t), .lst (fsD fs), .int (t.length : Int), .str B] = .ok (.bl true) := by unfold q__law_refused_right; rw [refused_is C t.length B (by omega), okO_ok]
  refine ⟨.val (.int k), .val (.int more), .val (.str t), .val TU, .val (.str (ltrs t)), .val (.lst (fsD fs)), .val (.int (t.length : Int)), .val (.str B), .val (.lst CN), .val (.lst (wsD (wds fs))), .val (.str DR), .val PP, u13, u14, s15, ?_⟩
  simp only [seqS_eq, seq_nx, seq_rt, seq_rs, asg_eq, asgN_eq, drp_eq, retS_eq, retN_eq, rais_eq, ifS_eq, forF_eq, itS_eq, rngA_eq, vr_eq, cst_eq, bin_eq, un_eq, consA_eq, nilA_eq, app_eq, tst_eq, asB_bl, andT_eq, orT_eq, notT_eq, notD_bl, ifE_eq, newA_eq, lstE_eq, noP_eq, part_eq, asP_int, slc_eq, binS_eq, yes_eq, List.getElem?_cons_succ, List.getElem?_cons_zero, List.set, bind_ok, bind_rs, out_ok, out_rs, fin_rt, fin_rs, fin_nx, if_true, Bool.false_eq_true, if_false, Bool.not_true, Bool.not_false, decide_true, decide_false, nopS_eq, addD_int, subD_int, negD_int, ltD_int, leD_int, gtD_int, geD_int, eqD_int, neD_int, eqD_str, neD_str, lenD_lst, lenD_tup, lenD_scr, max2D_int, min2D_int, asSeq_lst, asSeq_tup, asSeq_str, binN_eq, frzS_eq, appS_eq, ixO_eq, stoS_eq, lenO_eq, asgU_eq, tgU_tup, tgU_lst, tgP_tup, asg2_eq, chn_eq, lnk_bl, isID_int, isID_bl, isID_non, isBD_int, isBD_bl, isBD_non, isPD_tup, isLD_lst, isLD_str, enumD_lst, zipD_lst, List.map_cons, List.map_nil, List.replicate_succ, List.replicate_zero, List.cons_append, List.nil_append, qr]
theorem law_true (ns : List Int) (hns : ns.length ≤ 63) (hb : ∀ z ∈ ns, Builtin.Int.intBits z ≤ 1048576) : d_law [.scr ns] = .ok (.bl true) := by
  rw [d_law, run_eq (by rfl)]; unfold b_law
  obtain ⟨δ', ef, t1, t2, t3, t4, t5, t6, t7, t8, t9, t10, t11, t12, t13, t14, t15, rfl⟩ := for_inv (g := tgN 1) (b := lp_law_1) (xs := Dn.upTo 0 (max (1 : Int) (min 4 (ns.length : Int))).toNat)
    (I := fun _ δ => ∃ t1 t2 t3 t4 t5 t6 t7 t8 t9 t10 t11 t12 t13 t14 t15, δ = [.val (.scr ns), t1, t2, t3, t4, t5, t6, t7, t8, t9, t10, t11, t12, t13, t14, t15]) (δ := [.val (.scr ns), .no, .no, .no, .no, .no, .no, .no, .no, .no, .no, .no, .no, .no, .no, .no]) 0 ⟨_, _, _, _, _, _, _, _, _, _, _, _, _, _, _, rfl⟩ (fun i x δ hx hI => by
      obtain ⟨t1, s2, s3, s4, s5, s6, s7, s8, s9, s10, s11, s12, s13, s14, s15, rfl⟩ := hI
      obtain ⟨hi, rfl⟩ := upTo_get hx
      obtain ⟨u1, u2, u3, u4, u5, u6, u7, u8, u9, u10, u11, u12, u13, u14, u15, e⟩ := body_ok ns hns (0 + (i : Int)) (by omega) (by omega) s2 s3 s4 s5 s6 s7 s8 s9 s10 s11 s12 s13 s14 s15
      exact ⟨_, _, rfl, e, _, _, _, _, _, _, _, _, _, _, _, _, _, _, _, rfl⟩)
  rw [seq_to (δ' := [.val (.scr ns), t1, t2, t3, t4, t5, t6, t7, t8, t9, t10, t11, t12, t13, t14, t15]) (by
    rw [← ef]
    simp [rng1 (okI_of (show (0 : Int) ≤ max (1 : Int) (min 4 (ns.length : Int)) by omega) (by omega))])]
  simp only [seqS_eq, seq_nx, seq_rt, seq_rs, asg_eq, asgN_eq, drp_eq, retS_eq, retN_eq, rais_eq, ifS_eq, forF_eq, itS_eq, rngA_eq, vr_eq, cst_eq, bin_eq, un_eq, consA_eq, nilA_eq, app_eq, tst_eq, asB_bl, andT_eq, orT_eq, notT_eq, notD_bl, ifE_eq, newA_eq, lstE_eq, noP_eq, part_eq, asP_int, slc_eq, binS_eq, yes_eq, List.getElem?_cons_succ, List.getElem?_cons_zero, List.set, bind_ok, bind_rs, out_ok, out_rs, fin_rt, fin_rs, fin_nx, if_true, Bool.false_eq_true, if_false, Bool.not_true, Bool.not_false, decide_true, decide_false, nopS_eq, addD_int, subD_int, negD_int, ltD_int, leD_int, gtD_int, geD_int, eqD_int, neD_int, eqD_str, neD_str, lenD_lst, lenD_tup, lenD_scr, max2D_int, min2D_int, asSeq_lst, asSeq_tup, asSeq_str, binN_eq, frzS_eq, appS_eq, ixO_eq, stoS_eq, lenO_eq, asgU_eq, tgU_tup, tgU_lst, tgP_tup, asg2_eq, chn_eq, lnk_bl, isID_int, isID_bl, isID_non, isBD_int, isBD_bl, isBD_non, isPD_tup, isLD_lst, isLD_str, enumD_lst, zipD_lst, List.map_cons, List.map_nil, List.replicate_succ, List.replicate_zero, List.cons_append, List.nil_append]
end Lw


set_option Elab.async false
set_option linter.all false
set_option maxRecDepth 100000
set_option maxHeartbeats 4000000
namespace Lw
open PySem PySem.Spec PyProof.Rows L2 Dn
theorem all_mk {l : PySem.W.OpenLaw} {w : World} {K : PySem.W.Frag} {h : Heap} {mg : Str → Option Value} {fa : Addr} {CT c0 c1 c2 c3 c4 c5 c6 : Addr} {f0 : Addr} {oc0 : Value} {od0 an0 : Option Addr} {sl0 : Array (Option Value)} {kV0 dc0 pm0 cd0 ct0 : Value}
    {f1 : Addr} {oc1 : Value} {od1 an1 : Option Addr} {sl1 : Array (Option Value)} {kV1 dc1 pm1 cd1 ct1 : Value}
    {f2 : Addr} {oc2 : Value} {od2 an2 : Option Addr} {sl2 : Array (Option Value)} {kV2 dc2 pm2 cd2 ct2 : Value}
    {f3 : Addr} {oc3 : Value} {od3 an3 : Option Addr} {sl3 : Array (Option Value)} {kV3 dc3 pm3 cd3 ct3 : Value}
    {f4 : Addr} {oc4 : Value} {od4 an4 : Option Addr} {sl4 : Array (Option Value)} {kV4 dc4 pm4 cd4 ct4 : Value}
    {f5 : Addr} {oc5 : Value} {od5 an5 : Option Addr} {sl5 : Array (Option Value)} {kV5 dc5 pm5 cd5 ct5 : Value}
    {f6 : Addr} {oc6 : Value} {od6 an6 : Option Addr} {sl6 : Array (Option Value)} {kV6 dc6 pm6 cd6 ct6 : Value}
    {f7 : Addr} {oc7 : Value} {od7 an7 : Option Addr} {sl7 : Array (Option Value)} {kV7 dc7 pm7 cd7 ct7 : Value}
    {f8 : Addr} {oc8 : Value} {od8 an8 : Option Addr} {sl8 : Array (Option Value)} {kV8 dc8 pm8 cd8 ct8 : Value}
    {f9 : Addr} {oc9 : Value} {od9 an9 : Option Addr} {sl9 : Array (Option Value)} {kV9 dc9 pm9 cd9 ct9 : Value}
    {f10 : Addr} {oc10 : Value} {od10 an10 : Option Addr} {sl10 : Array (Option Value)} {kV10 dc10 pm10 cd10 ct10 : Value}
    {f11 : Addr} {oc11 : Value} {od11 an11 : Option Addr} {sl11 : Array (Option Value)} {kV11 dc11 pm11 cd11 ct11 : Value}
    {f12 : Addr} {oc12 : Value} {od12 an12 : Option Addr} {sl12 : Array (Option Value)} {kV12 dc12 pm12 cd12 ct12 : Value}
    {f13 : Addr} {oc13 : Value} {od13 an13 : Option Addr} {sl13 : Array (Option Value)} {kV13 dc13 pm13 cd13 ct13 : Value}
    {f14 : Addr} {oc14 : Value} {od14 an14 : Option Addr} {sl14 : Array (Option Value)} {kV14 dc14 pm14 cd14 ct14 : Value}
    {f15 : Addr} {oc15 : Value} {od15 an15 : Option Addr} {sl15 : Array (Option Value)} {kV15 dc15 pm15 cd15 ct15 : Value}
    {f16 : Addr} {oc16 : Value} {od16 an16 : Option Addr} {sl16 : Array (Option Value)} {kV16 dc16 pm16 cd16 ct16 : Value}
    {f17 : Addr} {oc17 : Value} {od17 an17 : Option Addr} {sl17 : Array (Option Value)} {kV17 dc17 pm17 cd17 ct17 : Value}
    {f18 : Addr} {oc18 : Value} {od18 an18 : Option Addr} {sl18 : Array (Option Value)} {kV18 dc18 pm18 cd18 ct18 : Value}
    {f19 : Addr} {oc19 : Value} {od19 an19 : Option Addr} {sl19 : Array (Option Value)} {kV19 dc19 pm19 cd19 ct19 : Value}
    {f20 cc20 pp20 : Addr} {oc20 : Value} {od20 an20 : Option Addr} {sl20 : Array (Option Value)} {kV20 dc20 pm20 ct20 : Value} {ee20 : Value} {dd20 : Option Addr} {vv20 : Array Value} {ss20 : Array (Option Value)}
    {f21 cc21 pp21 : Addr} {oc21 : Value} {od21 an21 : Option Addr} {sl21 : Array (Option Value)} {kV21 dc21 pm21 ct21 : Value} {ee21 : Value} {dd21 : Option Addr} {vv21 : Array Value} {ss21 : Array (Option Value)}
    {t_MOST_COUNTS : Tok}
    {t_FIRST : Tok}
    {t_LAST : Tok}
    {t_BARRED : Tok}
    {t_MOST : Tok} (X : K.In h) (G : h.Ns mainGlobals mg) (hfa : mg "law" = some (.ref fa)) (own : ∀ y ∈ (["_law_refused_right", "law"] : List Str), ∀ fa', mg y = some (.ref fa') → LamX.OwnTab K fa' h)
    (a0 : PySem.W.nsIn K mainGlobals "in_bits" = some (some (.ref f0))) (l0 : K.lookup f0 = some ⟨oc0, od0, .func (PySem.W.fnOf "in_bits" "in_bits" (defArgs s_in_bits) (defBody s_in_bits) (defScope s_in_bits) .none kV0 dc0 pm0 an0 cd0 ct0), sl0⟩) (c0' : PySem.W.codeIn K cd0 "in_bits" = true) (k0 : PySem.W.keepIn K (.ref f0) = true)
    (a1 : PySem.W.nsIn K mainGlobals "need_lengths" = some (some (.ref f1))) (l1 : K.lookup f1 = some ⟨oc1, od1, .func (PySem.W.fnOf "need_lengths" "need_lengths" (defArgs s_need_lengths) (defBody s_need_lengths) (defScope s_need_lengths) .none kV1 dc1 pm1 an1 cd1 ct1), sl1⟩) (c1' : PySem.W.codeIn K cd1 "need_lengths" = true) (k1 : PySem.W.keepIn K (.ref f1) = true)
    (a2 : PySem.W.nsIn K mainGlobals "words" = some (some (.ref f2))) (l2 : K.lookup f2 = some ⟨oc2, od2, .func (PySem.W.fnOf "words" "words" (defArgs s_words) (defBody s_words) (defScope s_words) .none kV2 dc2 pm2 an2 cd2 ct2), sl2⟩) (c2' : PySem.W.codeIn K cd2 "words" = true) (k2 : PySem.W.keepIn K (.ref f2) = true)
    (a3 : PySem.W.nsIn K mainGlobals "is_sign" = some (some (.ref f3))) (l3 : K.lookup f3 = some ⟨oc3, od3, .func (PySem.W.fnOf "is_sign" "is_sign" (defArgs s_is_sign) (defBody s_is_sign) (defScope s_is_sign) .none kV3 dc3 pm3 an3 cd3 ct3), sl3⟩) (c3' : PySem.W.codeIn K cd3 "is_sign" = true) (k3 : PySem.W.keepIn K (.ref f3) = true)
    (a4 : PySem.W.nsIn K mainGlobals "need_text" = some (some (.ref f4))) (l4 : K.lookup f4 = some ⟨oc4, od4, .func (PySem.W.fnOf "need_text" "need_text" (defArgs s_need_text) (defBody s_need_text) (defScope s_need_text) .none kV4 dc4 pm4 an4 cd4 ct4), sl4⟩) (c4' : PySem.W.codeIn K cd4 "need_text" = true) (k4 : PySem.W.keepIn K (.ref f4) = true)
    (a5 : PySem.W.nsIn K mainGlobals "letters_of" = some (some (.ref f5))) (l5 : K.lookup f5 = some ⟨oc5, od5, .func (PySem.W.fnOf "letters_of" "letters_of" (defArgs s_letters_of) (defBody s_letters_of) (defScope s_letters_of) .none kV5 dc5 pm5 an5 cd5 ct5), sl5⟩) (c5' : PySem.W.codeIn K cd5 "letters_of" = true) (k5 : PySem.W.keepIn K (.ref f5) = true)
    (a6 : PySem.W.nsIn K mainGlobals "is_count" = some (some (.ref f6))) (l6 : K.lookup f6 = some ⟨oc6, od6, .func (PySem.W.fnOf "is_count" "is_count" (defArgs s_is_count) (defBody s_is_count) (defScope s_is_count) .none kV6 dc6 pm6 an6 cd6 ct6), sl6⟩) (c6' : PySem.W.codeIn K cd6 "is_count" = true) (k6 : PySem.W.keepIn K (.ref f6) = true)
    (a7 : PySem.W.nsIn K mainGlobals "need_counts" = some (some (.ref f7))) (l7 : K.lookup f7 = some ⟨oc7, od7, .func (PySem.W.fnOf "need_counts" "need_counts" (defArgs s_need_counts) (defBody s_need_counts) (defScope s_need_counts) .none kV7 dc7 pm7 an7 cd7 ct7), sl7⟩) (c7' : PySem.W.codeIn K cd7 "need_counts" = true) (k7 : PySem.W.keepIn K (.ref f7) = true)
    (a8 : PySem.W.nsIn K mainGlobals "lengths" = some (some (.ref f8))) (l8 : K.lookup f8 = some ⟨oc8, od8, .func (PySem.W.fnOf "lengths" "lengths" (defArgs s_lengths) (defBody s_lengths) (defScope s_lengths) .none kV8 dc8 pm8 an8 cd8 ct8), sl8⟩) (c8' : PySem.W.codeIn K cd8 "lengths" = true) (k8 : PySem.W.keepIn K (.ref f8) = true)
    (a9 : PySem.W.nsIn K mainGlobals "coded" = some (some (.ref f9))) (l9 : K.lookup f9 = some ⟨oc9, od9, .func (PySem.W.fnOf "coded" "coded" (defArgs s_coded) (defBody s_coded) (defScope s_coded) .none kV9 dc9 pm9 an9 cd9 ct9), sl9⟩) (c9' : PySem.W.codeIn K cd9 "coded" = true) (k9 : PySem.W.keepIn K (.ref f9) = true)
    (a10 : PySem.W.nsIn K mainGlobals "need_bits" = some (some (.ref f10))) (l10 : K.lookup f10 = some ⟨oc10, od10, .func (PySem.W.fnOf "need_bits" "need_bits" (defArgs s_need_bits) (defBody s_need_bits) (defScope s_need_bits) .none kV10 dc10 pm10 an10 cd10 ct10), sl10⟩) (c10' : PySem.W.codeIn K cd10 "need_bits" = true) (k10 : PySem.W.keepIn K (.ref f10) = true)
    (a11 : PySem.W.nsIn K mainGlobals "decoded" = some (some (.ref f11))) (l11 : K.lookup f11 = some ⟨oc11, od11, .func (PySem.W.fnOf "decoded" "decoded" (defArgs s_decoded) (defBody s_decoded) (defScope s_decoded) .none kV11 dc11 pm11 an11 cd11 ct11), sl11⟩) (c11' : PySem.W.codeIn K cd11 "decoded" = true) (k11 : PySem.W.keepIn K (.ref f11) = true)
    (a12 : PySem.W.nsIn K mainGlobals "_law_cell" = some (some (.ref f12))) (l12 : K.lookup f12 = some ⟨oc12, od12, .func (PySem.W.fnOf "_law_cell" "_law_cell" (defArgs s__law_cell) (defBody s__law_cell) (defScope s__law_cell) .none kV12 dc12 pm12 an12 cd12 ct12), sl12⟩) (c12' : PySem.W.codeIn K cd12 "_law_cell" = true) (k12 : PySem.W.keepIn K (.ref f12) = true)
    (a13 : PySem.W.nsIn K mainGlobals "_law_drawn" = some (some (.ref f13))) (l13 : K.lookup f13 = some ⟨oc13, od13, .func (PySem.W.fnOf "_law_drawn" "_law_drawn" (defArgs s__law_drawn) (defBody s__law_drawn) (defScope s__law_drawn) .none kV13 dc13 pm13 an13 cd13 ct13), sl13⟩) (c13' : PySem.W.codeIn K cd13 "_law_drawn" = true) (k13 : PySem.W.keepIn K (.ref f13) = true)
    (a14 : PySem.W.nsIn K mainGlobals "_law_word" = some (some (.ref f14))) (l14 : K.lookup f14 = some ⟨oc14, od14, .func (PySem.W.fnOf "_law_word" "_law_word" (defArgs s__law_word) (defBody s__law_word) (defScope s__law_word) .none kV14 dc14 pm14 an14 cd14 ct14), sl14⟩) (c14' : PySem.W.codeIn K cd14 "_law_word" = true) (k14 : PySem.W.keepIn K (.ref f14) = true)
    (a15 : PySem.W.nsIn K mainGlobals "_law_told" = some (some (.ref f15))) (l15 : K.lookup f15 = some ⟨oc15, od15, .func (PySem.W.fnOf "_law_told" "_law_told" (defArgs s__law_told) (defBody s__law_told) (defScope s__law_told) .none kV15 dc15 pm15 an15 cd15 ct15), sl15⟩) (c15' : PySem.W.codeIn K cd15 "_law_told" = true) (k15 : PySem.W.keepIn K (.ref f15) = true)
    (a16 : PySem.W.nsIn K mainGlobals "_law_bits" = some (some (.ref f16))) (l16 : K.lookup f16 = some ⟨oc16, od16, .func (PySem.W.fnOf "_law_bits" "_law_bits" (defArgs s__law_bits) (defBody s__law_bits) (defScope s__law_bits) .none kV16 dc16 pm16 an16 cd16 ct16), sl16⟩) (c16' : PySem.W.codeIn K cd16 "_law_bits" = true) (k16 : PySem.W.keepIn K (.ref f16) = true)
    (a17 : PySem.W.nsIn K mainGlobals "_law_text" = some (some (.ref f17))) (l17 : K.lookup f17 = some ⟨oc17, od17, .func (PySem.W.fnOf "_law_text" "_law_text" (defArgs s__law_text) (defBody s__law_text) (defScope s__law_text) .none kV17 dc17 pm17 an17 cd17 ct17), sl17⟩) (c17' : PySem.W.codeIn K cd17 "_law_text" = true) (k17 : PySem.W.keepIn K (.ref f17) = true)
    (a18 : PySem.W.nsIn K mainGlobals "_law_least" = some (some (.ref f18))) (l18 : K.lookup f18 = some ⟨oc18, od18, .func (PySem.W.fnOf "_law_least" "_law_least" (defArgs s__law_least) (defBody s__law_least) (defScope s__law_least) .none kV18 dc18 pm18 an18 cd18 ct18), sl18⟩) (c18' : PySem.W.codeIn K cd18 "_law_least" = true) (k18 : PySem.W.keepIn K (.ref f18) = true)
    (a19 : PySem.W.nsIn K mainGlobals "_law_read" = some (some (.ref f19))) (l19 : K.lookup f19 = some ⟨oc19, od19, .func (PySem.W.fnOf "_law_read" "_law_read" (defArgs s__law_read) (defBody s__law_read) (defScope s__law_read) .none kV19 dc19 pm19 an19 cd19 ct19), sl19⟩) (c19' : PySem.W.codeIn K cd19 "_law_read" = true) (k19 : PySem.W.keepIn K (.ref f19) = true)
    (a20 : PySem.W.nsIn K mainGlobals "_law_refused_right" = some (some (.ref f20))) (l20 : K.lookup f20 = some ⟨oc20, od20, .func (PySem.W.fnOf "_law_refused_right" "_law_refused_right" (defArgs s__law_refused_right) (defBody s__law_refused_right) (defScope s__law_refused_right) .none kV20 dc20 pm20 an20 (.ref cc20) ct20), sl20⟩) (c20' : PySem.W.codeIn K (.ref cc20) "_law_refused_right" = true) (k20 : PySem.W.keepIn K (.ref f20) = true) (lc20 : K.lookup cc20 = some ⟨ee20, dd20, .fields vv20, ss20⟩) (hh20 : vv20[11]? = some (.ref pp20)) (hd20 : PySem.W.codeHdIn K cc20 pp20 = true) (np20 : K.lookup pp20 = none)
    (a21 : PySem.W.nsIn K mainGlobals "law" = some (some (.ref f21))) (l21 : K.lookup f21 = some ⟨oc21, od21, .func (PySem.W.fnOf "law" "law" (defArgs s_law) (defBody s_law) (defScope s_law) .none kV21 dc21 pm21 an21 (.ref cc21) ct21), sl21⟩) (c21' : PySem.W.codeIn K (.ref cc21) "law" = true) (k21 : PySem.W.keepIn K (.ref f21) = true) (lc21 : K.lookup cc21 = some ⟨ee21, dd21, .fields vv21, ss21⟩) (hh21 : vv21[11]? = some (.ref pp21)) (hd21 : PySem.W.codeHdIn K cc21 pp21 = true) (np21 : K.lookup pp21 = none)
    (nd : decide ([pp20, pp21].Nodup) = true)
    (z_range : PySem.W.nsIn K mainGlobals "range" = some none)
    (z_str : PySem.W.nsIn K mainGlobals "str" = some none)
    (z_isinstance : PySem.W.nsIn K mainGlobals "isinstance" = some none)
    (z_int : PySem.W.nsIn K mainGlobals "int" = some none)
    (z_all : PySem.W.nsIn K mainGlobals "all" = some none)
    (z_max : PySem.W.nsIn K mainGlobals "max" = some none)
    (z_sum : PySem.W.nsIn K mainGlobals "sum" = some none)
    (z_len : PySem.W.nsIn K mainGlobals "len" = some none)
    (z_enumerate : PySem.W.nsIn K mainGlobals "enumerate" = some none)
    (z_sorted : PySem.W.nsIn K mainGlobals "sorted" = some none)
    (z_ord : PySem.W.nsIn K mainGlobals "ord" = some none)
    (z_set : PySem.W.nsIn K mainGlobals "set" = some none)
    (z_bool : PySem.W.nsIn K mainGlobals "bool" = some none)
    (z_min : PySem.W.nsIn K mainGlobals "min" = some none)
    (z_list : PySem.W.nsIn K mainGlobals "list" = some none)
    (z_ValueError : PySem.W.nsIn K mainGlobals "ValueError" = some none)
    (z_tuple : PySem.W.nsIn K mainGlobals "tuple" = some none)
    (g_MOST_COUNTS : PySem.W.nsIn K mainGlobals "MOST_COUNTS" = some (some (.int 94 t_MOST_COUNTS)))
    (g_FIRST : PySem.W.nsIn K mainGlobals "FIRST" = some (some (.str " " t_FIRST)))
    (g_LAST : PySem.W.nsIn K mainGlobals "LAST" = some (some (.str "~" t_LAST)))
    (g_BARRED : PySem.W.nsIn K mainGlobals "BARRED" = some (some (.int 37 t_BARRED)))
    (g_MOST : PySem.W.nsIn K mainGlobals "MOST" = some (some (.int 512 t_MOST)))
    (xT : PySem.W.nsIn K mainGlobals "TerseError" = some (some (.ref CT)))
    (x0 : PySem.W.nsIn K mainGlobals "BadNumber" = some (some (.ref c0)))
    (x1 : PySem.W.nsIn K mainGlobals "BadBits" = some (some (.ref c1)))
    (x2 : PySem.W.nsIn K mainGlobals "BadPlace" = some (some (.ref c2)))
    (x3 : PySem.W.nsIn K mainGlobals "BadText" = some (some (.ref c3)))
    (x4 : PySem.W.nsIn K mainGlobals "BadCode" = some (some (.ref c4)))
    (x5 : PySem.W.nsIn K mainGlobals "BadTree" = some (some (.ref c5)))
    (x6 : PySem.W.nsIn K mainGlobals "TooMany" = some (some (.ref c6)))
    (xe : [c0, c1, c2, c3, c4, c5, c6].all (excB K CT) = true) (xk : kitB K [c0, c1, c2, c3, c4, c5, c6] = true) : LamX.LawAtS l w K (L2N.CX l.prog w) 8 63 "script" mg fa h := by
  have tx : Txt K mg CT c0 c1 c2 c3 c4 c5 c6 := ⟨PySem.W.mg_none_of X G z_range,
    PySem.W.mg_none_of X G z_str,
    PySem.W.mg_none_of X G z_isinstance,
    PySem.W.mg_none_of X G z_int,
    PySem.W.mg_none_of X G z_all,
    PySem.W.mg_none_of X G z_max,
    PySem.W.mg_none_of X G z_sum,
    PySem.W.mg_none_of X G z_len,
    PySem.W.mg_none_of X G z_enumerate,
    PySem.W.mg_none_of X G z_sorted,
    PySem.W.mg_none_of X G z_ord,
    PySem.W.mg_none_of X G z_set,
    PySem.W.mg_none_of X G z_bool,
    PySem.W.mg_none_of X G z_min,
    PySem.W.mg_none_of X G z_list,
    PySem.W.mg_none_of X G z_ValueError,
    PySem.W.mg_none_of X G z_tuple,
    ⟨_, PySem.W.mg_of X G g_MOST_COUNTS⟩,
    ⟨_, PySem.W.mg_of X G g_FIRST⟩,
    ⟨_, PySem.W.mg_of X G g_LAST⟩,
    ⟨_, PySem.W.mg_of X G g_BARRED⟩,
    ⟨_, PySem.W.mg_of X G g_MOST⟩,
    tab_mk X G xT x0 x1 x2 x3 x4 x5 x6 xe xk,
    fnT_mk X G a0 l0 c0' k0 (fun fd F => F.binds (ps := ["number", "wide"]) fun _ _ _ _ _ _ us hl => match us, hl with | [_, _], _ => rfl),
    fnT_mk X G a1 l1 c1' k1 (fun fd F => F.binds (ps := ["some"]) fun _ _ _ _ _ _ us hl => match us, hl with | [_], _ => rfl),
    fnT_mk X G a2 l2 c2' k2 (fun fd F => F.binds (ps := ["some"]) fun _ _ _ _ _ _ us hl => match us, hl with | [_], _ => rfl),
    fnT_mk X G a3 l3 c3' k3 (fun fd F => F.binds (ps := ["thing"]) fun _ _ _ _ _ _ us hl => match us, hl with | [_], _ => rfl),
    fnT_mk X G a4 l4 c4' k4 (fun fd F => F.binds (ps := ["text"]) fun _ _ _ _ _ _ us hl => match us, hl with | [_], _ => rfl),
    fnT_mk X G a5 l5 c5' k5 (fun fd F => F.binds (ps := ["text"]) fun _ _ _ _ _ _ us hl => match us, hl with | [_], _ => rfl),
    fnT_mk X G a6 l6 c6' k6 (fun fd F => F.binds (ps := ["thing"]) fun _ _ _ _ _ _ us hl => match us, hl with | [_], _ => rfl),
    fnT_mk X G a7 l7 c7' k7 (fun fd F => F.binds (ps := ["counts"]) fun _ _ _ _ _ _ us hl => match us, hl with | [_], _ => rfl),
    fnT_mk X G a8 l8 c8' k8 (fun fd F => F.binds (ps := ["counts"]) fun _ _ _ _ _ _ us hl => match us, hl with | [_], _ => rfl),
    fnT_mk X G a9 l9 c9' k9 (fun fd F => F.binds (ps := ["text"]) fun _ _ _ _ _ _ us hl => match us, hl with | [_], _ => rfl),
    fnT_mk X G a10 l10 c10' k10 (fun fd F => F.binds (ps := ["bits"]) fun _ _ _ _ _ _ us hl => match us, hl with | [_], _ => rfl),
    fnT_mk X G a11 l11 c11' k11 (fun fd F => F.binds (ps := ["letters", "some", "many", "bits"]) fun _ _ _ _ _ _ us hl => match us, hl with | [_, _, _, _], _ => rfl),
    fnT_mk X G a12 l12 c12' k12 (fun fd F => F.binds (ps := ["script", "k"]) fun _ _ _ _ _ _ us hl => match us, hl with | [_, _], _ => rfl),
    fnT_mk X G a13 l13 c13' k13 (fun fd F => F.binds (ps := ["cell", "k"]) fun _ _ _ _ _ _ us hl => match us, hl with | [_, _], _ => rfl),
    fnT_mk X G a14 l14 c14' k14 (fun fd F => F.binds (ps := ["e"]) fun _ _ _ _ _ _ us hl => match us, hl with | [_], _ => rfl),
    fnT_mk X G a15 l15 c15' k15 (fun fd F => F.binds (ps := ["deed"]) fun _ _ _ _ _ _ us hl => match us, hl with | [_], _ => rfl),
    fnT_mk X G a16 l16 c16' k16 (fun fd F => F.binds (ps := ["number", "wide"]) fun _ _ _ _ _ _ us hl => match us, hl with | [_, _], _ => rfl),
    fnT_mk X G a17 l17 c17' k17 (fun fd F => F.binds (ps := ["more", "most"]) fun _ _ _ _ _ _ us hl => match us, hl with | [_, _], _ => rfl),
    fnT_mk X G a18 l18 c18' k18 (fun fd F => F.binds (ps := ["counts"]) fun _ _ _ _ _ _ us hl => match us, hl with | [_], _ => rfl),
    fnT_mk X G a19 l19 c19' k19 (fun fd F => F.binds (ps := ["letters", "row", "many", "bits"]) fun _ _ _ _ _ _ us hl => match us, hl with | [_, _, _, _], _ => rfl)⟩
  have nd' : (([(pp20, lamQ "_law_refused_right"), (pp21, lamQ "law")] : List (Addr × Str)).map (·.1)).Nodup := of_decide_eq_true nd
  have L20 : ∀ base : Heap, (∀ p ∈ ([(cc20, pp20), (cc21, pp21)] : List (Addr × Addr)), LamX.TabB base mg p.1 p.2) → FnLam K mg base [(pp20, lamQ "_law_refused_right"), (pp21, lamQ "law")] "_law_refused_right" s__law_refused_right ["letters", "some", "many", "bits"] := fun base TB => ⟨f20, cc20, pp20, oc20, od20, an20, sl20, kV20, dc20, pm20, ct20, ⟨l20, c20', k20, (fun_mk l20 c20' k20).binds (ps := ["letters", "some", "many", "bits"]) (fun _ _ _ _ _ _ us hl => match us, hl with | [_, _, _, _], _ => rfl), PySem.W.mg_of X G a20, lm_mk nd' TB List.mem_cons_self List.mem_cons_self⟩⟩
  refine law_atN (st := s_law) (cdv := .ref cc21) (an := an21) (kV := kV21) (doc := dc21) (pm := pm21) (ct := ct21) [(cc20, pp20), (cc21, pp21)] [(pp20, lamQ "_law_refused_right"), (pp21, lamQ "law")] ?_ X G hfa a21 ?_ (fun s v => .of_eq rfl) law_true fun base KX G' TB => ok_law tx ⟨L20 base TB⟩ (lm_mk nd' TB (List.mem_cons_of_mem _ List.mem_cons_self) (List.mem_cons_of_mem _ List.mem_cons_self)) l21 c21'
  · exact fun p hp => (List.mem_cons.mp hp).elim (fun e => e ▸ ⟨_, List.mem_cons_self, rfl⟩) fun hp => (List.mem_cons.mp hp).elim (fun e => e ▸ ⟨_, (List.mem_cons_of_mem _ List.mem_cons_self), rfl⟩) fun hp => by cases hp
  · exact fun p hp => (List.mem_cons.mp hp).elim (fun e => e ▸ (tabK_mk (mg := mg) X (own "_law_refused_right" List.mem_cons_self _ (PySem.W.mg_of X G a20)) l20 lc20 hh20 hd20 np20)) fun hp => (List.mem_cons.mp hp).elim (fun e => e ▸ (tabK_mk (mg := mg) X (own "law" (List.mem_cons_of_mem _ List.mem_cons_self) _ (PySem.W.mg_of X G a21)) l21 lc21 hh21 hd21 np21)) fun hp => by cases hp
end Lw
open PySem PySem.W PyProof.Rows
set_option maxHeartbeats 0 in
theorem PySem.Challenge.cw_tersewood_k41_whole_coded_holds : PySem.Challenge.rw_tersewood_k41_whole_coded.Holds := by
  w_on; o_law; k_head; (case hw => w_witness2)
  k_fill
  refine Dn.walk_ofOwns ["_law_refused_right", "law"] (l := PySem.Challenge.rw_tersewood_k41_whole_coded) (n := 63) (k := 8) (x := "script") (CX := fun w => L2N.CX (PySem.Challenge.rw_tersewood_k41_whole_coded).prog w) rfl (by decide) rfl ⟨rfl, by decide, by decide⟩ (by kernel_rfl) (fun w h Y => PySem.W.km_in_of Y) ?F (fun w H s e s' hh => by
    obtain ⟨_, _, _, _, _, _, _, _, _, _, _, _, z⟩ := hh
    exact z.elim)
  case F =>
    intro w mg fa h Y KX G hmg own
    refine' Lw.all_mk KX G hmg own ?a0 ?l0 ?c0' ?k0 ?a1 ?l1 ?c1' ?k1 ?a2 ?l2 ?c2' ?k2 ?a3 ?l3 ?c3' ?k3 ?a4 ?l4 ?c4' ?k4 ?a5 ?l5 ?c5' ?k5 ?a6 ?l6 ?c6' ?k6 ?a7 ?l7 ?c7' ?k7 ?a8 ?l8 ?c8' ?k8 ?a9 ?l9 ?c9' ?k9 ?a10 ?l10 ?c10' ?k10 ?a11 ?l11 ?c11' ?k11 ?a12 ?l12 ?c12' ?k12 ?a13 ?l13 ?c13' ?k13 ?a14 ?l14 ?c14' ?k14 ?a15 ?l15 ?c15' ?k15 ?a16 ?l16 ?c16' ?k16 ?a17 ?l17 ?c17' ?k17 ?a18 ?l18 ?c18' ?k18 ?a19 ?l19 ?c19' ?k19 ?a20 ?l20 ?c20' ?k20 ?lc20 ?hh20 ?hd20 ?np20 ?a21 ?l21 ?c21' ?k21 ?lc21 ?hh21 ?hd21 ?np21 ?nd ?z_range ?z_str ?z_isinstance ?z_int ?z_all ?z_max ?z_sum ?z_len ?z_enumerate ?z_sorted ?z_ord ?z_set ?z_bool ?z_min ?z_list ?z_ValueError ?z_tuple ?g_MOST_COUNTS ?g_FIRST ?g_LAST ?g_BARRED ?g_MOST ?xT ?x0 ?x1 ?x2 ?x3 ?x4 ?x5 ?x6 ?xe ?xk
    (case a0 => k_is)
    (case l0 => k_is)
    (case c0' => k_is)
    (case k0 => k_is)
    (case a1 => k_is)
    (case l1 => k_is)
    (case c1' => k_is)
    (case k1 => k_is)
    (case a2 => k_is)
    (case l2 => k_is)
    (case c2' => k_is)
    (case k2 => k_is)
    (case a3 => k_is)
    (case l3 => k_is)
    (case c3' => k_is)
    (case k3 => k_is)
    (case a4 => k_is)
    (case l4 => k_is)
    (case c4' => k_is)
    (case k4 => k_is)
    (case a5 => k_is)
    (case l5 => k_is)
    (case c5' => k_is)
    (case k5 => k_is)
    (case a6 => k_is)
    (case l6 => k_is)
    (case c6' => k_is)
    (case k6 => k_is)
    (case a7 => k_is)
    (case l7 => k_is)
    (case c7' => k_is)
    (case k7 => k_is)
    (case a8 => k_is)
    (case l8 => k_is)
    (case c8' => k_is)
    (case k8 => k_is)
    (case a9 => k_is)
    (case l9 => k_is)
    (case c9' => k_is)
    (case k9 => k_is)
    (case a10 => k_is)
    (case l10 => k_is)
    (case c10' => k_is)
    (case k10 => k_is)
    (case a11 => k_is)
    (case l11 => k_is)
    (case c11' => k_is)
    (case k11 => k_is)
    (case a12 => k_is)
    (case l12 => k_is)
    (case c12' => k_is)
    (case k12 => k_is)
    (case a13 => k_is)
    (case l13 => k_is)
    (case c13' => k_is)
    (case k13 => k_is)
    (case a14 => k_is)
    (case l14 => k_is)
    (case c14' => k_is)
    (case k14 => k_is)
    (case a15 => k_is)
    (case l15 => k_is)
    (case c15' => k_is)
    (case k15 => k_is)
    (case a16 => k_is)
    (case l16 => k_is)
    (case c16' => k_is)
    (case k16 => k_is)
    (case a17 => k_is)
    (case l17 => k_is)
    (case c17' => k_is)
    (case k17 => k_is)
    (case a18 => k_is)
    (case l18 => k_is)
    (case c18' => k_is)
    (case k18 => k_is)
    (case a19 => k_is)
    (case l19 => k_is)
    (case c19' => k_is)
    (case k19 => k_is)
    (case a20 => k_is)
    (case l20 => k_is)
    (case c20' => k_is)
    (case k20 => k_is)
    (case lc20 => k_is)
    (case hh20 => rfl)
    (case hd20 => kernel_rfl)
    (case np20 => kernel_rfl)
    (case a21 => k_is)
    (case l21 => k_is)
    (case c21' => k_is)
    (case k21 => k_is)
    (case lc21 => k_is)
    (case hh21 => rfl)
    (case hd21 => kernel_rfl)
    (case np21 => kernel_rfl)
    (case nd => kernel_rfl)
    (case z_range => k_is)
    (case z_str => k_is)
    (case z_isinstance => k_is)
    (case z_int => k_is)
    (case z_all => k_is)
    (case z_max => k_is)
    (case z_sum => k_is)
    (case z_len => k_is)
    (case z_enumerate => k_is)
    (case z_sorted => k_is)
    (case z_ord => k_is)
    (case z_set => k_is)
    (case z_bool => k_is)
    (case z_min => k_is)
    (case z_list => k_is)
    (case z_ValueError => k_is)
    (case z_tuple => k_is)
    (case g_MOST_COUNTS => k_is)
    (case g_FIRST => k_is)
    (case g_LAST => k_is)
    (case g_BARRED => k_is)
    (case g_MOST => k_is)
    (case xT => k_is)
    (case x0 => k_is)
    (case x1 => k_is)
    (case x2 => k_is)
    (case x3 => k_is)
    (case x4 => k_is)
    (case x5 => k_is)
    (case x6 => k_is)
    (case xe => kernel_rfl)
    (case xk => kernel_rfl)
