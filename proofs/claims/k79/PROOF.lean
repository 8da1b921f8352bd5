import PyProof.Rows.All
import Wide.All
import OpenK.AllK
import Wide.FinOn
import HandS.ForMost
import HandS.TupAny
import HandS.TupMul
import HandS.Wide
import HandS.Deep
import HandS.IsInst
import HandS.Conv
import HandS.Zip
import HandS.Style
import KE.SortData
import KE.KTupSum
import KE.OsSortAny
import HandS.More
import KE.GoesEnum
import HandS.Walk
import HandS.Comp
import HandS.Words
import HandS.Defaults
import HandS.Flow
import PyProof.P3In
import HandS.EndBits
import HandS.SetFor
import HandS.CallLocal
import HandS.Exc
import KE.DataMinMax
import KE.KIndexOf
import KE.DataFind
import HandS.Remove
import HandS.DictComp
import PySem.Challenge.RW_anyworths_k79_whole_drawn_losses_struck
set_option Elab.async false
set_option linter.all false
section
set_option Elab.async false
set_option linter.all false
set_option autoImplicit false
set_option maxRecDepth 100000
set_option maxHeartbeats 2000000
namespace Fl
open PySem PySem.Spec PyProof.Rows L2

/-! ### data -/
inductive D where
  | non
  | bl (b : Bool)
  | int (i : Int)
  | str (s : Str)
  | tup (l : List D)
  | tp (l : List D)
  | lst (l : List D)
  | obj (c : Nat) (l : List D)
  | fn (c : Nat)
  deriving Inhabited

/-- what an owned slot holds -/
inductive O where
  | lst (l : List D)
  | dT (kvs : List (List Key × D))
  | dK (kvs : List (Key × D))
  | ll (l : List (List D))

inductive Slot where
  | sh (d : D)
  | own (f : Bool) (o : O)

abbrev Fenv := List (Option Slot)

/-- the program's classes by number: address, attribute names -/
structure Tab where
  cls : Nat → Option (Addr × List Str)
  fns : Nat → Option Addr := fun _ => none

/-! ### heaps -/
def Ex (H H' : Hp) : Prop := ∀ a o, H a = some o → H' a = some o
theorem Ex.refl (H : Hp) : Ex H H := fun _ _ h => h
theorem Ex.trans {H H1 H2 : Hp} (a : Ex H H1) (b : Ex H1 H2) : Ex H H2 := fun x o h => b x o (a x o h)
theorem Ex.new {H : Hp} {p : Addr} {o : HO} (h : H p = none) : Ex H (upd H p o) := fun a u e => by
  rw [upd_ne (ne_of_none e h)]
  exact e
theorem Ex.free {H H' : Hp} {p : Addr} (e : Ex H H') (h : H' p = none) : H p = none := by
  cases q : H p with
  | none => rfl
  | some o => rw [e p o q] at h; cases h
theorem Ex.upd {H H' : Hp} {p : Addr} {o : HO} (e : Ex H H') : Ex (upd H p o) (upd H' p o) := fun a u h => by
  by_cases q : a = p
  · subst q; rw [upd_same] at h ⊢; exact h
  · rw [upd_ne q] at h ⊢; exact e a u h
/-- an object that H does not know may change -/
theorem Ex.mut {H H' : Hp} {p : Addr} {o : HO} (e : Ex H H') (h : H p = none) : Ex H (L2.upd H' p o) := fun a u ha => by
  rw [upd_ne (ne_of_none ha h)]
  exact e a u ha
theorem Ex.rd {H H' : Hp} {a : Addr} {u : HO} (e : Ex H H') (h : Rd H a u) : Rd H' a u := by
  rcases h with h | ⟨o, h⟩
  · exact Or.inl (e a _ h)
  · exact Or.inr ⟨o, e a _ h⟩

/-! ### data in a heap -/
mutual
inductive Rep (T : Tab) (G : Hp) : D → V → Prop
  | non : Rep T G .non .non
  | bl (b : Bool) : Rep T G (.bl b) (.bl b)
  | int (i : Int) : Rep T G (.int i) (.int i)
  | str (s : Str) : Rep T G (.str s) (.str s)
  | tup {a : Addr} {xs : List V} {ds : List D} : G a = some (.tup xs) → Reps T G ds xs → Rep T G (.tup ds) (.ref a)
  | tp {a : Addr} {o : Obj} {xs : List V} {ds : List D} : G a = some (.frz o (.tup xs)) → o.dict = none → Reps T G ds xs → Rep T G (.tp ds) (.ref a)
  | lst {a : Addr} {xs : List V} {ds : List D} : G a = some (.lst xs) → Reps T G ds xs → Rep T G (.lst ds) (.ref a)
  | obj {a C dx : Addr} {c : Nat} {ns : List Str} {xs : List V} {ds : List D} : T.cls c = some (C, ns) → G a = some (.ins C dx (ns.zip xs)) → ns.length = xs.length → Reps T G ds xs → Rep T G (.obj c ds) (.ref a)
  | fn {c : Nat} {f : Addr} : T.fns c = some f → Rep T G (.fn c) (.ref f)
inductive Reps (T : Tab) (G : Hp) : List D → List V → Prop
  | nil : Reps T G [] []
  | cons {d : D} {v : V} {ds : List D} {vs : List V} : Rep T G d v → Reps T G ds vs → Reps T G (d :: ds) (v :: vs)
end

mutual
theorem Rep.mono {T : Tab} {G G' : Hp} (e : Ex G G') : ∀ {d : D} {v : V}, Rep T G d v → Rep T G' d v
  | _, _, .non => .non
  | _, _, .bl b => .bl b
  | _, _, .int i => .int i
  | _, _, .str s => .str s
  | _, _, .tup h r => .tup (e _ _ h) (Reps.mono e r)
  | _, _, .tp h hd r => .tp (e _ _ h) hd (Reps.mono e r)
  | _, _, .lst h r => .lst (e _ _ h) (Reps.mono e r)
  | _, _, .obj c h l r => .obj c (e _ _ h) l (Reps.mono e r)
  | _, _, .fn h => .fn h
theorem Reps.mono {T : Tab} {G G' : Hp} (e : Ex G G') : ∀ {ds : List D} {vs : List V}, Reps T G ds vs → Reps T G' ds vs
  | _, _, .nil => .nil
  | _, _, .cons h r => .cons (Rep.mono e h) (Reps.mono e r)
end

section
variable {T : Tab} {G G' : Hp}
theorem Reps.length {ds : List D} {vs : List V} (r : Reps T G ds vs) : ds.length = vs.length := by
  induction ds generalizing vs with
  | nil => cases r; rfl
  | cons d ds ih => cases r with | cons h r => simp [ih r]
theorem Reps.get {ds : List D} {vs : List V} {i : Nat} {d : D} (r : Reps T G ds vs) (h : ds[i]? = some d) : ∃ v, vs[i]? = some v ∧ Rep T G d v := by
  induction ds generalizing vs i with
  | nil => simp at h
  | cons a ds ih =>
    cases r with
    | cons h1 r =>
      cases i with
      | zero => simp at h; subst h; exact ⟨_, rfl, h1⟩
      | succ i => simp at h; obtain ⟨v, e, q⟩ := ih r h; exact ⟨v, by simpa using e, q⟩
theorem Reps.get' {ds : List D} {vs : List V} {i : Nat} {v : V} (r : Reps T G ds vs) (h : vs[i]? = some v) : ∃ d, ds[i]? = some d ∧ Rep T G d v := by
  induction ds generalizing vs i with
  | nil => cases r; simp at h
  | cons a ds ih =>
    cases r with
    | cons h1 r =>
      cases i with
      | zero => simp at h; subst h; exact ⟨_, rfl, h1⟩
      | succ i => simp at h; obtain ⟨v, e, q⟩ := ih r h; exact ⟨v, by simpa using e, q⟩
theorem Reps.append {ds es : List D} {vs us : List V} (r : Reps T G ds vs) (q : Reps T G es us) : Reps T G (ds ++ es) (vs ++ us) := by
  induction ds generalizing vs with
  | nil => cases r; exact q
  | cons d ds ih => cases r with | cons h r => exact .cons h (ih r)
theorem Reps.set {ds : List D} {vs : List V} (i : Nat) {d : D} {v : V} (r : Reps T G ds vs) (q : Rep T G d v) : Reps T G (ds.set i d) (vs.set i v) := by
  induction ds generalizing vs i with
  | nil => cases r; exact .nil
  | cons d ds ih =>
    cases r with
    | cons h r =>
      cases i with
      | zero => exact .cons q r
      | succ i => exact .cons h (ih i r)
theorem Reps.take {ds : List D} {vs : List V} (n : Nat) (r : Reps T G ds vs) : Reps T G (ds.take n) (vs.take n) := by
  induction ds generalizing vs n with
  | nil => cases r; simpa using Reps.nil
  | cons d ds ih =>
    cases r with
    | cons h r =>
      cases n with
      | zero => exact .nil
      | succ n => exact .cons h (ih n r)
theorem Reps.drop {ds : List D} {vs : List V} (n : Nat) (r : Reps T G ds vs) : Reps T G (ds.drop n) (vs.drop n) := by
  induction ds generalizing vs n with
  | nil => cases r; simpa using Reps.nil
  | cons d ds ih =>
    cases r with
    | cons h r =>
      cases n with
      | zero => exact .cons h r
      | succ n => exact ih n r
theorem Reps.reverse {ds : List D} {vs : List V} (r : Reps T G ds vs) : Reps T G ds.reverse vs.reverse := by
  induction ds generalizing vs with
  | nil => cases r; exact .nil
  | cons d ds ih =>
    cases r with
    | cons h r => rw [List.reverse_cons, List.reverse_cons]; exact (ih r).append (.cons h .nil)
theorem Reps.ints {ns : List Int} {vs : List V} (r : Reps T G (ns.map D.int) vs) : vs = ns.map V.int := by
  induction ns generalizing vs with
  | nil => cases r; rfl
  | cons n ns ih => cases r with | cons h r => cases h; rw [ih r]; rfl
theorem Reps.of_ints (ns : List Int) : Reps T G (ns.map D.int) (ns.map V.int) := by
  induction ns with
  | nil => exact .nil
  | cons n ns ih => exact .cons (.int n) ih
end

/-! ### data without lists -/
mutual
def noL : D → Bool
  | .lst _ => false
  | .tup l => noLs l
  | .tp l => noLs l
  | .obj _ l => noLs l
  | _ => true
def noLs : List D → Bool
  | [] => true
  | d :: ds => noL d && noLs ds
end
/-- all but lists is kept -/
def ExN (G G' : Hp) : Prop := ∀ a o, G a = some o → (∀ xs, o ≠ .lst xs) → G' a = some o
mutual
theorem Rep.noL {T : Tab} {G G' : Hp} (e : ExN G G') : ∀ {d : D} {v : V}, Rep T G d v → noL d = true → Rep T G' d v
  | _, _, .non, _ => .non
  | _, _, .bl b, _ => .bl b
  | _, _, .int i, _ => .int i
  | _, _, .str s, _ => .str s
  | _, _, .tup h r, n => .tup (e _ _ h fun _ z => nomatch z) (Reps.noL e r (by simpa [Fl.noL] using n))
  | _, _, .tp h hd r, n => .tp (e _ _ h fun _ z => nomatch z) hd (Reps.noL e r (by simpa [Fl.noL] using n))
  | _, _, .lst h r, n => by simp [Fl.noL] at n
  | _, _, .obj c h l r, n => .obj c (e _ _ h fun _ z => nomatch z) l (Reps.noL e r (by simpa [Fl.noL] using n))
  | _, _, .fn h, _ => .fn h
theorem Reps.noL {T : Tab} {G G' : Hp} (e : ExN G G') : ∀ {ds : List D} {vs : List V}, Reps T G ds vs → noLs ds = true → Reps T G' ds vs
  | _, _, .nil, _ => .nil
  | _, _, .cons (d := d) (ds := ds) h r, n => by
    have n' : Fl.noL d = true ∧ noLs ds = true := by simpa [Fl.noLs] using n
    exact .cons (Rep.noL e h n'.1) (Reps.noL e r n'.2)
end

/-! ### owned objects -/
@[simp] def O.toD : O → D
  | .lst l => .lst l
  | .ll l => .lst (l.map .lst)
  | _ => .non
/-- one that may be frozen -/
@[simp] def O.frz : O → Bool
  | .lst _ => true
  | .ll _ => true
  | _ => false
def KVs (T : Tab) (G : Hp) {κ : Type} : List (κ × D) → List (κ × V) → Prop := Paired fun (p : κ × D) (q : κ × V) => p.1 = q.1 ∧ Rep T G p.2 q.2
theorem KVs.mono {T : Tab} {G G' : Hp} {κ : Type} (e : Ex G G') {l : List (κ × D)} {l' : List (κ × V)} (r : KVs T G l l') : KVs T G' l l' := Paired.mapP r fun _ _ h => ⟨h.1, h.2.mono e⟩
/-- inner lists, owned -/
def LLs (T : Tab) (G H : Hp) : List (List D) → List Addr → Prop := Paired fun (ds : List D) (a : Addr) => ∃ xs, H a = some (.lst xs) ∧ Reps T G ds xs
def OwnOk (T : Tab) (G H : Hp) : O → V → List Addr → Prop
  | .lst ds, v, fp => ∃ a xs, v = .ref a ∧ fp = [a] ∧ H a = some (.lst xs) ∧ Reps T G ds xs
  | .dT kvs, v, fp => ∃ a xs, v = .ref a ∧ fp = [a] ∧ H a = some (.dT xs) ∧ KVs T G kvs xs
  | .dK kvs, v, fp => ∃ a xs, v = .ref a ∧ fp = [a] ∧ H a = some (.dK xs) ∧ KVs T G kvs xs
  | .ll dss, v, fp => ∃ a as, v = .ref a ∧ fp = a :: as ∧ H a = some (.lst (as.map .ref)) ∧ LLs T G H dss as ∧ (a :: as).Nodup
theorem OwnOk.mono {T : Tab} {G G' H H' : Hp} {o : O} {v : V} {fp : List Addr} (e : Ex G G') (h : ∀ a ∈ fp, ∀ u, H a = some u → H' a = some u) (r : OwnOk T G H o v fp) : OwnOk T G' H' o v fp := by
  cases o with
  | lst ds => obtain ⟨a, xs, rfl, rfl, h1, h2⟩ := r; exact ⟨a, xs, rfl, rfl, h a (by simp) _ h1, h2.mono e⟩
  | dT ds => obtain ⟨a, xs, rfl, rfl, h1, h2⟩ := r; exact ⟨a, xs, rfl, rfl, h a (by simp) _ h1, h2.mono e⟩
  | dK ds => obtain ⟨a, xs, rfl, rfl, h1, h2⟩ := r; exact ⟨a, xs, rfl, rfl, h a (by simp) _ h1, h2.mono e⟩
  | ll ds =>
    obtain ⟨a, as, rfl, rfl, h1, h2, nd⟩ := r
    refine ⟨a, as, rfl, rfl, h a (by simp) _ h1, ?_, nd⟩
    have q : ∀ (l : List (List D)) (as' : List Addr), (∀ b ∈ as', b ∈ as) → LLs T G H l as' → LLs T G' H' l as' := by
      intro l as' hs hl
      induction hl with
      | nil => exact .nil
      | cons r1 r2 ih =>
        obtain ⟨xs, e1, e2⟩ := r1
        exact .cons ⟨xs, h _ (List.mem_cons_of_mem _ (hs _ (by simp))) _ e1, e2.mono e⟩ (ih fun b hb => hs b (by simp [hb]))
    exact q ds as (fun _ h => h) h2
theorem OwnOk.there {T : Tab} {G H : Hp} {o : O} {v : V} {fp : List Addr} (r : OwnOk T G H o v fp) : ∀ b ∈ fp, ∃ u, H b = some u ∧ ∀ xs, u ≠ .tup xs := by
  cases o with
  | lst ds => obtain ⟨a, xs, rfl, rfl, h1, h2⟩ := r; intro b hb; simp at hb; subst hb; exact ⟨_, h1, fun _ z => nomatch z⟩
  | dT ds => obtain ⟨a, xs, rfl, rfl, h1, h2⟩ := r; intro b hb; simp at hb; subst hb; exact ⟨_, h1, fun _ z => nomatch z⟩
  | dK ds => obtain ⟨a, xs, rfl, rfl, h1, h2⟩ := r; intro b hb; simp at hb; subst hb; exact ⟨_, h1, fun _ z => nomatch z⟩
  | ll ds =>
    obtain ⟨a, as, rfl, rfl, h1, h2, nd⟩ := r
    clear nd
    intro b hb
    rcases List.mem_cons.mp hb with hb | hb
    · subst hb; exact ⟨_, h1, fun _ z => nomatch z⟩
    · clear h1
      induction h2 with
      | nil => cases hb
      | cons r1 r2 ih =>
        rcases List.mem_cons.mp hb with hb' | hb'
        · subst hb'; obtain ⟨xs, e1, _⟩ := r1; exact ⟨_, e1, fun _ z => nomatch z⟩
        · exact ih (by simp [hb']) hb'
theorem refs_inj : ∀ (l l' : List Addr), l.map V.ref = l'.map V.ref → l = l'
  | [], [], _ => rfl
  | [], _ :: _, h => by simp at h
  | _ :: _, [], h => by simp at h
  | x :: l, y :: l', h => by
    simp only [List.map_cons, List.cons.injEq, V.ref.injEq] at h
    rw [h.1, refs_inj l l' h.2]
theorem OwnOk.fpEq {T : Tab} {G G' H : Hp} {o : O} {v : V} {fp fp2 : List Addr} (old : OwnOk T G H o v fp) (q2 : OwnOk T G' H o v fp2) : fp = fp2 := by
  cases o with
  | lst ds => obtain ⟨a, xs, rfl, rfl, _⟩ := old; obtain ⟨a2, xs2, z, rfl, _⟩ := q2; cases z; rfl
  | dT ds => obtain ⟨a, xs, rfl, rfl, _⟩ := old; obtain ⟨a2, xs2, z, rfl, _⟩ := q2; cases z; rfl
  | dK ds => obtain ⟨a, xs, rfl, rfl, _⟩ := old; obtain ⟨a2, xs2, z, rfl, _⟩ := q2; cases z; rfl
  | ll ds =>
    obtain ⟨a, as, rfl, rfl, z1, z2, _⟩ := old
    obtain ⟨a2, as2, z, rfl, z3, z4⟩ := q2
    cases z
    rw [z3] at z1
    have z5 := Option.some.inj z1
    injection z5 with z5
    rw [refs_inj _ _ z5]

/-! ### the state of a def's body -/
/-- the entry: the heap, what of it stands still, what may be changed -/
structure C0 where
  H0 : Hp
  G0 : Hp
  io : List Addr
/-- an owned address: the def's own (f) or one that it was given to change -/
def C0.mine (C : C0) (f : Bool) (b : Addr) : Prop := match f with
  | true => C.H0 b = none
  | false => b ∈ C.io
theorem C0.mine_or {C : C0} {f : Bool} {b : Addr} (h : C.mine f b) : C.H0 b = none ∨ b ∈ C.io := by
  cases f with
  | true => exact .inl h
  | false => exact .inr h
structure Sta (T : Tab) (C : C0) (ρ : Fenv) (σ : L2.St) (H G : Hp) : Prop where
  gh : Ex G H
  g0 : Ex C.G0 G
  h0 : ∀ a o, a ∉ C.io → C.H0 a = some o → H a = some o
  fr : ∀ a u, C.H0 a = some u → (∀ xs, u ≠ .tup xs) → C.G0 a = none → G a = none
  io : ∀ a ∈ C.io, ∃ u, H a = some u ∧ ∀ xs, u ≠ .tup xs
  len : σ.length = ρ.length
  sh : ∀ (i : Nat) (d : D), ρ[i]? = some (some (.sh d)) → ∃ v, σ[i]? = some (some v) ∧ Rep T G d v
  own : ∃ ow : Addr → Option Nat, ∀ (i : Nat) (f : Bool) (o : O), ρ[i]? = some (some (.own f o)) → ∃ v fp, σ[i]? = some (some v) ∧ OwnOk T G H o v fp ∧ ∀ b ∈ fp, ow b = some i ∧ G b = none ∧ C.mine f b

section
variable {T : Tab} {C : C0} {ρ : Fenv} {σ : L2.St} {H G H' G' : Hp}
/-- the callee's (or a new object's) step: all is kept, what is still and new is still -/
structure Stp (H G H' G' : Hp) : Prop where
  hh : Ex H H'
  gg : Ex G G'
  gh : Ex G' H'
  fr : ∀ a u, H a = some u → (∀ xs, u ≠ .tup xs) → G a = none → G' a = none
theorem Stp.trans {H1 G1 H2 G2 : Hp} (a : Stp H G H1 G1) (b : Stp H1 G1 H2 G2) : Stp H G H2 G2 :=
  ⟨a.hh.trans b.hh, a.gg.trans b.gg, b.gh, fun x u h t g => b.fr x u (a.hh x u h) t (a.fr x u h t g)⟩
theorem Stp.refl (h : Ex G H) : Stp H G H G := ⟨Ex.refl H, Ex.refl G, h, fun _ _ _ _ g => g⟩
theorem Stp.new {p : Addr} {o : HO} (h : Ex G H) (n : H p = none) : Stp H G (upd H p o) (upd G p o) :=
  ⟨Ex.new n, Ex.new (h.free n), h.upd, fun a u ha _ ga => by
    by_cases q : a = p
    · subst q; rw [n] at ha; cases ha
    · rw [upd_ne q]; exact ga⟩
theorem Stp.grow {p : Addr} {o : HO} (h : Ex G H) (n : H p = none) : Stp H G (upd H p o) G :=
  ⟨Ex.new n, Ex.refl G, h.mut (h.free n), fun _ _ _ _ g => g⟩
theorem Sta.stp (S : Sta T C ρ σ H G) (q : Stp H G H' G') : Sta T C ρ σ H' G' where
  gh := q.gh
  g0 := S.g0.trans q.gg
  h0 := fun a o h e => q.hh _ _ (S.h0 a o h e)
  fr := fun a u h t e => by
    by_cases z : a ∈ C.io
    · obtain ⟨w, hw, tw⟩ := S.io a z
      exact q.fr a w hw tw (S.fr a u h t e)
    · exact q.fr a u (S.h0 a u z h) t (S.fr a u h t e)
  io := fun a h => let ⟨u, e, t⟩ := S.io a h; ⟨u, q.hh a u e, t⟩
  len := S.len
  sh := fun i d h => let ⟨v, e, r⟩ := S.sh i d h; ⟨v, e, r.mono q.gg⟩
  own := by
    obtain ⟨ow, h⟩ := S.own
    refine ⟨ow, fun i f o e => ?_⟩
    obtain ⟨v, fp, e1, e2, e3⟩ := h i f o e
    exact ⟨v, fp, e1, e2.mono q.gg fun a _ u w => q.hh a u w, fun b hb => ⟨(e3 b hb).1, (let ⟨u, eu, tu⟩ := e2.there b hb; q.fr b u eu tu (e3 b hb).2.1), (e3 b hb).2.2⟩⟩
theorem Sta.newG (S : Sta T C ρ σ H G) {p : Addr} (n : H p = none) (o : HO) : Sta T C ρ σ (upd H p o) (upd G p o) := S.stp (Stp.new S.gh n)
theorem Sta.freeH0 (S : Sta T C ρ σ H G) {p : Addr} (n : H p = none) : C.H0 p = none := by
  cases w : C.H0 p with
  | none => rfl
  | some o =>
    by_cases z : p ∈ C.io
    · obtain ⟨u, e, _⟩ := S.io p z; rw [n] at e; cases e
    · rw [S.h0 p o z w] at n; cases n
/-- an owned object behind all slots -/
theorem Sta.push (S : Sta T C ρ σ H G) {o : O} {v : V} {fp : List Addr} (r : OwnOk T G H o v fp) (n : ∀ b ∈ fp, G b = none ∧ C.H0 b = none ∧ ∀ (i : Nat) (f : Bool) (o' : O) (v' : V) (fp' : List Addr), ρ[i]? = some (some (.own f o')) → σ[i]? = some (some v') → OwnOk T G H o' v' fp' → b ∉ fp') :
    Sta T C (ρ ++ [some (.own true o)]) (σ ++ [some v]) H G where
  gh := S.gh
  g0 := S.g0
  h0 := S.h0
  fr := S.fr
  io := S.io
  len := by simp [S.len]
  sh := fun i d h => by
    have hi : i < ρ.length := by
      rw [List.getElem?_append] at h
      split at h
      · assumption
      · rename_i hn
        cases e : i - ρ.length with
        | zero => rw [e] at h; simp at h
        | succ k => rw [e] at h; simp at h
    rw [List.getElem?_append_left hi] at h
    obtain ⟨w, e, q⟩ := S.sh i d h
    exact ⟨w, by rw [List.getElem?_append_left (by rw [S.len]; exact hi)]; exact e, q⟩
  own := by
    obtain ⟨ow, h⟩ := S.own
    refine ⟨fun b => if b ∈ fp then some ρ.length else ow b, fun i f o' e => ?_⟩
    by_cases hi : i < ρ.length
    · rw [List.getElem?_append_left hi] at e
      obtain ⟨w, fp', e1, e2, e3⟩ := h i f o' e
      refine ⟨w, fp', by rw [List.getElem?_append_left (by rw [S.len]; exact hi)]; exact e1, e2, fun b hb => ?_⟩
      have hn : b ∉ fp := fun z => (n b z).2.2 i f o' w fp' e e1 e2 hb
      exact ⟨by show (if b ∈ fp then some ρ.length else ow b) = _; rw [if_neg hn]; exact (e3 b hb).1, (e3 b hb).2⟩
    · have ei : i = ρ.length := by
        rw [List.getElem?_append_right (by omega)] at e
        cases q : i - ρ.length with
        | zero => omega
        | succ k => rw [q] at e; simp at e
      subst ei
      rw [List.getElem?_append_right (Nat.le_refl _), Nat.sub_self] at e
      simp at e
      obtain ⟨rfl, rfl⟩ := e
      refine ⟨v, fp, by rw [List.getElem?_append_right (by rw [S.len]; exact Nat.le_refl _), S.len]; simp, r, fun b hb => ⟨if_pos hb, (n b hb).1, (n b hb).2.1⟩⟩
/-- .. that is new -/
theorem Sta.pushNew (S : Sta T C ρ σ H G) {o : O} {p : Addr} {u : HO} (n : H p = none) (r : OwnOk T G (upd H p u) o (.ref p) [p]) : Sta T C (ρ ++ [some (.own true o)]) (σ ++ [some (.ref p)]) (upd H p u) G := by
  refine (S.stp (Stp.grow S.gh n)).push r fun b hb => ?_
  have e : b = p := by simpa using hb
  subst e
  refine ⟨S.gh.free n, S.freeH0 n, fun i f o' v' fp' e1 e2 e3 hb' => ?_⟩
  obtain ⟨ow, h⟩ := S.own
  obtain ⟨w, fp2, q1, q2, q3⟩ := h i f o' e1
  rw [e2] at q1; cases q1
  have hfp : fp' = fp2 := e3.fpEq (q2.mono (Ex.refl G) fun c hc u hu => Ex.new n c u hu)
  subst hfp
  obtain ⟨u, eu, _⟩ := q2.there b hb'
  rw [n] at eu
  cases eu
theorem Sta.pop {x : Option Slot} {y : Option V} (S : Sta T C (ρ ++ [x]) (σ ++ [y]) H G) : Sta T C ρ σ H G where
  gh := S.gh
  g0 := S.g0
  h0 := S.h0
  fr := S.fr
  io := S.io
  len := by have := S.len; simpa using this
  sh := fun i d h => by
    have hi : i < ρ.length := (List.getElem?_eq_some_iff.mp h).1
    obtain ⟨w, e, q⟩ := S.sh i d (by rw [List.getElem?_append_left hi]; exact h)
    have hl : σ.length = ρ.length := by have := S.len; simpa using this
    exact ⟨w, by rw [List.getElem?_append_left (by omega)] at e; exact e, q⟩
  own := by
    obtain ⟨ow, h⟩ := S.own
    refine ⟨ow, fun i f o e => ?_⟩
    have hi : i < ρ.length := (List.getElem?_eq_some_iff.mp e).1
    obtain ⟨w, fp, e1, e2, e3⟩ := h i f o (by rw [List.getElem?_append_left hi]; exact e)
    have hl : σ.length = ρ.length := by have := S.len; simpa using this
    exact ⟨w, fp, by rw [List.getElem?_append_left (by omega)] at e1; exact e1, e2, e3⟩

theorem Sta.assignSh (S : Sta T C ρ σ H G) {i : Nat} {d : D} {v : V} (r : Rep T G d v) : Sta T C (ρ.set i (some (.sh d))) (σ.set i (some v)) H G where
  gh := S.gh
  g0 := S.g0
  h0 := S.h0
  fr := S.fr
  io := S.io
  len := by simp [S.len]
  sh := fun j e h => by
    by_cases q : i = j
    · subst q
      have hi : i < ρ.length := by have := (List.getElem?_eq_some_iff.mp h).1; simpa using this
      rw [List.getElem?_set_self hi] at h
      cases h
      exact ⟨v, List.getElem?_set_self (by rw [S.len]; exact hi), r⟩
    · rw [List.getElem?_set_ne q] at h
      obtain ⟨w, e1, e2⟩ := S.sh j e h
      exact ⟨w, by rw [List.getElem?_set_ne q]; exact e1, e2⟩
  own := by
    obtain ⟨ow, h⟩ := S.own
    refine ⟨ow, fun j f o e => ?_⟩
    by_cases q : i = j
    · subst q
      have hi : i < ρ.length := by have := (List.getElem?_eq_some_iff.mp e).1; simpa using this
      rw [List.getElem?_set_self hi] at e
      cases e
    · rw [List.getElem?_set_ne q] at e
      obtain ⟨w, fp, e1, e2, e3⟩ := h j f o e
      exact ⟨w, fp, by rw [List.getElem?_set_ne q]; exact e1, e2, e3⟩
theorem Sta.assignNo (S : Sta T C ρ σ H G) {i : Nat} {y : Option V} : Sta T C (ρ.set i none) (σ.set i y) H G where
  gh := S.gh
  g0 := S.g0
  h0 := S.h0
  fr := S.fr
  io := S.io
  len := by simp [S.len]
  sh := fun j e h => by
    by_cases q : i = j
    · subst q
      have hi : i < ρ.length := by have := (List.getElem?_eq_some_iff.mp h).1; simpa using this
      rw [List.getElem?_set_self hi] at h
      cases h
    · rw [List.getElem?_set_ne q] at h
      obtain ⟨w, e1, e2⟩ := S.sh j e h
      exact ⟨w, by rw [List.getElem?_set_ne q]; exact e1, e2⟩
  own := by
    obtain ⟨ow, h⟩ := S.own
    refine ⟨ow, fun j f o e => ?_⟩
    by_cases q : i = j
    · subst q
      have hi : i < ρ.length := by have := (List.getElem?_eq_some_iff.mp e).1; simpa using this
      rw [List.getElem?_set_self hi] at e
      cases e
    · rw [List.getElem?_set_ne q] at e
      obtain ⟨w, fp, e1, e2, e3⟩ := h j f o e
      exact ⟨w, fp, by rw [List.getElem?_set_ne q]; exact e1, e2, e3⟩
theorem Sta.assignOwn {i : Nat} {o : O} {v : V} (S : Sta T C (ρ ++ [some (.own true o)]) (σ ++ [some v]) H G) : Sta T C (ρ.set i (some (.own true o))) (σ.set i (some v)) H G where
  gh := S.gh
  g0 := S.g0
  h0 := S.h0
  fr := S.fr
  io := S.io
  len := by have := S.len; simpa using this
  sh := fun j e h => by
    have hl : σ.length = ρ.length := by have := S.len; simpa using this
    by_cases q : i = j
    · subst q
      have hi : i < ρ.length := by have := (List.getElem?_eq_some_iff.mp h).1; simpa using this
      rw [List.getElem?_set_self hi] at h
      cases h
    · rw [List.getElem?_set_ne q] at h
      have hj : j < ρ.length := (List.getElem?_eq_some_iff.mp h).1
      obtain ⟨w, e1, e2⟩ := S.sh j e (by rw [List.getElem?_append_left hj]; exact h)
      rw [List.getElem?_append_left (by omega)] at e1
      exact ⟨w, by rw [List.getElem?_set_ne q]; exact e1, e2⟩
  own := by
    have hl : σ.length = ρ.length := by have := S.len; simpa using this
    obtain ⟨ow, h⟩ := S.own
    refine ⟨fun b => if ow b = some ρ.length then some i else ow b, fun j f o' e => ?_⟩
    by_cases q : i = j
    · subst q
      have hi : i < ρ.length := by have := (List.getElem?_eq_some_iff.mp e).1; simpa using this
      rw [List.getElem?_set_self hi] at e
      cases e
      obtain ⟨w, fp, e1, e2, e3⟩ := h ρ.length true o (by rw [List.getElem?_append_right (Nat.le_refl _), Nat.sub_self]; rfl)
      rw [List.getElem?_append_right (by omega), ← hl, Nat.sub_self] at e1
      have e1' : v = w := by simpa using e1
      subst e1'
      refine ⟨v, fp, List.getElem?_set_self (by omega), e2, fun b hb => ⟨if_pos (e3 b hb).1, (e3 b hb).2⟩⟩
    · rw [List.getElem?_set_ne q] at e
      have hj : j < ρ.length := (List.getElem?_eq_some_iff.mp e).1
      obtain ⟨w, fp, e1, e2, e3⟩ := h j f o' (by rw [List.getElem?_append_left hj]; exact e)
      rw [List.getElem?_append_left (by omega)] at e1
      refine ⟨w, fp, by rw [List.getElem?_set_ne q]; exact e1, e2, fun b hb => ⟨?_, (e3 b hb).2⟩⟩
      show (if ow b = some ρ.length then some i else ow b) = some j
      rw [(e3 b hb).1, if_neg (by intro z; have := Option.some.inj z; omega)]
/-- the owned object of slot i is changed -/
theorem Sta.updOwn (S : Sta T C ρ σ H G) {i : Nat} {f : Bool} {o o' : O} {v : V} {fp fp' : List Addr} (h1 : ρ[i]? = some (some (.own f o)))
    (ch : ∀ b u, b ∉ fp → H b = some u → H' b = some u) (th : ∀ b u, H b = some u → (∀ xs, u ≠ .tup xs) → ∃ u', H' b = some u' ∧ ∀ xs, u' ≠ .tup xs) (hi : σ[i]? = some (some v)) (old : OwnOk T G H o v fp) (new : OwnOk T G H' o' v fp') (sub : ∀ b ∈ fp', b ∈ fp ∨ (f = true ∧ H b = none)) :
    Sta T C (ρ.set i (some (.own f o'))) σ H' G := by
  obtain ⟨ow, h⟩ := S.own
  obtain ⟨w, fp2, q1, q2, q3⟩ := h i f o h1
  rw [hi] at q1; cases q1
  have hfp : fp = fp2 := old.fpEq q2
  subst hfp
  have hi' : i < ρ.length := (List.getElem?_eq_some_iff.mp h1).1
  refine ⟨fun b u e => ch b u (fun z => by rw [(q3 b z).2.1] at e; cases e) (S.gh b u e), S.g0, fun a u hn e => ?_, S.fr, fun a ha => let ⟨u, e, t⟩ := S.io a ha; th a u e t, by simp [S.len], fun j d e => ?_, ?_⟩
  · refine ch a u (fun z => ?_) (S.h0 a u hn e)
    rcases C0.mine_or (q3 a z).2.2 with y | y
    · rw [y] at e; cases e
    · exact hn y
  · by_cases q : i = j
    · subst q
      rw [List.getElem?_set_self hi'] at e
      cases e
    · rw [List.getElem?_set_ne q] at e
      exact S.sh j d e
  · refine ⟨fun b => if b ∈ fp' then some i else ow b, fun j g o2 e => ?_⟩
    by_cases q : i = j
    · subst q
      rw [List.getElem?_set_self hi'] at e
      cases e
      refine ⟨v, fp', hi, new, fun b hb => ⟨if_pos hb, ?_⟩⟩
      rcases sub b hb with y | y
      · exact (q3 b y).2
      · obtain ⟨yf, y⟩ := y
        subst yf
        exact ⟨S.gh.free y, S.freeH0 y⟩
    · rw [List.getElem?_set_ne q] at e
      obtain ⟨w2, fp2, e1, e2, e3⟩ := h j g o2 e
      have nb : ∀ b ∈ fp2, b ∉ fp := fun b hb z => by
        have y1 := (e3 b hb).1
        rw [(q3 b z).1] at y1
        exact q (Option.some.inj y1)
      refine ⟨w2, fp2, e1, e2.mono (Ex.refl G) fun b hb u hu => ch b u (nb b hb) hu, fun b hb => ⟨?_, (e3 b hb).2⟩⟩
      show (if b ∈ fp' then some i else ow b) = some j
      rw [if_neg fun z => (sub b z).elim (nb b hb) fun y => by obtain ⟨u, eu, _⟩ := e2.there b hb; rw [y.2] at eu; cases eu]
      exact (e3 b hb).1
end

/-! ### freezing -/
/-- the addresses fp of H are put to what stands still -/
def frzH (H G : Hp) (fp : List Addr) : Hp := fun b => if b ∈ fp then H b else G b
/-- .. are taken away -/
def lessH (G : Hp) (fp : List Addr) : Hp := fun b => if b ∈ fp then none else G b
section
variable {T : Tab} {C : C0} {ρ : Fenv} {σ : L2.St} {H G H' G' : Hp} {fp : List Addr}
theorem frz_ex (n : ∀ b ∈ fp, G b = none) : Ex G (frzH H G fp) := fun b u e => by
  unfold frzH
  rw [if_neg fun z => by rw [n b z] at e; cases e]
  exact e
theorem frz_le (h : Ex G H) : Ex (frzH H G fp) H := fun b u e => by
  unfold frzH at e
  split at e
  · exact e
  · exact h b u e
theorem OwnOk.frz {o : O} {v : V} (r : OwnOk T G H o v fp) (n : ∀ b ∈ fp, G b = none) (f : o.frz = true) : Rep T (frzH H G fp) o.toD v := by
  cases o with
  | lst ds =>
    obtain ⟨a, xs, rfl, rfl, h1, h2⟩ := r
    exact .lst (by unfold frzH; rw [if_pos (by simp)]; exact h1) (h2.mono (frz_ex n))
  | dT ds => simp [O.frz] at f
  | dK ds => simp [O.frz] at f
  | ll ds =>
    obtain ⟨a, as, rfl, rfl, h1, h2, nd⟩ := r
    clear nd
    have e := frz_ex (H := H) n
    refine .lst (by unfold frzH; rw [if_pos (by simp)]; exact h1) ?_
    have q : ∀ (l : List (List D)) (as' : List Addr), (∀ b ∈ as', b ∈ as) → LLs T G H l as' → Reps T (frzH H G (a :: as)) (l.map .lst) (as'.map .ref) := by
      intro l as' hs hl
      induction hl with
      | nil => exact .nil
      | cons r1 r2 ih =>
        obtain ⟨xs, e1, e2⟩ := r1
        refine .cons (.lst ?_ (e2.mono e)) (ih fun b hb => hs b (by simp [hb]))
        unfold frzH
        rw [if_pos (List.mem_cons_of_mem _ (hs _ (by simp)))]
        exact e1
    exact q ds as (fun _ h => h) h2
/-- the last one, for good -/
theorem Sta.freezeLast {o : O} {v : V} (S : Sta T C (ρ ++ [some (.own true o)]) (σ ++ [some v]) H G) (f : o.frz = true) :
    ∃ G', Sta T C ρ σ H G' ∧ Ex G G' ∧ Rep T G' o.toD v := by
  have hl : σ.length = ρ.length := by have := S.len; simpa using this
  obtain ⟨ow, h⟩ := S.own
  obtain ⟨w, fp, e1, e2, e3⟩ := h ρ.length true o (by rw [List.getElem?_append_right (Nat.le_refl _), Nat.sub_self]; rfl)
  rw [List.getElem?_append_right (by omega), ← hl, Nat.sub_self] at e1
  have e1' : v = w := by simpa using e1
  subst e1'
  have n : ∀ b ∈ fp, G b = none := fun b hb => (e3 b hb).2.1
  have P := S.pop
  refine ⟨frzH H G fp, ⟨frz_le S.gh, S.g0.trans (frz_ex n), S.h0, fun a u ha ta ga => ?_, S.io, P.len, fun i d e => ?_, ow, fun i g o' e => ?_⟩, frz_ex n, e2.frz n f⟩
  · unfold frzH
    rw [if_neg fun z => by have y : C.H0 a = none := (e3 a z).2.2; rw [y] at ha; cases ha]
    exact S.fr a u ha ta ga
  · obtain ⟨w, q1, q2⟩ := P.sh i d e
    exact ⟨w, q1, q2.mono (frz_ex n)⟩
  · have hi : i < ρ.length := (List.getElem?_eq_some_iff.mp e).1
    obtain ⟨w, fp', q1, q2, q3⟩ := h i g o' (by rw [List.getElem?_append_left hi]; exact e)
    rw [List.getElem?_append_left (by omega)] at q1
    refine ⟨w, fp', q1, q2.mono (frz_ex n) fun _ _ _ z => z, fun b hb => ⟨(q3 b hb).1, ?_, (q3 b hb).2.2⟩⟩
    unfold frzH
    rw [if_neg fun z => ?_]
    · exact (q3 b hb).2.1
    · have y1 := (e3 b z).1
      rw [(q3 b hb).1] at y1
      have := Option.some.inj y1
      omega
/-- slot i, for good -/
theorem Sta.freezeAt (S : Sta T C ρ σ H G) {i : Nat} {o : O} (hi : ρ[i]? = some (some (.own true o))) (f : o.frz = true) :
    ∃ G', Sta T C (ρ.set i (some (.sh o.toD))) σ H G' ∧ Ex G G' := by
  obtain ⟨ow, h⟩ := S.own
  obtain ⟨v, fp, e1, e2, e3⟩ := h i true o hi
  have n : ∀ b ∈ fp, G b = none := fun b hb => (e3 b hb).2.1
  have hl : i < ρ.length := (List.getElem?_eq_some_iff.mp hi).1
  refine ⟨frzH H G fp, ⟨frz_le S.gh, S.g0.trans (frz_ex n), S.h0, fun a u ha ta ga => ?_, S.io, by simp [S.len], fun j d e => ?_, ow, fun j g o' e => ?_⟩, frz_ex n⟩
  · unfold frzH
    rw [if_neg fun z => by have y : C.H0 a = none := (e3 a z).2.2; rw [y] at ha; cases ha]
    exact S.fr a u ha ta ga
  · by_cases q : i = j
    · subst q
      rw [List.getElem?_set_self hl] at e
      cases e
      exact ⟨v, e1, e2.frz n f⟩
    · rw [List.getElem?_set_ne q] at e
      obtain ⟨w, q1, q2⟩ := S.sh j d e
      exact ⟨w, q1, q2.mono (frz_ex n)⟩
  · by_cases q : i = j
    · subst q
      rw [List.getElem?_set_self hl] at e
      cases e
    · rw [List.getElem?_set_ne q] at e
      obtain ⟨w, fp', q1, q2, q3⟩ := h j g o' e
      refine ⟨w, fp', q1, q2.mono (frz_ex n) fun _ _ _ z => z, fun b hb => ⟨(q3 b hb).1, ?_, (q3 b hb).2.2⟩⟩
      unfold frzH
      rw [if_neg fun z => ?_]
      · exact (q3 b hb).2.1
      · have y1 := (e3 b z).1
        rw [(q3 b hb).1] at y1
        exact q (Option.some.inj y1).symm
/-- slot i, for a while: what is reckoned meanwhile changes no owned object -/
theorem Sta.lend (S : Sta T C ρ σ H G) {i : Nat} {g : Bool} {o : O} (hi : ρ[i]? = some (some (.own g o))) (f : o.frz = true) :
    ∃ fp v, σ[i]? = some (some v) ∧ OwnOk T G H o v fp ∧ (∀ b ∈ fp, G b = none) ∧ (∀ b ∈ fp, ∃ xs, H b = some (.lst xs)) ∧ Sta T { C with G0 := frzH H C.G0 fp } (ρ.set i (some (.sh o.toD))) σ H (frzH H G fp) ∧
      ∀ H' G', Ex H H' → Ex (frzH H G fp) G' → Sta T { C with G0 := frzH H C.G0 fp } (ρ.set i (some (.sh o.toD))) σ H' G' → Sta T C ρ σ H' (lessH G' fp) := by
  obtain ⟨ow, h⟩ := S.own
  obtain ⟨v, fp, e1, e2, e3⟩ := h i g o hi
  have n : ∀ b ∈ fp, G b = none := fun b hb => (e3 b hb).2.1
  have n0 : ∀ b ∈ fp, C.G0 b = none := fun b hb => S.g0.free (n b hb)
  have hl : i < ρ.length := (List.getElem?_eq_some_iff.mp hi).1
  have lsts : ∀ b ∈ fp, ∃ xs, H b = some (.lst xs) := by
    cases o with
    | lst ds => obtain ⟨a, xs, rfl, rfl, h1, h2⟩ := e2; intro b hb; simp at hb; subst hb; exact ⟨_, h1⟩
    | dT ds => simp [O.frz] at f
    | dK ds => simp [O.frz] at f
    | ll ds =>
      obtain ⟨a, as, rfl, rfl, h1, h2, nd⟩ := e2
      clear nd
      intro b hb
      rcases List.mem_cons.mp hb with hb | hb
      · subst hb; exact ⟨_, h1⟩
      · clear h1 e1 e3 n n0 hi f
        induction h2 with
        | nil => cases hb
        | cons r1 r2 ih =>
          rcases List.mem_cons.mp hb with hb' | hb'
          · subst hb'; obtain ⟨xs, e1, _⟩ := r1; exact ⟨_, e1⟩
          · exact ih (List.mem_cons_of_mem _ hb') hb'
  refine ⟨fp, v, e1, e2, n, lsts, ⟨frz_le S.gh, fun b u e => ?_, S.h0, fun a u ha ta ga => ?_, S.io, by simp [S.len], fun j d e => ?_, ow, fun j g' o' e => ?_⟩, fun H' G' hh gg S' => ?_⟩
  · show frzH H G fp b = some u
    have e : frzH H C.G0 fp b = some u := e
    unfold frzH at e ⊢
    split
    · rename_i z; rw [if_pos z] at e; exact e
    · rename_i z; rw [if_neg z] at e; exact S.g0 b u e
  · show frzH H G fp a = none
    have ga : frzH H C.G0 fp a = none := ga
    unfold frzH at ga ⊢
    split
    · rename_i z; rw [if_pos z] at ga; exact ga
    · rename_i z; rw [if_neg z] at ga; exact S.fr a u ha ta ga
  · by_cases q : i = j
    · subst q
      rw [List.getElem?_set_self hl] at e
      cases e
      exact ⟨v, e1, e2.frz n f⟩
    · rw [List.getElem?_set_ne q] at e
      obtain ⟨w, q1, q2⟩ := S.sh j d e
      exact ⟨w, q1, q2.mono (frz_ex n)⟩
  · by_cases q : i = j
    · subst q
      rw [List.getElem?_set_self hl] at e
      cases e
    · rw [List.getElem?_set_ne q] at e
      obtain ⟨w, fp', q1, q2, q3⟩ := h j g' o' e
      refine ⟨w, fp', q1, q2.mono (frz_ex n) fun _ _ _ z => z, fun b hb => ⟨(q3 b hb).1, ?_, (q3 b hb).2.2⟩⟩
      unfold frzH
      rw [if_neg fun z => ?_]
      · exact (q3 b hb).2.1
      · have y1 := (e3 b z).1
        rw [(q3 b hb).1] at y1
        exact q (Option.some.inj y1).symm
  · have gl : Ex G (lessH G' fp) := fun b u e => by
      unfold lessH
      rw [if_neg fun z => by rw [n b z] at e; cases e]
      exact gg b u (frz_ex n b u e)
    refine ⟨fun b u e => ?_, S.g0.trans gl, fun a u hn e => hh a u (S.h0 a u hn e), fun a u ha ta ga => ?_, fun a ha => let ⟨u, e, t⟩ := S.io a ha; ⟨u, hh a u e, t⟩, S.len, fun j d e => ?_, ow, fun j g' o' e => ?_⟩
    · unfold lessH at e
      split at e
      · cases e
      · exact S'.gh b u e
    · unfold lessH
      split
      · rfl
      · rename_i z
        refine S'.fr a u ha ta ?_
        show frzH H C.G0 fp a = none
        unfold frzH
        rw [if_neg z]
        exact ga
    · obtain ⟨w, q1, q2⟩ := S.sh j d e
      exact ⟨w, q1, q2.mono gl⟩
    · obtain ⟨w, fp', q1, q2, q3⟩ := h j g' o' e
      refine ⟨w, fp', q1, q2.mono gl fun b _ u z => hh b u z, fun b hb => ⟨(q3 b hb).1, ?_, (q3 b hb).2.2⟩⟩
      unfold lessH
      split
      · rfl
      · rename_i z
        by_cases q : i = j
        · subst q
          have eo : some (some (Slot.own g o)) = some (some (Slot.own g' o')) := hi.symm.trans e
          cases eo
          rw [e1] at q1
          cases q1
          have := e2.fpEq q2
          subst this
          exact absurd hb z
        · obtain ⟨ow2, h2⟩ := S'.own
          obtain ⟨w2, fp2, y1, y2, y3⟩ := h2 j g' o' (by rw [List.getElem?_set_ne q]; exact e)
          have q1' : σ[j]? = some (some w) := q1
          rw [q1'] at y1
          cases y1
          have := (q2.mono (G' := G') (gl.trans fun b u e => by unfold lessH at e; split at e; cases e; exact e) fun b _ u z => hh b u z).fpEq y2
          subst this
          exact (y3 b hb).2.1
/-- what has no list does not lean on a lent one -/
theorem lent_rep {d : D} {v : V} (r : Rep T G' d v) (h : noL d = true) (ls : ∀ b ∈ fp, ∃ xs, H b = some (.lst xs)) (gg : Ex (frzH H G fp) G') : Rep T (lessH G' fp) d v :=
  r.noL (fun a o e hn => by
    unfold lessH
    rw [if_neg fun z => ?_]
    · exact e
    · obtain ⟨xs, q⟩ := ls a z
      have := gg a (.lst xs) (by unfold frzH; rw [if_pos z]; exact q)
      rw [this] at e
      cases e
      exact hn xs rfl) h
end
end Fl
end

section
set_option Elab.async false
set_option linter.all false
set_option autoImplicit false
set_option maxRecDepth 100000
set_option maxHeartbeats 2000000
namespace Fl
open PySem PySem.Spec PyProof.Rows L2

abbrev FE := Fenv → Option (D × Fenv)
abbrev FT := Fenv → Option (Bool × Fenv)
abbrev FA := Fenv → Option (List D × Fenv)
abbrev FO := Fenv → Option (O × Fenv)

structure Nxt (T : Tab) (C : C0) (ρ : Fenv) (σ : L2.St) (pu : Bool) (H G H' G' : Hp) : Prop where
  st : Sta T C ρ σ H' G'
  ex : Ex G G'
  pu : pu = true → Ex H H'
section
variable {T : Tab} {C : C0} {ρ ρ' : Fenv} {σ σ' : L2.St} {pu pv : Bool} {H G H' G' H2 G2 : Hp}
theorem Nxt.refl (S : Sta T C ρ σ H G) : Nxt T C ρ σ pu H G H G := ⟨S, Ex.refl G, fun _ => Ex.refl H⟩
theorem Nxt.trans (a : Nxt T C ρ σ pu H G H' G') (b : Nxt T C ρ' σ' pv H' G' H2 G2) : Nxt T C ρ' σ' (pu && pv) H G H2 G2 :=
  ⟨b.st, a.ex.trans b.ex, fun h => by
    rw [Bool.and_eq_true] at h
    exact (a.pu h.1).trans (b.pu h.2)⟩
theorem Nxt.stp (a : Nxt T C ρ σ pu H G H' G') (b : Stp H' G' H2 G2) : Nxt T C ρ σ pu H G H2 G2 := ⟨a.st.stp b, a.ex.trans b.gg, fun h => (a.pu h).trans b.hh⟩
theorem Nxt.weak (a : Nxt T C ρ σ true H G H' G') : Nxt T C ρ σ pu H G H' G' := ⟨a.st, a.ex, fun _ => a.pu rfl⟩
theorem Nxt.no (a : Nxt T C ρ σ pu H G H' G') : Nxt T C ρ σ false H G H' G' := ⟨a.st, a.ex, fun h => nomatch h⟩
end

/-! ### judgements -/
def tD (T : Tab) (pu : Bool) (f : FE) : TE := fun σ H Q => ∃ C ρ G d ρ', Sta T C ρ σ H G ∧ f ρ = some (d, ρ') ∧ ∀ v H' G', Nxt T C ρ' σ pu H G H' G' → Rep T G' d v → Q v H'
def tBl (T : Tab) (pu : Bool) (f : FT) : TT := fun σ H Q => ∃ C ρ G b ρ', Sta T C ρ σ H G ∧ f ρ = some (b, ρ') ∧ ∀ H' G', Nxt T C ρ' σ pu H G H' G' → Q b H'
def tDs (T : Tab) (pu : Bool) (f : FA) : TA := fun σ H Q => ∃ C ρ G ds ρ', Sta T C ρ σ H G ∧ f ρ = some (ds, ρ') ∧ ∀ vs H' G', Nxt T C ρ' σ pu H G H' G' → Reps T G' ds vs → Q vs H'
def tOw (T : Tab) (pu : Bool) (f : FO) : TE := fun σ H Q => ∃ C ρ G o ρ', Sta T C ρ σ H G ∧ f ρ = some (o, ρ') ∧ ∀ v H' G', Nxt T C (ρ' ++ [some (.own true o)]) (σ ++ [some v]) pu H G H' G' → Q v H'
/-- a pure reading leaves the slots -/
def Same1 {α : Type} (pu : Bool) (f : Fenv → Option (α × Fenv)) : Prop := pu = true → ∀ ρ a ρ', f ρ = some (a, ρ') → ρ' = ρ
structure PEf (X : Cx) (T : Tab) (pu : Bool) (e : Expr) (f : FE) : Prop where
  pe : PE X e (tD T pu f)
  same : Same1 pu f
structure PTf (X : Cx) (T : Tab) (pu : Bool) (e : Expr) (f : FT) : Prop where
  pt : PT X e (tBl T pu f)
  same : Same1 pu f
structure PWf (X : Cx) (T : Tab) (pu : Bool) (e : Expr) (f : FT) : Prop where
  pw : PW X e (tBl T pu f)
  same : Same1 pu f
structure PAf (X : Cx) (T : Tab) (pu : Bool) (es : List Expr) (f : FA) : Prop where
  pa : PA X es (tDs T pu f)
  same : Same1 pu f
structure PEo (X : Cx) (T : Tab) (pu : Bool) (e : Expr) (f : FO) : Prop where
  pe : PE X e (tOw T pu f)
  same : Same1 pu f

theorem _root_.L2.PE.imp {X : Cx} {e : Expr} {t t' : TE} (h : PE X e t) (k : ∀ σ H Q, t' σ H Q → t σ H Q) : PE X e t' := ⟨fun pins s σ H Q I q => h.run pins s σ H Q I (k σ H Q q)⟩
theorem _root_.L2.PT.imp {X : Cx} {e : Expr} {t t' : TT} (h : PT X e t) (k : ∀ σ H Q, t' σ H Q → t σ H Q) : PT X e t' := ⟨fun pins s σ H Q I q => h.run pins s σ H Q I (k σ H Q q)⟩
theorem _root_.L2.PW.imp {X : Cx} {e : Expr} {t t' : TT} (h : PW X e t) (k : ∀ σ H Q, t' σ H Q → t σ H Q) : PW X e t' := ⟨fun wh pins s σ H Q I q => h.run wh pins s σ H Q I (k σ H Q q)⟩
theorem _root_.L2.PA.imp {X : Cx} {es : List Expr} {t t' : TA} (h : PA X es t) (k : ∀ σ H Q, t' σ H Q → t σ H Q) : PA X es t' := ⟨fun pos pins s σ H Q I q => h.run pos pins s σ H Q I (k σ H Q q)⟩
theorem _root_.L2.PS.imp {X : Cx} {st : Stmt} {t t' : TS} (h : PS X st t) (k : ∀ D σ H, t' D σ H → t D σ H) : PS X st t' := ⟨fun pins s σ H D I q => h.run pins s σ H D I (k D σ H q)⟩
theorem _root_.L2.PSs.imp {X : Cx} {st : List Stmt} {t t' : TS} (h : PSs X st t) (k : ∀ D σ H, t' D σ H → t D σ H) : PSs X st t' := ⟨fun pins s σ H D I q => h.run pins s σ H D I (k D σ H q)⟩

/-! ### what operators do with data -/
/-- two values -/
def Lift2 (T : Tab) (r : R2) (g : D → D → Option D) : Prop := ∀ (H G : Hp) (dx dy : D) (x y : V) (dz : D), Ex G H → Rep T G dx x → Rep T G dy y → g dx dy = some dz → ∀ Q : VK, (∀ v H' G', Stp H G H' G' → Rep T G' dz v → Q v H') → r x y H Q
/-- .. a new list -/
def Lift2O (T : Tab) (r : R2) (g : D → D → Option (List D)) : Prop := ∀ (H G : Hp) (dx dy : D) (x y : V) (l : List D), Ex G H → Rep T G dx x → Rep T G dy y → g dx dy = some l → ∀ Q : VK, (∀ p xs, H p = none → Reps T G l xs → Q (.ref p) (upd H p (.lst xs))) → r x y H Q
def Lift1 (T : Tab) (r : V → Hp → VK → Prop) (g : D → Option D) : Prop := ∀ (H G : Hp) (dx : D) (x : V) (dz : D), Ex G H → Rep T G dx x → g dx = some dz → ∀ Q : VK, (∀ v H' G', Stp H G H' G' → Rep T G' dz v → Q v H') → r x H Q
def LiftN (T : Tab) (r : List V → Hp → VK → Prop) (g : List D → Option D) : Prop := ∀ (H G : Hp) (ds : List D) (xs : List V) (dz : D), Ex G H → Reps T G ds xs → g ds = some dz → ∀ Q : VK, (∀ v H' G', Stp H G H' G' → Rep T G' dz v → Q v H') → r xs H Q
def LiftNO (T : Tab) (r : List V → Hp → VK → Prop) (g : List D → Option (List D)) : Prop := ∀ (H G : Hp) (ds : List D) (xs : List V) (l : List D), Ex G H → Reps T G ds xs → g ds = some l → ∀ Q : VK, (∀ p ys, H p = none → Reps T G l ys → Q (.ref p) (upd H p (.lst ys))) → r xs H Q
def LiftT (T : Tab) (r : V → Hp → (Bool → Hp → Prop) → Prop) (g : D → Option Bool) : Prop := ∀ (H G : Hp) (dx : D) (x : V) (b : Bool), Ex G H → Rep T G dx x → g dx = some b → ∀ Q : Bool → Hp → Prop, Q b H → r x H Q

theorem Lift2.or {T : Tab} {r r' : R2} {g g' : D → D → Option D} (a : Lift2 T r g) (b : Lift2 T r' g') : Lift2 T (fun x y H Q => r x y H Q ∨ r' x y H Q) (fun x y => (g x y).or (g' x y)) := by
  intro H G dx dy x y dz e rx ry h Q k
  have h : (g dx dy).or (g' dx dy) = some dz := h
  cases q : g dx dy with
  | some z => rw [q] at h; exact .inl (a H G dx dy x y dz e rx ry (by rw [q]; exact h) Q k)
  | none => rw [q] at h; exact .inr (b H G dx dy x y dz e rx ry h Q k)
theorem LiftN.or {T : Tab} {r r' : List V → Hp → VK → Prop} {g g' : List D → Option D} (a : LiftN T r g) (b : LiftN T r' g') : LiftN T (fun x H Q => r x H Q ∨ r' x H Q) (fun x => (g x).or (g' x)) := by
  intro H G dx x dz e rx h Q k
  have h : (g dx).or (g' dx) = some dz := h
  cases q : g dx with
  | some z => rw [q] at h; exact .inl (a H G dx x dz e rx (by rw [q]; exact h) Q k)
  | none => rw [q] at h; exact .inr (b H G dx x dz e rx h Q k)

/-! ### readings of expressions -/
@[simp] def fVar (i : Nat) : FE := fun ρ => match ρ[i]? with
  | some (some (.sh d)) => some (d, ρ)
  | _ => none
@[simp] def fC (d : D) : FE := fun ρ => some (d, ρ)
@[simp] def fBin {α : Type} (g : D → D → Option α) (a b : FE) : Fenv → Option (α × Fenv) := fun ρ => (a ρ).bind fun x => (b x.2).bind fun y => (g x.1 y.1).map fun z => (z, y.2)
@[simp] def fUn {α : Type} (g : D → Option α) (a : FE) : Fenv → Option (α × Fenv) := fun ρ => (a ρ).bind fun x => (g x.1).map fun z => (z, x.2)
@[simp] def fArgs {α : Type} (g : List D → Option α) (a : FA) : Fenv → Option (α × Fenv) := fun ρ => (a ρ).bind fun x => (g x.1).map fun z => (z, x.2)
@[simp] def fNil : FA := fun ρ => some ([], ρ)
@[simp] def fCons (a : FE) (r : FA) : FA := fun ρ => (a ρ).bind fun x => (r x.2).bind fun y => some (x.1 :: y.1, y.2)
@[simp] def fIf {α : Type} (t : FT) (a b : Fenv → Option (α × Fenv)) : Fenv → Option (α × Fenv) := fun ρ => (t ρ).bind fun x => if x.1 then a x.2 else b x.2
@[simp] def fAnd (t u : FT) : FT := fun ρ => (t ρ).bind fun x => if x.1 then u x.2 else some (false, x.2)
@[simp] def fOr (t u : FT) : FT := fun ρ => (t ρ).bind fun x => if x.1 then some (true, x.2) else u x.2
@[simp] def fNot (t : FT) : FT := fun ρ => (t ρ).bind fun x => some (!x.1, x.2)
@[simp] def dBool : D → Option Bool
  | .bl b => some b
  | _ => none
/-- a reading as a truth value, and back -/
@[simp] def fTest (a : FE) : FT := fUn dBool a
@[simp] def fVal (t : FT) : FE := fun ρ => (t ρ).bind fun x => some (.bl x.1, x.2)
/-- what owned list slot i is lent meanwhile -/
@[simp] def fLend {α : Type} (i : Nat) (ok : α → Bool) (f : Fenv → Option (α × Fenv)) : Fenv → Option (α × Fenv) := fun ρ => match ρ[i]? with
  | some (some (.own _ o)) => if o.frz then (f (ρ.set i (some (.sh o.toD)))).bind fun x => if ok x.1 then some (x.1, ρ) else none else none
  | _ => none
@[simp] def fFrz (f : FO) : FE := fun ρ => (f ρ).bind fun x => if x.1.frz then some (x.1.toD, x.2) else none
@[simp] def fLst (f : Fenv → Option (List D × Fenv)) : FO := fun ρ => (f ρ).bind fun x => some (.lst x.1, x.2)

section
variable {X : Cx} {T : Tab} {pu pa pb pc : Bool} {e a b c : Expr} {es : List Expr} {f fa fb fc : FE} {ft fu : FT} {fs : FA} {pos : Pos}

theorem Same1.bind {α β : Type} {f : Fenv → Option (α × Fenv)} {k : α × Fenv → Option (β × Fenv)} (h : Same1 pa f) (hk : ∀ x y, k x = some y → pb = true → y.2 = x.2) : Same1 (pa && pb) fun ρ => (f ρ).bind k := fun hp ρ z ρ' e => by
  rw [Bool.and_eq_true] at hp
  obtain ⟨x, e1, e2⟩ := Option.bind_eq_some_iff.mp e
  have := h hp.1 ρ x.1 x.2 e1
  rw [← this]
  exact hk x (z, ρ') e2 hp.2

theorem pef_var {i : Nat} {x : Str} (hN : X.N[i]? = some x := by rfl) (hv : Vis X.env.scope x := by first | exact Or.inl rfl | exact Or.inr (Or.inl rfl) | exact Or.inr (Or.inr rfl)) (hd : (x == ("__debug__" : Str)) = false := by decide) (hcd : (x == ("__classdict__" : Str)) = false := by decide) :
    PEf X T true (.Name x pos) (fVar i) where
  pe := (pe_var hN hv hd hcd).imp fun σ H Q ⟨C, ρ, G, d, ρ', S, h, k⟩ => by
    unfold fVar at h
    split at h
    · rename_i d' hi
      cases h
      obtain ⟨v, e, r⟩ := S.sh i d hi
      exact ⟨v, e, k v H G (Nxt.refl S) r⟩
    · cases h
  same := fun _ ρ d ρ' h => by
    unfold fVar at h
    split at h
    · cases h; rfl
    · cases h
theorem pef_c {d : D} {v : V} (h : PE X e (tC v)) (r : ∀ G, Rep T G d v) : PEf X T true e (fC d) where
  pe := h.imp fun σ H Q ⟨C, ρ, G, d', ρ', S, h, k⟩ => by
    cases h
    exact k v H G (Nxt.refl S) (r G)
  same := fun _ ρ d ρ' h => by cases h; rfl
theorem pef_int {i : Int} {j : Nat} : PEf X T true (.Constant (.int i) j pos) (fC (.int i)) := pef_c pe_int fun _ => .int i
theorem pef_bl {b : Bool} {j : Nat} : PEf X T true (.Constant (.bool b) j pos) (fC (.bl b)) := pef_c pe_bl fun _ => .bl b
theorem pef_non {j : Nat} : PEf X T true (.Constant .none j pos) (fC .non) := pef_c pe_non fun _ => .non
theorem pef_str {x : Str} {j : Nat} : PEf X T true (.Constant (.str x) j pos) (fC (.str x)) := pef_c pe_str fun _ => .str x
/-- a module's whole number -/
theorem pef_globI {x : Str} {i : Int} {t : Tok} (hg : Gl X x) (hm : X.mg x = some (.int i t)) (hd : (x == ("__debug__" : Str)) = false := by decide) : PEf X T true (.Name x pos) (fC (.int i)) :=
  pef_c (v := .int i) (pe_glob hg hm ⟨t, rfl⟩ hd) fun _ => .int i

theorem bin_run {r : R2} {α : Type} {g : D → D → Option α} (ha : PEf X T pa a fa) (hb : PEf X T pb b fb) {C : C0} {ρ ρ' : Fenv} {σ : L2.St} {H G : Hp} {z : α} {Q : VK} (S : Sta T C ρ σ H G) (h : fBin g fa fb ρ = some (z, ρ'))
    (k : ∀ dx dy x y H' G', Nxt T C ρ' σ (pa && pb) H G H' G' → Rep T G' dx x → Rep T G' dy y → g dx dy = some z → r x y H' Q) : tOp r (tD T pa fa) (tD T pb fb) σ H Q := by
  obtain ⟨⟨dx, ρ1⟩, e1, h⟩ := Option.bind_eq_some_iff.mp h
  obtain ⟨⟨dy, ρ2⟩, e2, h⟩ := Option.bind_eq_some_iff.mp h
  obtain ⟨z', e3, h⟩ := Option.map_eq_some_iff.mp h
  cases h
  refine ⟨C, ρ, G, dx, ρ1, S, e1, fun x H1 G1 n1 r1 => ⟨C, ρ1, G1, dy, ρ2, n1.st, e2, fun y H2 G2 n2 r2 => ?_⟩⟩
  exact k dx dy x y H2 G2 (n1.trans n2) (r1.mono n2.ex) r2 e3
theorem bin_same {α : Type} {g : D → D → Option α} (ha : Same1 pa fa) (hb : Same1 pb fb) : Same1 (pa && pb) (fBin g fa fb) := fun hp ρ z ρ' h => by
  rw [Bool.and_eq_true] at hp
  obtain ⟨⟨dx, ρ1⟩, e1, h⟩ := Option.bind_eq_some_iff.mp h
  obtain ⟨⟨dy, ρ2⟩, e2, h⟩ := Option.bind_eq_some_iff.mp h
  obtain ⟨z', e3, h⟩ := Option.map_eq_some_iff.mp h
  cases h
  exact (hb hp.2 _ _ _ e2).trans (ha hp.1 _ _ _ e1)
theorem pef_bin {r : R2} {g : D → D → Option D} (mk : ∀ {ta tb : TE}, PE X a ta → PE X b tb → PE X e (tOp r ta tb)) (l : Lift2 T r g) (ha : PEf X T pa a fa) (hb : PEf X T pb b fb) : PEf X T (pa && pb) e (fBin g fa fb) where
  pe := (mk ha.pe hb.pe).imp fun σ H Q ⟨C, ρ, G, d, ρ', S, h, k⟩ => bin_run ha hb S h fun dx dy x y H' G' n rx ry hz =>
    l H' G' dx dy x y d n.st.gh rx ry hz Q fun v H2 G2 q r => k v H2 G2 (n.stp q) r
  same := bin_same ha.same hb.same
theorem Nxt.push {C : C0} {ρ' : Fenv} {σ : L2.St} {H G H' G' : Hp} {l : List D} {xs : List V} {p : Addr} (n : Nxt T C ρ' σ pu H G H' G') (hp : H' p = none) (r : Reps T G' l xs) : Nxt T C (ρ' ++ [some (.own true (.lst l))]) (σ ++ [some (.ref p)]) pu H G (upd H' p (.lst xs)) G' :=
  ⟨n.st.pushNew hp ⟨p, xs, rfl, rfl, upd_same, r⟩, n.ex, fun h => (n.pu h).trans (Ex.new hp)⟩
theorem peo_bin {r : R2} {g : D → D → Option (List D)} (mk : ∀ {ta tb : TE}, PE X a ta → PE X b tb → PE X e (tOp r ta tb)) (l : Lift2O T r g) (ha : PEf X T pa a fa) (hb : PEf X T pb b fb) : PEo X T (pa && pb) e (fLst (fBin g fa fb)) where
  pe := (mk ha.pe hb.pe).imp fun σ H Q ⟨C, ρ, G, o, ρ', S, h, k⟩ => by
    obtain ⟨⟨l', ρ2⟩, h2, e⟩ := Option.bind_eq_some_iff.mp h
    cases e
    exact bin_run ha hb S h2 fun dx dy x y H' G' n rx ry hz => l H' G' dx dy x y l' n.st.gh rx ry hz Q fun p xs hp r => k _ _ _ (n.push hp r)
  same := fun hp ρ z ρ' h => by
    obtain ⟨⟨l', ρ2⟩, h2, e⟩ := Option.bind_eq_some_iff.mp h
    cases e
    exact bin_same ha.same hb.same hp _ _ _ h2
theorem pef_un {op : UnaryOp} {r : V → Hp → VK → Prop} {g : D → Option D} (ho : UnR X (unaryOp op) r) (l : Lift1 T r g) (ha : PEf X T pa a fa) : PEf X T pa (.UnaryOp op a pos) (fUn g fa) where
  pe := (pe_un ho ha.pe).imp fun σ H Q ⟨C, ρ, G, d, ρ', S, h, k⟩ => by
    obtain ⟨⟨dx, ρ1⟩, e1, h⟩ := Option.bind_eq_some_iff.mp h
    obtain ⟨z', e3, h⟩ := Option.map_eq_some_iff.mp h
    cases h
    exact ⟨C, ρ, G, dx, ρ1, S, e1, fun x H1 G1 n1 r1 => l H1 G1 dx x d n1.st.gh r1 e3 Q fun v H2 G2 q r => k v H2 G2 (n1.stp q) r⟩
  same := fun hp ρ z ρ' h => by
    obtain ⟨⟨dx, ρ1⟩, e1, h⟩ := Option.bind_eq_some_iff.mp h
    obtain ⟨z', e3, h⟩ := Option.map_eq_some_iff.mp h
    cases h
    exact ha.same hp _ _ _ e1

/-! ### argument lists, displays, calls of built-ins -/
theorem paf_nil : PAf X T true [] fNil where
  pa := pa_nil.imp fun σ H Q ⟨C, ρ, G, d, ρ', S, h, k⟩ => by cases h; exact k [] H G (Nxt.refl S) .nil
  same := fun _ ρ d ρ' h => by cases h; rfl
theorem cons_same (ha : Same1 pa fa) (hs : Same1 pb fs) : Same1 (pa && pb) (fCons fa fs) := fun hp ρ z ρ' h => by
  rw [Bool.and_eq_true] at hp
  obtain ⟨⟨dx, ρ1⟩, e1, h⟩ := Option.bind_eq_some_iff.mp h
  obtain ⟨⟨dy, ρ2⟩, e2, h⟩ := Option.bind_eq_some_iff.mp h
  cases h
  exact (hs hp.2 _ _ _ e2).trans (ha hp.1 _ _ _ e1)
theorem paf_cons (ha : PEf X T pa a fa) (hr : PAf X T pb es fs) (hs : starEach (a :: es) X.env = (false, eval a X.env) :: starEach es X.env := by rfl) : PAf X T (pa && pb) (a :: es) (fCons fa fs) where
  pa := (pa_cons ha.pe hr.pa hs).imp fun σ H Q ⟨C, ρ, G, d, ρ', S, h, k⟩ => by
    obtain ⟨⟨dx, ρ1⟩, e1, h⟩ := Option.bind_eq_some_iff.mp h
    obtain ⟨⟨dy, ρ2⟩, e2, h⟩ := Option.bind_eq_some_iff.mp h
    cases h
    exact ⟨C, ρ, G, dx, ρ1, S, e1, fun x H1 G1 n1 r1 => ⟨C, ρ1, G1, dy, ρ2, n1.st, e2, fun ys H2 G2 n2 r2 => k _ _ _ (n1.trans n2) (.cons (r1.mono n2.ex) r2)⟩⟩
  same := cons_same ha.same hr.same
theorem args_same {α : Type} {g : List D → Option α} (hs : Same1 pa fs) : Same1 pa (fArgs g fs) := fun hp ρ z ρ' h => by
  obtain ⟨⟨dx, ρ1⟩, e1, h⟩ := Option.bind_eq_some_iff.mp h
  obtain ⟨z', e3, h⟩ := Option.map_eq_some_iff.mp h
  cases h
  exact hs hp _ _ _ e1
/-- more items than any written display -/
def many : Nat := 1000000
theorem many_le : many ≤ sizeLine := by rw [sizeLine_eq]; decide
@[simp] def dTup (l : List D) : Option D := if l.length ≤ many then some (.tup l) else none
@[simp] def dLst (l : List D) : Option (List D) := if l.length ≤ many then some l else none
theorem pef_tup {k : Nat} (h : PAf X T pa es fs) : PEf X T pa (.Tuple es k pos) (fArgs dTup fs) where
  pe := (pe_tup h.pa).imp fun σ H Q ⟨C, ρ, G, d, ρ', S, hh, kk⟩ => by
    obtain ⟨⟨dx, ρ1⟩, e1, hh⟩ := Option.bind_eq_some_iff.mp hh
    obtain ⟨z', e3, hh⟩ := Option.map_eq_some_iff.mp hh
    cases hh
    refine ⟨C, ρ, G, dx, ρ1, S, e1, fun xs H1 G1 n1 r1 => ?_⟩
    simp only [dTup] at e3
    split at e3
    · rename_i hl
      cases e3
      refine ⟨Nat.le_trans (by rw [← r1.length]; exact hl) many_le, fun p hp => kk _ _ (upd G1 p (.tup xs)) (n1.stp (Stp.new n1.st.gh hp)) (.tup upd_same (r1.mono (Ex.new (n1.st.gh.free hp))))⟩
    · cases e3
  same := args_same h.same
theorem peo_lst (h : PAf X T pa es fs) : PEo X T pa (.List es pos) (fLst (fArgs dLst fs)) where
  pe := (pe_lst h.pa).imp fun σ H Q ⟨C, ρ, G, o, ρ', S, hh, kk⟩ => by
    obtain ⟨⟨l', ρ2⟩, h2, e⟩ := Option.bind_eq_some_iff.mp hh
    cases e
    obtain ⟨⟨dx, ρ1⟩, e1, hh⟩ := Option.bind_eq_some_iff.mp h2
    obtain ⟨z', e3, hh⟩ := Option.map_eq_some_iff.mp hh
    cases hh
    refine ⟨C, ρ, G, dx, ρ1, S, e1, fun xs H1 G1 n1 r1 => ?_⟩
    simp only [dLst] at e3
    split at e3
    · rename_i hl
      cases e3
      exact ⟨Nat.le_trans (by rw [← r1.length]; exact hl) many_le, fun p hp => kk _ _ G1 (n1.push hp r1)⟩
    · cases e3
  same := fun hp ρ z ρ' hh => by
    obtain ⟨⟨l', ρ2⟩, h2, e⟩ := Option.bind_eq_some_iff.mp hh
    cases e
    exact args_same h.same hp _ _ _ h2
theorem pef_args {r : List V → Hp → VK → Prop} {g : List D → Option D} (mk : PE X e (tCB r (tDs T pa fs))) (l : LiftN T r g) (h : Same1 pa fs) : PEf X T pa e (fArgs g fs) where
  pe := mk.imp fun σ H Q ⟨C, ρ, G, d, ρ', S, hh, kk⟩ => by
    obtain ⟨⟨dx, ρ1⟩, e1, hh⟩ := Option.bind_eq_some_iff.mp hh
    obtain ⟨z', e3, hh⟩ := Option.map_eq_some_iff.mp hh
    cases hh
    exact ⟨C, ρ, G, dx, ρ1, S, e1, fun xs H1 G1 n1 r1 => l H1 G1 dx xs d n1.st.gh r1 e3 Q fun v H2 G2 q r => kk v H2 G2 (n1.stp q) r⟩
  same := args_same h
theorem peo_args {r : List V → Hp → VK → Prop} {g : List D → Option (List D)} (mk : PE X e (tCB r (tDs T pa fs))) (l : LiftNO T r g) (h : Same1 pa fs) : PEo X T pa e (fLst (fArgs g fs)) where
  pe := mk.imp fun σ H Q ⟨C, ρ, G, o, ρ', S, hh, kk⟩ => by
    obtain ⟨⟨l', ρ2⟩, h2, e⟩ := Option.bind_eq_some_iff.mp hh
    cases e
    obtain ⟨⟨dx, ρ1⟩, e1, hh⟩ := Option.bind_eq_some_iff.mp h2
    obtain ⟨z', e3, hh⟩ := Option.map_eq_some_iff.mp hh
    cases hh
    exact ⟨C, ρ, G, dx, ρ1, S, e1, fun xs H1 G1 n1 r1 => l H1 G1 dx xs l' n1.st.gh r1 e3 Q fun p ys hp r => kk _ _ _ (n1.push hp r)⟩
  same := fun hp ρ z ρ' hh => by
    obtain ⟨⟨l', ρ2⟩, h2, e⟩ := Option.bind_eq_some_iff.mp hh
    cases e
    exact args_same h hp _ _ _ h2

/-! ### tests -/
theorem ptf_test {f : FE} (mk : PT X e (tTest (tD T pu f))) (h : Same1 pu f) : PTf X T pu e (fTest f) where
  pt := mk.imp fun σ H Q ⟨C, ρ, G, b, ρ', S, hh, kk⟩ => by
    obtain ⟨⟨dx, ρ1⟩, e1, hh⟩ := Option.bind_eq_some_iff.mp hh
    obtain ⟨z', e3, hh⟩ := Option.map_eq_some_iff.mp hh
    cases hh
    refine ⟨C, ρ, G, dx, ρ1, S, e1, fun x H1 G1 n1 r1 => ?_⟩
    cases r1 with
    | bl b' => simp only [dBool] at e3; cases e3; exact ⟨_, rfl, kk H1 G1 n1⟩
    | _ => simp [dBool] at e3
  same := fun hp ρ z ρ' hh => by
    obtain ⟨⟨dx, ρ1⟩, e1, hh⟩ := Option.bind_eq_some_iff.mp hh
    obtain ⟨z', e3, hh⟩ := Option.map_eq_some_iff.mp hh
    cases hh
    exact h hp _ _ _ e1
/-- an expression that is no comparison, whose value is a truth value -/
theorem ptf_val {f : FE} (h : PEf X T pu e f) (he : ∀ whole, isTrue e X.env whole = (do let v ← whole; standAt e.pos; holding [v] (truthy v)) := by intro _; rfl) : PTf X T pu e (fTest f) := ptf_test (pt_val h.pe he) h.same
/-- .. or anything whose truth is known -/
theorem ptf_truth {f : FE} {g : D → Option Bool} (l : LiftT T (fun x H Q => ∃ k, TruV X.K x H k ∧ Q k H) g) (h : PEf X T pu e f) (he : ∀ whole, isTrue e X.env whole = (do let v ← whole; standAt e.pos; holding [v] (truthy v)) := by intro _; rfl) : PTf X T pu e (fUn g f) where
  pt := (pt_truth h.pe he).imp fun σ H Q ⟨C, ρ, G, b, ρ', S, hh, kk⟩ => by
    obtain ⟨⟨dx, ρ1⟩, e1, hh⟩ := Option.bind_eq_some_iff.mp hh
    obtain ⟨z', e3, hh⟩ := Option.map_eq_some_iff.mp hh
    cases hh
    exact ⟨C, ρ, G, dx, ρ1, S, e1, fun x H1 G1 n1 r1 => l H1 G1 dx x b n1.st.gh r1 e3 Q (kk H1 G1 n1)⟩
  same := fun hp ρ z ρ' hh => by
    obtain ⟨⟨dx, ρ1⟩, e1, hh⟩ := Option.bind_eq_some_iff.mp hh
    obtain ⟨z', e3, hh⟩ := Option.map_eq_some_iff.mp hh
    cases hh
    exact h.same hp _ _ _ e1
theorem ptf_cmp {op : CmpOp} {r : R2} {g : D → D → Option D} (ho : OpR X (compareOp op) r) (l : Lift2 T r g) (ha : PEf X T pa a fa) (hb : PEf X T pb b fb) (hm : behindInMarks op b = false) : PTf X T (pa && pb) (.Compare a [op] [b] pos) (fTest (fBin g fa fb)) :=
  ptf_test ((pt_cmpR ho ha.pe hb.pe hm).imp fun σ H Q ⟨C, ρ, G, d, ρ', S, h, k⟩ => bin_run (r := r) ha hb S h fun dx dy x y H' G' n rx ry hz => l H' G' dx dy x y d n.st.gh rx ry hz _ fun v H2 G2 q r => k v H2 G2 (n.stp q) r) (bin_same ha.same hb.same)
theorem pef_cmp {op : CmpOp} {r : R2} {g : D → D → Option D} (ho : OpR X (compareOp op) r) (l : Lift2 T r g) (ha : PEf X T pa a fa) (hb : PEf X T pb b fb) (hm : behindInMarks op b = false) : PEf X T (pa && pb) (.Compare a [op] [b] pos) (fBin g fa fb) :=
  pef_bin (fun h1 h2 => pe_cmpR ho h1 h2 hm) l ha hb
@[simp] def fChain (g g' : D → D → Option D) (a b c : FE) : FE := fun ρ => (a ρ).bind fun x => (b x.2).bind fun y => (g x.1 y.1).bind fun z => match z with
  | .bl true => (c y.2).bind fun w => (g' y.1 w.1).map fun z => (z, w.2)
  | .bl false => some (.bl false, y.2)
  | _ => none
theorem chain_run {r r' : R2} {g g' : D → D → Option D} (l : Lift2 T r g) (l' : Lift2 T r' g') (ha : PEf X T pa a fa) (hb : PEf X T pb b fb) (hc : PEf X T pc c fc) {C : C0} {ρ ρ' : Fenv} {σ : L2.St} {H G : Hp} {z : D} {Q : VK} (S : Sta T C ρ σ H G) (h : fChain g g' fa fb fc ρ = some (z, ρ'))
    (k : ∀ v H' G', Nxt T C ρ' σ (pa && pb && pc) H G H' G' → Rep T G' z v → Q v H') : tChain r r' (tD T pa fa) (tD T pb fb) (tD T pc fc) σ H Q := by
  obtain ⟨⟨dx, ρ1⟩, e1, h⟩ := Option.bind_eq_some_iff.mp h
  obtain ⟨⟨dy, ρ2⟩, e2, h⟩ := Option.bind_eq_some_iff.mp h
  obtain ⟨z', e3, h⟩ := Option.bind_eq_some_iff.mp h
  refine ⟨C, ρ, G, dx, ρ1, S, e1, fun x H1 G1 n1 r1 => ⟨C, ρ1, G1, dy, ρ2, n1.st, e2, fun y H2 G2 n2 r2 => ?_⟩⟩
  refine l H2 G2 dx dy x y z' n2.st.gh (r1.mono n2.ex) r2 e3 _ fun v H3 G3 q3 r3 => ?_
  have n3 := (n1.trans n2).stp q3
  cases r3 with
  | bl bb =>
    cases bb with
    | true =>
      obtain ⟨⟨dw, ρ3⟩, e4, h⟩ := Option.bind_eq_some_iff.mp h
      obtain ⟨z', e5, h⟩ := Option.map_eq_some_iff.mp h
      cases h
      refine ⟨true, rfl, ?_⟩
      rw [if_pos rfl]
      exact ⟨C, ρ2, G3, dw, ρ3, n3.st, e4, fun w H4 G4 n4 r4 => l' H4 G4 dy dw y w z n4.st.gh ((r2.mono q3.gg).mono n4.ex) r4 e5 Q fun v H5 G5 q5 r5 => k v H5 G5 ((n3.trans n4).stp q5) r5⟩
    | false =>
      cases h
      refine ⟨false, rfl, ?_⟩
      rw [if_neg Bool.false_ne_true]
      exact k _ H3 G3 ⟨n3.st, n3.ex, fun hp => n3.pu (by rw [Bool.and_eq_true] at hp; exact hp.1)⟩ (.bl false)
  | _ => cases h
theorem chain_same {g g' : D → D → Option D} (ha : Same1 pa fa) (hb : Same1 pb fb) (hc : Same1 pc fc) : Same1 (pa && pb && pc) (fChain g g' fa fb fc) := fun hp ρ z ρ' h => by
  rw [Bool.and_eq_true, Bool.and_eq_true] at hp
  obtain ⟨⟨dx, ρ1⟩, e1, h⟩ := Option.bind_eq_some_iff.mp h
  obtain ⟨⟨dy, ρ2⟩, e2, h⟩ := Option.bind_eq_some_iff.mp h
  obtain ⟨z', e3, h⟩ := Option.bind_eq_some_iff.mp h
  have q := (hb hp.1.2 _ _ _ e2).trans (ha hp.1.1 _ _ _ e1)
  cases z' with
  | bl bb =>
    cases bb with
    | true =>
      obtain ⟨⟨dw, ρ3⟩, e4, h⟩ := Option.bind_eq_some_iff.mp h
      obtain ⟨z', e5, h⟩ := Option.map_eq_some_iff.mp h
      cases h
      exact (hc hp.2 _ _ _ e4).trans q
    | false => cases h; exact q
  | _ => cases h
theorem pef_chain {op op' : CmpOp} {r r' : R2} {g g' : D → D → Option D} (ho : OpR X (compareOp op) r) (ho' : OpR X (compareOp op') r') (l : Lift2 T r g) (l' : Lift2 T r' g') (ha : PEf X T pa a fa) (hb : PEf X T pb b fb) (hc : PEf X T pc c fc)
    (hm : lastMarks [op, op'] [b, c] = false := by with_unfolding_all rfl) : PEf X T (pa && pb && pc) (.Compare a [op, op'] [b, c] pos) (fChain g g' fa fb fc) where
  pe := (pe_chain ho ho' ha.pe hb.pe hc.pe hm).imp fun σ H Q ⟨C, ρ, G, d, ρ', S, h, k⟩ => chain_run l l' ha hb hc S h k
  same := chain_same ha.same hb.same hc.same
theorem ptf_chain {op op' : CmpOp} {r r' : R2} {g g' : D → D → Option D} (ho : OpR X (compareOp op) r) (ho' : OpR X (compareOp op') r') (l : Lift2 T r g) (l' : Lift2 T r' g') (ha : PEf X T pa a fa) (hb : PEf X T pb b fb) (hc : PEf X T pc c fc)
    (hm : lastMarks [op, op'] [b, c] = false := by with_unfolding_all rfl) : PTf X T (pa && pb && pc) (.Compare a [op, op'] [b, c] pos) (fTest (fChain g g' fa fb fc)) :=
  ptf_test ((pt_chain ho ho' ha.pe hb.pe hc.pe hm).imp fun σ H Q ⟨C, ρ, G, d, ρ', S, h, k⟩ => chain_run l l' ha hb hc S h k) (chain_same ha.same hb.same hc.same)
theorem not_same (h : Same1 pa ft) : Same1 pa (fNot ft) := fun hp ρ z ρ' hh => by
  obtain ⟨⟨dx, ρ1⟩, e1, hh⟩ := Option.bind_eq_some_iff.mp hh
  cases hh
  exact h hp _ _ _ e1
theorem ptf_not (h : PTf X T pa a ft) : PTf X T pa (.UnaryOp .Not a pos) (fNot ft) where
  pt := (pt_not h.pt).imp fun σ H Q ⟨C, ρ, G, b, ρ', S, hh, kk⟩ => by
    obtain ⟨⟨dx, ρ1⟩, e1, hh⟩ := Option.bind_eq_some_iff.mp hh
    cases hh
    exact ⟨C, ρ, G, dx, ρ1, S, e1, fun H1 G1 n1 => kk H1 G1 n1⟩
  same := not_same h.same
theorem and_same (h : Same1 pa ft) (h' : Same1 pb fu) : Same1 (pa && pb) (fAnd ft fu) := fun hp ρ z ρ' hh => by
  rw [Bool.and_eq_true] at hp
  obtain ⟨⟨dx, ρ1⟩, e1, hh⟩ := Option.bind_eq_some_iff.mp hh
  have q := h hp.1 _ _ _ e1
  cases dx with
  | true => exact (h' hp.2 _ _ _ hh).trans q
  | false => cases hh; exact q
theorem or_same (h : Same1 pa ft) (h' : Same1 pb fu) : Same1 (pa && pb) (fOr ft fu) := fun hp ρ z ρ' hh => by
  rw [Bool.and_eq_true] at hp
  obtain ⟨⟨dx, ρ1⟩, e1, hh⟩ := Option.bind_eq_some_iff.mp hh
  have q := h hp.1 _ _ _ e1
  cases dx with
  | true => cases hh; exact q
  | false => exact (h' hp.2 _ _ _ hh).trans q
theorem pwf_and1 (h : PTf X T pa a ft) : PWf X T pa (.BoolOp .And [a] pos) ft := ⟨pw_and1 h.pt, h.same⟩
theorem pwf_or1 (h : PTf X T pa a ft) : PWf X T pa (.BoolOp .Or [a] pos) ft := ⟨pw_or1 h.pt, h.same⟩
theorem pwf_and {rest : List Expr} (h : PTf X T pa a ft) (h' : PWf X T pb (.BoolOp .And (b :: rest) pos) fu) : PWf X T (pa && pb) (.BoolOp .And (a :: b :: rest) pos) (fAnd ft fu) where
  pw := (pw_and h.pt h'.pw).imp fun σ H Q ⟨C, ρ, G, b, ρ', S, hh, kk⟩ => by
    obtain ⟨⟨dx, ρ1⟩, e1, hh⟩ := Option.bind_eq_some_iff.mp hh
    refine ⟨C, ρ, G, dx, ρ1, S, e1, fun H1 G1 n1 => ?_⟩
    cases dx with
    | true =>
      rw [if_pos rfl]
      exact ⟨C, ρ1, G1, b, ρ', n1.st, hh, fun H2 G2 n2 => kk H2 G2 (n1.trans n2)⟩
    | false =>
      cases hh
      rw [if_neg Bool.false_ne_true]
      exact kk H1 G1 ⟨n1.st, n1.ex, fun hp => n1.pu (by rw [Bool.and_eq_true] at hp; exact hp.1)⟩
  same := and_same h.same h'.same
theorem pwf_or {rest : List Expr} (h : PTf X T pa a ft) (h' : PWf X T pb (.BoolOp .Or (b :: rest) pos) fu) : PWf X T (pa && pb) (.BoolOp .Or (a :: b :: rest) pos) (fOr ft fu) where
  pw := (pw_or h.pt h'.pw).imp fun σ H Q ⟨C, ρ, G, b, ρ', S, hh, kk⟩ => by
    obtain ⟨⟨dx, ρ1⟩, e1, hh⟩ := Option.bind_eq_some_iff.mp hh
    refine ⟨C, ρ, G, dx, ρ1, S, e1, fun H1 G1 n1 => ?_⟩
    cases dx with
    | false =>
      rw [if_neg Bool.false_ne_true]
      exact ⟨C, ρ1, G1, b, ρ', n1.st, hh, fun H2 G2 n2 => kk H2 G2 (n1.trans n2)⟩
    | true =>
      cases hh
      rw [if_pos rfl]
      exact kk H1 G1 ⟨n1.st, n1.ex, fun hp => n1.pu (by rw [Bool.and_eq_true] at hp; exact hp.1)⟩
  same := or_same h.same h'.same
theorem PWf.pt (h : PWf X T pa a ft) : PTf X T pa a ft := ⟨PW.pt h.pw, h.same⟩

/-! ### and, or, not as values (truth values) -/
@[simp] def fAndV (a b : FE) : FE := fun ρ => (a ρ).bind fun x => match x.1 with
  | .bl true => b x.2
  | .bl false => some (.bl false, x.2)
  | _ => none
@[simp] def fOrV (a b : FE) : FE := fun ρ => (a ρ).bind fun x => match x.1 with
  | .bl true => some (.bl true, x.2)
  | .bl false => b x.2
  | _ => none
@[simp] def dNot : D → Option D
  | .bl b => some (.bl (!b))
  | _ => none
theorem pef_one {op : BoolOp} (h : PEf X T pa a fa) : PEf X T pa (.BoolOp op [a] pos) fa := ⟨pe_one h.pe, h.same⟩
theorem pef_and {rest : List Expr} (ha : PEf X T pa a fa) (hb : PEf X T pb (.BoolOp .And (b :: rest) pos) fb) : PEf X T (pa && pb) (.BoolOp .And (a :: b :: rest) pos) (fAndV fa fb) where
  pe := (pe_and ha.pe hb.pe).imp fun σ H Q ⟨C, ρ, G, d, ρ', S, hh, kk⟩ => by
    obtain ⟨⟨dx, ρ1⟩, e1, hh⟩ := Option.bind_eq_some_iff.mp hh
    refine ⟨C, ρ, G, dx, ρ1, S, e1, fun x H1 G1 n1 r1 => ?_⟩
    cases r1 with
    | bl bb =>
      refine ⟨bb, rfl, ?_⟩
      cases bb with
      | true =>
        rw [if_pos rfl]
        exact ⟨C, ρ1, G1, d, ρ', n1.st, hh, fun v H2 G2 n2 r2 => kk v H2 G2 (n1.trans n2) r2⟩
      | false =>
        cases hh
        rw [if_neg Bool.false_ne_true]
        exact kk _ H1 G1 ⟨n1.st, n1.ex, fun hp => n1.pu (by rw [Bool.and_eq_true] at hp; exact hp.1)⟩ (.bl false)
    | _ => cases hh
  same := fun hp ρ z ρ' hh => by
    rw [Bool.and_eq_true] at hp
    obtain ⟨⟨dx, ρ1⟩, e1, hh⟩ := Option.bind_eq_some_iff.mp hh
    have q := ha.same hp.1 _ _ _ e1
    cases dx with
    | bl bb =>
      cases bb with
      | true => exact (hb.same hp.2 _ _ _ hh).trans q
      | false => cases hh; exact q
    | _ => cases hh
theorem pef_or {rest : List Expr} (ha : PEf X T pa a fa) (hb : PEf X T pb (.BoolOp .Or (b :: rest) pos) fb) : PEf X T (pa && pb) (.BoolOp .Or (a :: b :: rest) pos) (fOrV fa fb) where
  pe := (pe_or ha.pe hb.pe).imp fun σ H Q ⟨C, ρ, G, d, ρ', S, hh, kk⟩ => by
    obtain ⟨⟨dx, ρ1⟩, e1, hh⟩ := Option.bind_eq_some_iff.mp hh
    refine ⟨C, ρ, G, dx, ρ1, S, e1, fun x H1 G1 n1 r1 => ?_⟩
    cases r1 with
    | bl bb =>
      refine ⟨bb, rfl, ?_⟩
      cases bb with
      | false =>
        rw [if_neg Bool.false_ne_true]
        exact ⟨C, ρ1, G1, d, ρ', n1.st, hh, fun v H2 G2 n2 r2 => kk v H2 G2 (n1.trans n2) r2⟩
      | true =>
        cases hh
        rw [if_pos rfl]
        exact kk _ H1 G1 ⟨n1.st, n1.ex, fun hp => n1.pu (by rw [Bool.and_eq_true] at hp; exact hp.1)⟩ (.bl true)
    | _ => cases hh
  same := fun hp ρ z ρ' hh => by
    rw [Bool.and_eq_true] at hp
    obtain ⟨⟨dx, ρ1⟩, e1, hh⟩ := Option.bind_eq_some_iff.mp hh
    have q := ha.same hp.1 _ _ _ e1
    cases dx with
    | bl bb =>
      cases bb with
      | false => exact (hb.same hp.2 _ _ _ hh).trans q
      | true => cases hh; exact q
    | _ => cases hh
theorem pef_not (ha : PEf X T pa a fa) : PEf X T pa (.UnaryOp .Not a pos) (fUn dNot fa) where
  pe := (pe_not ha.pe).imp fun σ H Q ⟨C, ρ, G, d, ρ', S, hh, kk⟩ => by
    obtain ⟨⟨dx, ρ1⟩, e1, hh⟩ := Option.bind_eq_some_iff.mp hh
    obtain ⟨z', e3, hh⟩ := Option.map_eq_some_iff.mp hh
    cases hh
    refine ⟨C, ρ, G, dx, ρ1, S, e1, fun x H1 G1 n1 r1 => ?_⟩
    cases r1 with
    | bl bb => simp only [dNot] at e3; cases e3; exact ⟨bb, rfl, kk _ H1 G1 n1 (.bl _)⟩
    | _ => simp [dNot] at e3
  same := fun hp ρ z ρ' hh => by
    obtain ⟨⟨dx, ρ1⟩, e1, hh⟩ := Option.bind_eq_some_iff.mp hh
    obtain ⟨z', e3, hh⟩ := Option.map_eq_some_iff.mp hh
    cases hh
    exact ha.same hp _ _ _ e1
theorem if_same {α : Type} {f1 f2 : Fenv → Option (α × Fenv)} (h : Same1 pa ft) (h1 : Same1 pb f1) (h2 : Same1 pc f2) : Same1 (pa && pb && pc) (fIf ft f1 f2) := fun hp ρ z ρ' hh => by
  rw [Bool.and_eq_true, Bool.and_eq_true] at hp
  obtain ⟨⟨dx, ρ1⟩, e1, hh⟩ := Option.bind_eq_some_iff.mp hh
  have q := h hp.1.1 _ _ _ e1
  cases dx with
  | true => exact (h1 hp.1.2 _ _ _ hh).trans q
  | false => exact (h2 hp.2 _ _ _ hh).trans q
theorem pef_if (ht : PTf X T pa c ft) (ha : PEf X T pb a fa) (hb : PEf X T pc b fb) : PEf X T (pa && pb && pc) (.IfExp c a b pos) (fIf ft fa fb) where
  pe := (pe_ifExp ht.pt ha.pe hb.pe).imp fun σ H Q ⟨C, ρ, G, d, ρ', S, hh, kk⟩ => by
    obtain ⟨⟨dx, ρ1⟩, e1, hh⟩ := Option.bind_eq_some_iff.mp hh
    refine ⟨C, ρ, G, dx, ρ1, S, e1, fun H1 G1 n1 => ?_⟩
    cases dx with
    | true =>
      rw [if_pos rfl]
      exact ⟨C, ρ1, G1, d, ρ', n1.st, hh, fun v H2 G2 n2 r2 => kk v H2 G2 ⟨n2.st, n1.ex.trans n2.ex, fun hp => by rw [Bool.and_eq_true, Bool.and_eq_true] at hp; exact (n1.pu hp.1.1).trans (n2.pu hp.1.2)⟩ r2⟩
    | false =>
      rw [if_neg Bool.false_ne_true]
      exact ⟨C, ρ1, G1, d, ρ', n1.st, hh, fun v H2 G2 n2 r2 => kk v H2 G2 ⟨n2.st, n1.ex.trans n2.ex, fun hp => by rw [Bool.and_eq_true, Bool.and_eq_true] at hp; exact (n1.pu hp.1.1).trans (n2.pu hp.2)⟩ r2⟩
  same := if_same ht.same ha.same hb.same
/-- owned objects: one of two -/
theorem peo_if {fo fp : FO} (ht : PTf X T pa c ft) (ha : PEo X T pb a fo) (hb : PEo X T pc b fp) : PEo X T (pa && pb && pc) (.IfExp c a b pos) (fIf ft fo fp) where
  pe := (pe_ifExp ht.pt ha.pe hb.pe).imp fun σ H Q ⟨C, ρ, G, d, ρ', S, hh, kk⟩ => by
    obtain ⟨⟨dx, ρ1⟩, e1, hh⟩ := Option.bind_eq_some_iff.mp hh
    refine ⟨C, ρ, G, dx, ρ1, S, e1, fun H1 G1 n1 => ?_⟩
    cases dx with
    | true =>
      rw [if_pos rfl]
      exact ⟨C, ρ1, G1, d, ρ', n1.st, hh, fun v H2 G2 n2 => kk v H2 G2 ⟨n2.st, n1.ex.trans n2.ex, fun hp => by rw [Bool.and_eq_true, Bool.and_eq_true] at hp; exact (n1.pu hp.1.1).trans (n2.pu hp.1.2)⟩⟩
    | false =>
      rw [if_neg Bool.false_ne_true]
      exact ⟨C, ρ1, G1, d, ρ', n1.st, hh, fun v H2 G2 n2 => kk v H2 G2 ⟨n2.st, n1.ex.trans n2.ex, fun hp => by rw [Bool.and_eq_true, Bool.and_eq_true] at hp; exact (n1.pu hp.1.1).trans (n2.pu hp.2)⟩⟩
  same := if_same ht.same ha.same hb.same

/-! ### freezing, lending -/
theorem pef_frz {fo : FO} (h : PEo X T pu e fo) : PEf X T pu e (fFrz fo) where
  pe := h.pe.imp fun σ H Q ⟨C, ρ, G, d, ρ', S, hh, kk⟩ => by
    obtain ⟨⟨o, ρ1⟩, e1, hh⟩ := Option.bind_eq_some_iff.mp hh
    dsimp only at hh
    split at hh
    · rename_i hf
      cases hh
      refine ⟨C, ρ, G, o, _, S, e1, fun v H1 G1 n1 => ?_⟩
      obtain ⟨G2, S2, e2, r2⟩ := n1.st.freezeLast hf
      exact kk v H1 G2 ⟨S2, n1.ex.trans e2, n1.pu⟩ r2
    · cases hh
  same := fun hp ρ z ρ' hh => by
    obtain ⟨⟨o, ρ1⟩, e1, hh⟩ := Option.bind_eq_some_iff.mp hh
    dsimp only at hh
    split at hh
    · cases hh; exact h.same hp _ _ _ e1
    · cases hh
theorem lend_same {α : Type} {i : Nat} {ok : α → Bool} {f : Fenv → Option (α × Fenv)} : Same1 pu (fLend i ok f) := fun _ ρ z ρ' hh => by
  unfold fLend at hh
  split at hh
  · split at hh
    · obtain ⟨x, e1, hh⟩ := Option.bind_eq_some_iff.mp hh
      split at hh
      · cases hh; rfl
      · cases hh
    · cases hh
  · cases hh
theorem lend_run {α : Type} {i : Nat} {ok : α → Bool} {f : Fenv → Option (α × Fenv)} {C : C0} {ρ ρ' : Fenv} {σ : L2.St} {H G : Hp} {z : α} (sm : Same1 true f) (S : Sta T C ρ σ H G) (h : fLend i ok f ρ = some (z, ρ')) :
    ∃ C' ρ1 G1, Sta T C' ρ1 σ H G1 ∧ f ρ1 = some (z, ρ1) ∧ ok z = true ∧ ρ' = ρ ∧ ∀ H' G', Nxt T C' ρ1 σ true H G1 H' G' → ∃ G2, Nxt T C ρ σ true H G H' G2 ∧ ∀ d v, Rep T G' d v → noL d = true → Rep T G2 d v := by
  unfold fLend at h
  split at h
  · rename_i g o hi
    split at h
    · rename_i hf
      obtain ⟨⟨z', ρ2⟩, e1, h⟩ := Option.bind_eq_some_iff.mp h
      split at h
      · rename_i hok
        cases h
        obtain ⟨fp, vo, hvo, hoo, hn, hl, S', back⟩ := S.lend hi hf
        have e2 := sm rfl _ _ _ e1
        subst e2
        refine ⟨_, _, _, S', e1, hok, rfl, fun H' G' n => ⟨lessH G' fp, ⟨back H' G' (n.pu rfl) n.ex n.st, fun b u eb => ?_, n.pu⟩, fun d v r hd => lent_rep r hd hl n.ex⟩⟩
        unfold lessH
        rw [if_neg fun z => by rw [hn b z] at eb; cases eb]
        exact n.ex b u (frz_ex hn b u eb)
      · cases h
    · cases h
  · cases h
/-- an expression that only reads the owned list of slot i -/
theorem pef_lend (i : Nat) (h : PEf X T true e f) : PEf X T true e (fLend i noL f) where
  pe := h.pe.imp fun σ H Q ⟨C, ρ, G, d, ρ', S, hh, kk⟩ => by
    obtain ⟨C', ρ1, G1, S1, e1, ok, rfl, back⟩ := lend_run h.same S hh
    refine ⟨C', ρ1, G1, d, ρ1, S1, e1, fun v H' G' n r => ?_⟩
    obtain ⟨G2, n2, r2⟩ := back H' G' n
    exact kk v H' G2 n2 (r2 d v r ok)
  same := lend_same
theorem ptf_lend (i : Nat) (h : PTf X T true e ft) : PTf X T true e (fLend i (fun _ => true) ft) where
  pt := h.pt.imp fun σ H Q ⟨C, ρ, G, d, ρ', S, hh, kk⟩ => by
    obtain ⟨C', ρ1, G1, S1, e1, ok, rfl, back⟩ := lend_run h.same S hh
    refine ⟨C', ρ1, G1, d, ρ1, S1, e1, fun H' G' n => ?_⟩
    obtain ⟨G2, n2, r2⟩ := back H' G' n
    exact kk H' G2 n2
  same := lend_same
end
end Fl
end

section
set_option Elab.async false
set_option linter.all false
set_option autoImplicit false
set_option maxRecDepth 100000
set_option maxHeartbeats 2000000
namespace Fl
open PySem PySem.Spec PyProof.Rows L2

theorem Rep.sqL {T : Tab} {G H : Hp} {K : PySem.W.Frag} {l : List D} {v : V} (e : Ex G H) (r : Rep T G (.lst l) v) : ∃ a xs, v = .ref a ∧ SqL K H a xs ∧ Reps T G l xs := by
  cases r with
  | lst h q => exact ⟨_, _, rfl, .inl (.inl (e _ _ h)), q⟩
theorem Rep.sqT {T : Tab} {G H : Hp} {K : PySem.W.Frag} {l : List D} {v : V} (e : Ex G H) (r : Rep T G (.tup l) v) : ∃ a xs, v = .ref a ∧ SqT K H a xs ∧ Reps T G l xs := by
  cases r with
  | tup h q => exact ⟨_, _, rfl, .inl (.inl (e _ _ h)), q⟩

theorem Rep.sqTp {T : Tab} {G H : Hp} {K : PySem.W.Frag} {l : List D} {v : V} (e : Ex G H) (r : Rep T G (.tp l) v) : ∃ a xs, v = .ref a ∧ SqT K H a xs ∧ Reps T G l xs := by
  cases r with
  | tp h hd q => exact ⟨_, _, rfl, .inl (.inr ⟨_, e _ _ h⟩), q⟩

/-! ### == at any depth -/
mutual
def D.py : D → PyData
  | .non => .none
  | .bl b => .bool b
  | .int i => .int i
  | .str s => .str s
  | .tup l => .tuple (D.pys l)
  | .tp l => .tuple (D.pys l)
  | .lst l => .list (D.pys l)
  | .obj _ _ => .dict []
  | .fn _ => .dict []
def D.pys : List D → List PyData
  | [] => []
  | d :: ds => d.py :: D.pys ds
end
/-! no objects, of little depth -/
mutual
def fit : Nat → D → Bool
  | _, .obj _ _ => false
  | _, .fn _ => false
  | 0, .tup _ => false
  | 0, .tp _ => false
  | 0, .lst _ => false
  | n + 1, .tup l => fits n l
  | n + 1, .tp l => fits n l
  | n + 1, .lst l => fits n l
  | _, .str s => PyData.strOk s
  | _, _ => true
def fits : Nat → List D → Bool
  | _, [] => true
  | n, d :: ds => fit n d && fits n ds
end
mutual
def eqD : D → D → Bool
  | .non, .non => true
  | .bl a, .bl b => a == b
  | .bl a, .int j => (if a = true then 1 else 0) == j
  | .int i, .bl b => i == (if b = true then 1 else 0)
  | .int i, .int j => i == j
  | .str x, .str y => x == y
  | .tup l, .tup m => eqDs l m
  | .tup l, .tp m => eqDs l m
  | .tp l, .tup m => eqDs l m
  | .tp l, .tp m => eqDs l m
  | .lst l, .lst m => eqDs l m
  | _, _ => false
def eqDs : List D → List D → Bool
  | [], [] => true
  | d :: ds, e :: es => eqD d e && eqDs ds es
  | _, _ => false
end
mutual
theorem fit_ok : ∀ (n : Nat) (d : D), fit n d = true → d.py.canLay0 = true ∧ d.py.depth ≤ n
  | n, .non, _ => by simp [D.py, PyData.canLay0, PyData.depth]
  | n, .bl b, _ => by simp [D.py, PyData.canLay0, PyData.depth]
  | n, .int i, _ => by simp [D.py, PyData.canLay0, PyData.depth]
  | n, .str s, h => by
    refine ⟨?_, by simp [D.py, PyData.depth]⟩
    cases n <;> simpa [D.py, PyData.canLay0, fit] using h
  | 0, .tup l, h => by simp [fit] at h
  | 0, .tp l, h => by simp [fit] at h
  | 0, .lst l, h => by simp [fit] at h
  | n + 1, .tup l, h => by
    have h' : fits n l = true := by simpa [fit] using h
    have q := fits_ok n l h'
    simp only [D.py, PyData.canLay0, PyData.depth]
    exact ⟨q.1, by omega⟩
  | n + 1, .tp l, h => by
    have h' : fits n l = true := by simpa [fit] using h
    have q := fits_ok n l h'
    simp only [D.py, PyData.canLay0, PyData.depth]
    exact ⟨q.1, by omega⟩
  | n + 1, .lst l, h => by
    have h' : fits n l = true := by simpa [fit] using h
    have q := fits_ok n l h'
    simp only [D.py, PyData.canLay0, PyData.depth]
    exact ⟨q.1, by omega⟩
  | n, .obj c l, h => by cases n <;> simp [fit] at h
  | n, .fn c, h => by cases n <;> simp [fit] at h
theorem fits_ok : ∀ (n : Nat) (l : List D), fits n l = true → PyData.canLayAll0 (D.pys l) = true ∧ PyData.depthAll (D.pys l) ≤ n
  | n, [], _ => by simp [D.pys, PyData.canLayAll0, PyData.depthAll]
  | n, d :: ds, h => by
    have h' : fit n d = true ∧ fits n ds = true := by simpa [fits] using h
    have q := fit_ok n d h'.1
    have q' := fits_ok n ds h'.2
    simp only [D.pys, PyData.canLayAll0, PyData.depthAll, Bool.and_eq_true]
    exact ⟨⟨q.1, q'.1⟩, by omega⟩
end
mutual
def noObj : D → Bool
  | .obj _ _ => false
  | .fn _ => false
  | .tup l => noObjs l
  | .tp l => noObjs l
  | .lst l => noObjs l
  | _ => true
def noObjs : List D → Bool
  | [] => true
  | d :: ds => noObj d && noObjs ds
end
mutual
theorem eqD_py : ∀ (a b : D), noObj a = true → noObj b = true → PyData.eqv a.py b.py = eqD a b
  | .non, b, _, hb => by cases b <;> simp_all [D.py, PyData.eqv, eqD, noObj]
  | .bl x, b, _, hb => by cases b <;> simp_all [D.py, PyData.eqv, eqD, noObj]
  | .int x, b, _, hb => by cases b <;> simp_all [D.py, PyData.eqv, eqD, noObj]
  | .str x, b, _, hb => by cases b <;> simp_all [D.py, PyData.eqv, eqD, noObj]
  | .tup l, b, ha, hb => by
    cases b with
    | tup m => simp only [D.py, PyData.eqv, eqD]; exact eqDs_py l m (by simpa [noObj] using ha) (by simpa [noObj] using hb)
    | tp m => simp only [D.py, PyData.eqv, eqD]; exact eqDs_py l m (by simpa [noObj] using ha) (by simpa [noObj] using hb)
    | _ => simp_all [D.py, PyData.eqv, eqD, noObj]
  | .tp l, b, ha, hb => by
    cases b with
    | tup m => simp only [D.py, PyData.eqv, eqD]; exact eqDs_py l m (by simpa [noObj] using ha) (by simpa [noObj] using hb)
    | tp m => simp only [D.py, PyData.eqv, eqD]; exact eqDs_py l m (by simpa [noObj] using ha) (by simpa [noObj] using hb)
    | _ => simp_all [D.py, PyData.eqv, eqD, noObj]
  | .lst l, b, ha, hb => by
    cases b with
    | lst m => simp only [D.py, PyData.eqv, eqD]; exact eqDs_py l m (by simpa [noObj] using ha) (by simpa [noObj] using hb)
    | _ => simp_all [D.py, PyData.eqv, eqD, noObj]
  | .obj _ _, _, ha, _ => by simp [noObj] at ha
  | .fn _, _, ha, _ => by simp [noObj] at ha
theorem eqDs_py : ∀ (a b : List D), noObjs a = true → noObjs b = true → PyData.eqvAll (D.pys a) (D.pys b) = eqDs a b
  | [], [], _, _ => by simp [D.pys, PyData.eqvAll, eqDs]
  | [], _ :: _, _, _ => by simp [D.pys, PyData.eqvAll, eqDs]
  | _ :: _, [], _, _ => by simp [D.pys, PyData.eqvAll, eqDs]
  | a :: as, b :: bs, ha, hb => by
    have ha' : noObj a = true ∧ noObjs as = true := by simpa [noObjs] using ha
    have hb' : noObj b = true ∧ noObjs bs = true := by simpa [noObjs] using hb
    simp only [D.pys, PyData.eqvAll, eqDs]
    rw [eqD_py a b ha'.1 hb'.1, eqDs_py as bs ha'.2 hb'.2]
end

mutual
theorem fit_no : ∀ (n : Nat) (d : D), fit n d = true → noObj d = true
  | _, .non, _ => by simp [noObj]
  | _, .bl b, _ => by simp [noObj]
  | _, .int i, _ => by simp [noObj]
  | _, .str s, _ => by simp [noObj]
  | 0, .tup l, h => by simp [fit] at h
  | 0, .tp l, h => by simp [fit] at h
  | 0, .lst l, h => by simp [fit] at h
  | n + 1, .tp l, h => by simp only [noObj]; exact fits_no n l (by simpa [fit] using h)
  | n + 1, .tup l, h => by simp only [noObj]; exact fits_no n l (by simpa [fit] using h)
  | n + 1, .lst l, h => by simp only [noObj]; exact fits_no n l (by simpa [fit] using h)
  | n, .obj c l, h => by cases n <;> simp [fit] at h
  | n, .fn c, h => by cases n <;> simp [fit] at h
theorem fits_no : ∀ (n : Nat) (l : List D), fits n l = true → noObjs l = true
  | _, [], _ => by simp [noObjs]
  | n, d :: ds, h => by
    have h' : fit n d = true ∧ fits n ds = true := by simpa [fits] using h
    simp only [noObjs, Bool.and_eq_true]
    exact ⟨fit_no n d h'.1, fits_no n ds h'.2⟩
end
mutual
theorem Rep.dp {T : Tab} {G H : Hp} {K : PySem.W.Frag} (e : Ex G H) : ∀ {d : D} {v : V}, Rep T G d v → noObj d = true → Dp K H v d.py
  | _, _, .non, _ => .non
  | _, _, .bl b, _ => .bl b
  | _, _, .int i, _ => .int i
  | _, _, .str s, _ => .str s
  | _, _, .tup h r, n => .tup (.inl (.inl (e _ _ h))) (Reps.dp e r (by simpa [noObj] using n))
  | _, _, .tp h hd r, n => .tup (.inl (.inr ⟨_, e _ _ h⟩)) (Reps.dp e r (by simpa [noObj] using n))
  | _, _, .lst h r, n => .lst (.inl (.inl (e _ _ h))) (Reps.dp e r (by simpa [noObj] using n))
  | _, _, .obj c h l r, n => by simp [noObj] at n
  | _, _, .fn h, n => by simp [noObj] at n
theorem Reps.dp {T : Tab} {G H : Hp} {K : PySem.W.Frag} (e : Ex G H) : ∀ {ds : List D} {vs : List V}, Reps T G ds vs → noObjs ds = true → DpAll K H vs (D.pys ds)
  | _, _, .nil, _ => .nil
  | _, _, .cons (d := d) (ds := ds) h r, n => by
    have n' : noObj d = true ∧ noObjs ds = true := by simpa [noObjs] using n
    exact .cons (Rep.dp e h n'.1) (Reps.dp e r n'.2)
end
theorem fit_shaped {d : D} (h : fit 8 d = true) : SeqAt.shaped d.py = true := by
  have q := fit_ok 8 d h
  unfold SeqAt.shaped
  rw [q.1, Bool.true_and]
  exact decide_eq_true (by omega)

/-! ### operators on data -/
@[simp] def dI (g : Int → Int → Int) : D → D → Option D
  | .int i, .int j => some (.int (g i j))
  | _, _ => none
@[simp] def dIB (g : Int → Int → Bool) : D → D → Option D
  | .int i, .int j => some (.bl (g i j))
  | _, _ => none
@[simp] def dAdd : D → D → Option D
  | .int i, .int j => some (.int (i + j))
  | .tup a, .tup b => if a.length + b.length ≤ many then some (.tup (a ++ b)) else none
  | .tup a, .tp b => if a.length + b.length ≤ many then some (if a.isEmpty then .tp b else .tup (a ++ b)) else none
  | .tp a, .tup b => if a.length + b.length ≤ many then some (if a.isEmpty then .tup b else if b.isEmpty then .tp a else .tup (a ++ b)) else none
  | .tp a, .tp b => if a.length + b.length ≤ many then some (if a.isEmpty then .tp b else if b.isEmpty then .tp a else .tup (a ++ b)) else none
  | _, _ => none
@[simp] def dMul : D → D → Option D
  | .int i, .int j => if (-18446744073709551616 < i ∧ i < 18446744073709551616) ∨ (-18446744073709551616 < j ∧ j < 18446744073709551616) then some (.int (i * j)) else none
  | _, _ => none
@[simp] def dDiv : D → D → Option D
  | .int i, .int j => if 0 < j ∧ j < 18446744073709551616 then some (.int (i / j)) else none
  | _, _ => none
@[simp] def dMod : D → D → Option D
  | .int i, .int j => if 0 < j then some (.int (i % j)) else none
  | _, _ => none
@[simp] def dPow : D → D → Option D
  | .int i, .int j => if 0 ≤ j ∧ j ≤ 64 ∧ -18446744073709551616 < i ∧ i < 18446744073709551616 then some (.int (i ^ j.toNat)) else none
  | _, _ => none
@[simp] def dNeg : D → Option D
  | .int i => some (.int (-i))
  | _ => none
@[simp] def dEq (a b : D) : Option D := if fit 8 a && fit 8 b then some (.bl (eqD a b)) else none
@[simp] def dNe (a b : D) : Option D := if fit 8 a && fit 8 b then some (.bl (!eqD a b)) else none
@[simp] def dIsN : D → D → Option D
  | .non, .non => some (.bl true)
  | _, .non => some (.bl false)
  | _, _ => none
@[simp] def dNotN : D → D → Option D
  | .non, .non => some (.bl false)
  | _, .non => some (.bl true)
  | _, _ => none
@[simp] def dIx : D → D → Option D
  | .tup l, .int i => atI l i
  | .tp l, .int i => atI l i
  | .lst l, .int i => atI l i
  | _, _ => none
@[simp] def dIn : D → D → Option D
  | d, .lst l => if fit 8 d && fits 7 l then some (.bl (l.any fun z => eqD z d)) else none
  | d, .tup l => if fit 8 d && fits 7 l then some (.bl (l.any fun z => eqD z d)) else none
  | _, _ => none
section
variable {T : Tab} {K : PySem.W.Frag}
theorem stp0 {H G : Hp} (e : Ex G H) : Stp H G H G := Stp.refl e
theorem l_I {g : Int → Int → Int} : Lift2 T (rI0 fun i j => .int (g i j)) (dI g) := by
  intro H G dx dy x y dz e rx ry h Q k
  cases rx with
  | int i =>
    cases ry with
    | int j => cases h; exact ⟨i, j, rfl, rfl, k _ H G (stp0 e) (.int _)⟩
    | _ => cases h
  | _ => cases h
theorem l_IB {g : Int → Int → Bool} : Lift2 T (rI0 fun i j => .bl (g i j)) (dIB g) := by
  intro H G dx dy x y dz e rx ry h Q k
  cases rx with
  | int i =>
    cases ry with
    | int j => cases h; exact ⟨i, j, rfl, rfl, k _ H G (stp0 e) (.bl _)⟩
    | _ => cases h
  | _ => cases h
theorem l_add : Lift2 T (fun x y H Q => rI0 (fun i j => .int (i + j)) x y H Q ∨ rCatA K x y H Q) dAdd := by
  intro H G dx dy x y dz e rx ry h Q k
  cases dx with
  | int i =>
    cases dy with
    | int j => cases rx; cases ry; cases h; exact .inl ⟨i, j, rfl, rfl, k _ H G (stp0 e) (.int _)⟩
    | _ => cases h
  | tup a =>
    cases dy with
    | tup b =>
      simp only [dAdd] at h
      split at h
      · rename_i hl
        cases h
        obtain ⟨p, xs, rfl, hx, r1⟩ := rx.sqT (K := K) e
        obtain ⟨q, ys, rfl, hy, r2⟩ := ry.sqT (K := K) e
        refine .inr ⟨p, q, xs, ys, rfl, rfl, hx, hy, Nat.le_trans (by rw [← r1.length, ← r2.length]; exact hl) many_le, fun ex => ?_, fun _ ey => ?_, fun _ _ n hn => ?_⟩
        · subst ex
          cases r1
          exact k _ H G (stp0 e) ry
        · subst ey
          cases r2
          rw [List.append_nil] at k
          exact k _ H G (stp0 e) rx
        · exact k _ _ (upd G n (.tup (xs ++ ys))) (Stp.new e hn) (.tup upd_same ((r1.append r2).mono (Ex.new (e.free hn))))
      · cases h
    | tp b =>
      simp only [dAdd] at h
      split at h
      · rename_i hl
        obtain ⟨p, xs, rfl, hx, r1⟩ := rx.sqT (K := K) e
        obtain ⟨q, ys, rfl, hy, r2⟩ := ry.sqTp (K := K) e
        refine .inr ⟨p, q, xs, ys, rfl, rfl, hx, hy, Nat.le_trans (by rw [← r1.length, ← r2.length]; exact hl) many_le, fun ex => ?_, fun nx ey => ?_, fun nx ny n hn => ?_⟩
        · subst ex
          cases r1
          cases h
          exact k _ H G (stp0 e) ry
        · subst ey
          cases r2
          have na : a ≠ [] := fun z => by subst z; cases r1; exact nx rfl
          rw [if_neg (by simpa using na), List.append_nil] at h
          cases h
          exact k _ H G (stp0 e) rx
        · have na : a ≠ [] := fun z => by subst z; cases r1; exact nx rfl
          rw [if_neg (by simpa using na)] at h
          cases h
          exact k _ _ (upd G n (.tup (xs ++ ys))) (Stp.new e hn) (.tup upd_same ((r1.append r2).mono (Ex.new (e.free hn))))
      · cases h
    | _ => cases h
  | tp a =>
    cases dy with
    | tup b =>
      simp only [dAdd] at h
      split at h
      · rename_i hl
        obtain ⟨p, xs, rfl, hx, r1⟩ := rx.sqTp (K := K) e
        obtain ⟨q, ys, rfl, hy, r2⟩ := ry.sqT (K := K) e
        refine .inr ⟨p, q, xs, ys, rfl, rfl, hx, hy, Nat.le_trans (by rw [← r1.length, ← r2.length]; exact hl) many_le, fun ex => ?_, fun nx ey => ?_, fun nx ny n hn => ?_⟩
        · subst ex
          cases r1
          cases h
          exact k _ H G (stp0 e) ry
        · subst ey
          cases r2
          have na : a ≠ [] := fun z => by subst z; cases r1; exact nx rfl
          rw [if_neg (by simpa using na)] at h
          cases h
          exact k _ H G (stp0 e) rx
        · have na : a ≠ [] := fun z => by subst z; cases r1; exact nx rfl
          have nb : b ≠ [] := fun z => by subst z; cases r2; exact ny rfl
          rw [if_neg (by simpa using na), if_neg (by simpa using nb)] at h
          cases h
          exact k _ _ (upd G n (.tup (xs ++ ys))) (Stp.new e hn) (.tup upd_same ((r1.append r2).mono (Ex.new (e.free hn))))
      · cases h
    | tp b =>
      simp only [dAdd] at h
      split at h
      · rename_i hl
        obtain ⟨p, xs, rfl, hx, r1⟩ := rx.sqTp (K := K) e
        obtain ⟨q, ys, rfl, hy, r2⟩ := ry.sqTp (K := K) e
        refine .inr ⟨p, q, xs, ys, rfl, rfl, hx, hy, Nat.le_trans (by rw [← r1.length, ← r2.length]; exact hl) many_le, fun ex => ?_, fun nx ey => ?_, fun nx ny n hn => ?_⟩
        · subst ex
          cases r1
          cases h
          exact k _ H G (stp0 e) ry
        · subst ey
          cases r2
          have na : a ≠ [] := fun z => by subst z; cases r1; exact nx rfl
          rw [if_neg (by simpa using na)] at h
          cases h
          exact k _ H G (stp0 e) rx
        · have na : a ≠ [] := fun z => by subst z; cases r1; exact nx rfl
          have nb : b ≠ [] := fun z => by subst z; cases r2; exact ny rfl
          rw [if_neg (by simpa using na), if_neg (by simpa using nb)] at h
          cases h
          exact k _ _ (upd G n (.tup (xs ++ ys))) (Stp.new e hn) (.tup upd_same ((r1.append r2).mono (Ex.new (e.free hn))))
      · cases h
    | _ => cases h
  | _ => cases h
theorem l_mul : Lift2 T (rI CMul fun i j => .int (i * j)) dMul := by
  intro H G dx dy x y dz e rx ry h Q k
  cases rx with
  | int i =>
    cases ry with
    | int j =>
      simp only [dMul] at h
      split at h
      · rename_i hc
        cases h
        exact ⟨i, j, rfl, rfl, by unfold CMul; rcases hc with z | z <;> omega, k _ H G (stp0 e) (.int _)⟩
      · cases h
    | _ => cases h
  | _ => cases h
theorem l_div : Lift2 T (rI CDivW fun i j => .int (i / j)) dDiv := by
  intro H G dx dy x y dz e rx ry h Q k
  cases rx with
  | int i =>
    cases ry with
    | int j =>
      simp only [dDiv] at h
      split at h
      · rename_i hc
        cases h
        exact ⟨i, j, rfl, rfl, wide_div (b := 64) hc.1 (by have := hc.2; omega) (by decide) (by decide), k _ H G (stp0 e) (.int _)⟩
      · cases h
    | _ => cases h
  | _ => cases h
theorem l_mod : Lift2 T (rI (fun _ j => 0 < j) fun i j => .int (i % j)) dMod := by
  intro H G dx dy x y dz e rx ry h Q k
  cases rx with
  | int i =>
    cases ry with
    | int j =>
      simp only [dMod] at h
      split at h
      · rename_i hc
        cases h
        exact ⟨i, j, rfl, rfl, hc, k _ H G (stp0 e) (.int _)⟩
      · cases h
    | _ => cases h
  | _ => cases h
theorem l_pow : Lift2 T (rI CPow fun i j => .int (i ^ j.toNat)) dPow := by
  intro H G dx dy x y dz e rx ry h Q k
  cases rx with
  | int i =>
    cases ry with
    | int j =>
      simp only [dPow] at h
      split at h
      · rename_i hc
        cases h
        exact ⟨i, j, rfl, rfl, ⟨hc.1, by omega, by omega⟩, k _ H G (stp0 e) (.int _)⟩
      · cases h
    | _ => cases h
  | _ => cases h
theorem l_neg : Lift1 T (rU fun i => .int (-i)) dNeg := by
  intro H G dx x dz e rx h Q k
  cases rx with
  | int i => cases h; exact ⟨i, rfl, k _ H G (stp0 e) (.int _)⟩
  | _ => cases h
theorem l_eq : Lift2 T (rEqD K) dEq := by
  intro H G dx dy x y dz e rx ry h Q k
  simp only [dEq] at h
  split at h
  · rename_i hc
    cases h
    rw [Bool.and_eq_true] at hc
    refine ⟨dx.py, dy.py, rx.dp e (fit_no 8 _ hc.1), ry.dp e (fit_no 8 _ hc.2), fit_shaped hc.1, fit_shaped hc.2, ?_⟩
    rw [eqD_py _ _ (fit_no 8 _ hc.1) (fit_no 8 _ hc.2)]
    exact k _ H G (stp0 e) (.bl _)
  · cases h
theorem l_ne : Lift2 T (rNeD K) dNe := by
  intro H G dx dy x y dz e rx ry h Q k
  simp only [dNe] at h
  split at h
  · rename_i hc
    cases h
    rw [Bool.and_eq_true] at hc
    refine ⟨dx.py, dy.py, rx.dp e (fit_no 8 _ hc.1), ry.dp e (fit_no 8 _ hc.2), fit_shaped hc.1, fit_shaped hc.2, ?_⟩
    rw [eqD_py _ _ (fit_no 8 _ hc.1) (fit_no 8 _ hc.2)]
    exact k _ H G (stp0 e) (.bl _)
  · cases h
def rIsNo : R2 := fun x y H Q => y = .non ∧ Q (.bl (decide (x = .non))) H
def rNotNo : R2 := fun x y H Q => y = .non ∧ Q (.bl (!decide (x = .non))) H
theorem l_isN : Lift2 T rIsNo dIsN := by
  intro H G dx dy x y dz e rx ry h Q k
  cases ry with
  | non =>
    refine ⟨rfl, ?_⟩
    cases rx <;> (cases h; exact k _ H G (stp0 e) (.bl _))
  | _ => cases rx <;> cases h
theorem l_notN : Lift2 T rNotNo dNotN := by
  intro H G dx dy x y dz e rx ry h Q k
  cases ry with
  | non =>
    refine ⟨rfl, ?_⟩
    cases rx <;> (cases h; exact k _ H G (stp0 e) (.bl _))
  | _ => cases rx <;> cases h
theorem Reps.atI {G : Hp} {l : List D} {xs : List V} {i : Int} {d : D} (r : Reps T G l xs) (h : L2.atI l i = some d) : ∃ v, L2.atI xs i = some v ∧ Rep T G d v := by
  unfold L2.atI at h ⊢
  obtain ⟨j, e1, e2⟩ := Option.bind_eq_some_iff.mp h
  obtain ⟨v, e3, q⟩ := r.get e2
  exact ⟨v, by rw [← r.length, e1]; exact e3, q⟩
theorem l_ix : Lift2 T (fun x y H Q => rIxL K x y H Q ∨ rIxT K x y H Q) dIx := by
  intro H G dx dy x y dz e rx ry h Q k
  cases dx with
  | tup l =>
    cases dy with
    | int i =>
      cases ry
      obtain ⟨p, xs, rfl, hx, r1⟩ := rx.sqT (K := K) e
      obtain ⟨v, e1, q⟩ := r1.atI (show L2.atI l i = some dz from h)
      exact .inr ⟨p, xs, i, v, rfl, rfl, hx, e1, k _ H G (stp0 e) q⟩
    | _ => cases h
  | tp l =>
    cases dy with
    | int i =>
      cases ry
      obtain ⟨p, xs, rfl, hx, r1⟩ := rx.sqTp (K := K) e
      obtain ⟨v, e1, q⟩ := r1.atI (show L2.atI l i = some dz from h)
      exact .inr ⟨p, xs, i, v, rfl, rfl, hx, e1, k _ H G (stp0 e) q⟩
    | _ => cases h
  | lst l =>
    cases dy with
    | int i =>
      cases ry
      obtain ⟨p, xs, rfl, hx, r1⟩ := rx.sqL (K := K) e
      obtain ⟨v, e1, q⟩ := r1.atI (show L2.atI l i = some dz from h)
      exact .inl ⟨p, xs, i, v, rfl, rfl, hx, e1, k _ H G (stp0 e) q⟩
    | _ => cases h
  | _ => cases h
theorem any_py (d : D) (hd : noObj d = true) : ∀ l : List D, noObjs l = true → ((D.pys l).any fun z => PyData.eqv z d.py) = l.any fun z => eqD z d
  | [], _ => rfl
  | z :: l, h => by
    have h' : noObj z = true ∧ noObjs l = true := by simpa [noObjs] using h
    simp only [D.pys, List.any_cons]
    rw [eqD_py z d h'.1 hd, any_py d hd l h'.2]
end
/-- x in a list -/
theorem l_in {T : Tab} {K : PySem.W.Frag} : Lift2 T (rInD K) (fun d l => match l with | .lst l => dIn d (.lst l) | _ => none) := by
  intro H G dx dy x y dz e rx ry h Q k
  cases dy with
  | lst l =>
    simp only [dIn] at h
    split at h
    · rename_i hc
      cases h
      rw [Bool.and_eq_true] at hc
      have h8 : fit 8 (.lst l) = true := by simpa [fit] using hc.2
      refine ⟨dx.py, D.pys l, rx.dp e (fit_no 8 _ hc.1), ry.dp e (fit_no 8 _ h8), fit_shaped hc.1, ?_, ?_⟩
      · have := fit_shaped h8
        simpa [D.py] using this
      · rw [any_py dx (fit_no 8 _ hc.1) l (fits_no 7 _ hc.2)]
        exact k _ H G (stp0 e) (.bl _)
    · cases h
  | _ => cases h

/-! ### slices -/
/-- the items of l[lo:hi] -/
def cutD (l : List D) (lo hi : Option Int) : List D := (l.drop (HT.sIx l.length 0 lo)).take (HT.sIx l.length l.length hi - HT.sIx l.length 0 lo)
theorem Reps.cut {T : Tab} {G : Hp} {l : List D} {xs : List V} (r : Reps T G l xs) (lo hi : Option Int) : Reps T G (cutD l lo hi) (cutV xs lo hi) := by
  unfold cutD cutV
  rw [r.length]
  exact (r.drop _).take _
abbrev FPt := Fenv → Option (Option Int × Fenv)
def tPt (T : Tab) (pu : Bool) (f : FPt) : TO := fun σ H Q => ∃ C ρ G o ρ', Sta T C ρ σ H G ∧ f ρ = some (o, ρ') ∧ ∀ H' G', Nxt T C ρ' σ pu H G H' G' → Q o H'
structure POf (X : Cx) (T : Tab) (pu : Bool) (e : Option Expr) (f : FPt) : Prop where
  po : PO X e (tPt T pu f)
  same : Same1 pu f
theorem _root_.L2.PO.imp {X : Cx} {e : Option Expr} {t t' : TO} (h : PO X e t) (k : ∀ σ H Q, t' σ H Q → t σ H Q) : PO X e t' := ⟨fun pins s σ H Q I q => h.run pins s σ H Q I (k σ H Q q)⟩
@[simp] def dInt : D → Option Int
  | .int i => some i
  | _ => none
@[simp] def fNone : FPt := fun ρ => some (none, ρ)
@[simp] def fSome (a : FE) : FPt := fun ρ => (a ρ).bind fun x => (dInt x.1).map fun i => (some i, x.2)
@[simp] def fCut {α : Type} (g : D → Option Int → Option Int → Option α) (a : FE) (lo hi : FPt) : Fenv → Option (α × Fenv) := fun ρ => (a ρ).bind fun x => (lo x.2).bind fun l => (hi l.2).bind fun u => (g x.1 l.1 u.1).map fun z => (z, u.2)
@[simp] def dCutT : D → Option Int → Option Int → Option D
  | .tup l, lo, hi => some (.tup (cutD l lo hi))
  | .tp l, lo, hi => if HT.sIx l.length 0 lo = 0 ∧ HT.sIx l.length l.length hi = l.length then some (.tp l) else some (.tup (cutD l lo hi))
  | _, _, _ => none
@[simp] def dCutL : D → Option Int → Option Int → Option (List D)
  | .lst l, lo, hi => some (cutD l lo hi)
  | _, _, _ => none
section
variable {X : Cx} {T : Tab} {pu pa pb pc : Bool} {e a b c : Expr} {lo hi : Option Expr} {fa : FE} {fl fh : FPt} {pos p2 : Pos}
theorem pof_none : POf X T true none fNone where
  po := po_none.imp fun σ H Q ⟨C, ρ, G, o, ρ', S, h, k⟩ => by cases h; exact k H G (Nxt.refl S)
  same := fun _ ρ z ρ' h => by cases h; rfl
theorem pof_some (h : PEf X T pu e fa) : POf X T pu (some e) (fSome fa) where
  po := (po_some h.pe).imp fun σ H Q ⟨C, ρ, G, o, ρ', S, hh, k⟩ => by
    obtain ⟨⟨dx, ρ1⟩, e1, hh⟩ := Option.bind_eq_some_iff.mp hh
    obtain ⟨z', e3, hh⟩ := Option.map_eq_some_iff.mp hh
    cases hh
    refine ⟨C, ρ, G, dx, ρ1, S, e1, fun x H1 G1 n1 r1 => ?_⟩
    cases r1 with
    | int i => cases e3; exact ⟨_, rfl, k H1 G1 n1⟩
    | _ => cases e3
  same := fun hp ρ z ρ' hh => by
    obtain ⟨⟨dx, ρ1⟩, e1, hh⟩ := Option.bind_eq_some_iff.mp hh
    obtain ⟨z', e3, hh⟩ := Option.map_eq_some_iff.mp hh
    cases hh
    exact h.same hp _ _ _ e1
theorem cut_run {α : Type} {g : D → Option Int → Option Int → Option α} {r : V → Option Int → Option Int → Hp → VK → Prop} {C : C0} {ρ ρ' : Fenv} {σ : L2.St} {H G : Hp} {z : α} {Q : VK} (S : Sta T C ρ σ H G) (h : fCut g fa fl fh ρ = some (z, ρ'))
    (k : ∀ dx l u x H' G', Nxt T C ρ' σ (pa && pb && pc) H G H' G' → Rep T G' dx x → g dx l u = some z → r x l u H' Q) : tSl r (tD T pa fa) (tPt T pb fl) (tPt T pc fh) σ H Q := by
  obtain ⟨⟨dx, ρ1⟩, e1, h⟩ := Option.bind_eq_some_iff.mp h
  obtain ⟨⟨l, ρ2⟩, e2, h⟩ := Option.bind_eq_some_iff.mp h
  obtain ⟨⟨u, ρ3⟩, e3, h⟩ := Option.bind_eq_some_iff.mp h
  obtain ⟨z', e4, h⟩ := Option.map_eq_some_iff.mp h
  cases h
  exact ⟨C, ρ, G, dx, ρ1, S, e1, fun x H1 G1 n1 r1 => ⟨C, ρ1, G1, l, ρ2, n1.st, e2, fun H2 G2 n2 => ⟨C, ρ2, G2, u, _, n2.st, e3, fun H3 G3 n3 => k dx l u x H3 G3 ((n1.trans n2).trans n3) (r1.mono (n2.ex.trans n3.ex)) e4⟩⟩⟩
theorem cut_same {α : Type} {g : D → Option Int → Option Int → Option α} (ha : Same1 pa fa) (hl : Same1 pb fl) (hh : Same1 pc fh) : Same1 (pa && pb && pc) (fCut g fa fl fh) := fun hp ρ z ρ' h => by
  rw [Bool.and_eq_true, Bool.and_eq_true] at hp
  obtain ⟨⟨dx, ρ1⟩, e1, h⟩ := Option.bind_eq_some_iff.mp h
  obtain ⟨⟨l, ρ2⟩, e2, h⟩ := Option.bind_eq_some_iff.mp h
  obtain ⟨⟨u, ρ3⟩, e3, h⟩ := Option.bind_eq_some_iff.mp h
  obtain ⟨z', e4, h⟩ := Option.map_eq_some_iff.mp h
  cases h
  exact ((hh hp.2 _ _ _ e3).trans (hl hp.1.2 _ _ _ e2)).trans (ha hp.1.1 _ _ _ e1)
theorem cutAll {l : List D} {lo hi : Option Int} (h : HT.sIx l.length 0 lo = 0 ∧ HT.sIx l.length l.length hi = l.length) : cutD l lo hi = l := by
  unfold cutD
  rw [h.1, h.2, Nat.sub_zero]
  simp
theorem pef_cutT (ha : PEf X T pa e fa) (hl : POf X T pb lo fl) (hh : POf X T pc hi fh) : PEf X T (pa && pb && pc) (.Subscript e (.Slice lo hi none p2) pos) (fCut dCutT fa fl fh) where
  pe := (pe_slice sl_tupA ha.pe hl.po hh.po).imp fun σ H Q ⟨C, ρ, G, d, ρ', S, h, k⟩ => cut_run S h fun dx l u x H' G' n r hz => by
    cases dx with
    | tup ds =>
      cases hz
      obtain ⟨p, xs, rfl, hx, r1⟩ := r.sqT (K := X.K) n.st.gh
      refine ⟨p, xs, rfl, hx, fun hw => ?_, fun hw q hq => ?_⟩
      · rw [← r1.length] at hw
        rw [cutAll hw] at k
        exact k _ H' G' n r
      · exact k _ _ (upd G' q (.tup (cutV xs l u))) (n.stp (Stp.new n.st.gh hq)) (.tup upd_same ((r1.cut l u).mono (Ex.new (n.st.gh.free hq))))
    | tp ds =>
      obtain ⟨p, xs, rfl, hx, r1⟩ := r.sqTp (K := X.K) n.st.gh
      refine ⟨p, xs, rfl, hx, fun hw => ?_, fun hw q hq => ?_⟩
      · rw [← r1.length] at hw
        simp only [dCutT] at hz
        rw [if_pos hw] at hz
        cases hz
        exact k _ H' G' n r
      · rw [← r1.length] at hw
        simp only [dCutT] at hz
        rw [if_neg hw] at hz
        cases hz
        exact k _ _ (upd G' q (.tup (cutV xs l u))) (n.stp (Stp.new n.st.gh hq)) (.tup upd_same ((r1.cut l u).mono (Ex.new (n.st.gh.free hq))))
    | _ => cases hz
  same := cut_same ha.same hl.same hh.same
theorem peo_cutL (ha : PEf X T pa e fa) (hl : POf X T pb lo fl) (hh : POf X T pc hi fh) : PEo X T (pa && pb && pc) (.Subscript e (.Slice lo hi none p2) pos) (fLst (fCut dCutL fa fl fh)) where
  pe := (pe_slice sl_list ha.pe hl.po hh.po).imp fun σ H Q ⟨C, ρ, G, o, ρ', S, h, k⟩ => by
    obtain ⟨⟨l', ρ2⟩, h2, e⟩ := Option.bind_eq_some_iff.mp h
    cases e
    exact cut_run S h2 fun dx l u x H' G' n r hz => by
      cases dx with
      | lst ds =>
        cases hz
        obtain ⟨p, xs, rfl, hx, r1⟩ := r.sqL (K := X.K) n.st.gh
        exact ⟨p, xs, rfl, hx, fun q hq => k _ _ _ (n.push hq (r1.cut l u))⟩
      | _ => cases hz
  same := fun hp ρ z ρ' h => by
    obtain ⟨⟨l', ρ2⟩, h2, e⟩ := Option.bind_eq_some_iff.mp h
    cases e
    exact cut_same ha.same hl.same hh.same hp _ _ _ h2
end

/-! ### the named operators -/
section
variable {X : Cx} {T : Tab} {pu pa pb pc : Bool} {e a b c : Expr} {es : List Expr} {fa fb fc : FE} {fs : FA} {pos : Pos}
theorem pef_add (ha : PEf X T pa a fa) (hb : PEf X T pb b fb) : PEf X T (pa && pb) (.BinOp a .Add b pos) (fBin dAdd fa fb) := pef_bin (fun h1 h2 => pe_op (op_add.or op_catA) h1 h2) l_add ha hb
theorem pef_sub (ha : PEf X T pa a fa) (hb : PEf X T pb b fb) : PEf X T (pa && pb) (.BinOp a .Sub b pos) (fBin (dI fun i j => i - j) fa fb) := pef_bin (fun h1 h2 => pe_op op_sub h1 h2) l_I ha hb
theorem pef_mul (ha : PEf X T pa a fa) (hb : PEf X T pb b fb) : PEf X T (pa && pb) (.BinOp a .Mult b pos) (fBin dMul fa fb) := pef_bin (fun h1 h2 => pe_op op_mul h1 h2) l_mul ha hb
theorem pef_div (ha : PEf X T pa a fa) (hb : PEf X T pb b fb) : PEf X T (pa && pb) (.BinOp a .FloorDiv b pos) (fBin dDiv fa fb) := pef_bin (fun h1 h2 => pe_op op_fdivW h1 h2) l_div ha hb
theorem pef_mod (ha : PEf X T pa a fa) (hb : PEf X T pb b fb) : PEf X T (pa && pb) (.BinOp a .Mod b pos) (fBin dMod fa fb) := pef_bin (fun h1 h2 => pe_op op_mod h1 h2) l_mod ha hb
theorem pef_pow (ha : PEf X T pa a fa) (hb : PEf X T pb b fb) : PEf X T (pa && pb) (.BinOp a .Pow b pos) (fBin dPow fa fb) := pef_bin (fun h1 h2 => pe_op op_pow h1 h2) l_pow ha hb
theorem pef_neg (ha : PEf X T pa a fa) : PEf X T pa (.UnaryOp .USub a pos) (fUn dNeg fa) := pef_un un_neg l_neg ha
theorem pef_ix (ha : PEf X T pa a fa) (hb : PEf X T pb b fb) (hs : PlainIx b := by exact fun _ _ => rfl) : PEf X T (pa && pb) (.Subscript a b pos) (fBin dIx fa fb) := pef_bin (fun h1 h2 => pe_ix (ix_list.or ix_tup) h1 h2 hs) l_ix ha hb
@[simp] def dLt : D → D → Option D := dIB fun i j => decide (i < j)
@[simp] def dLe : D → D → Option D := dIB fun i j => decide (i ≤ j)
@[simp] def dGt : D → D → Option D := dIB fun i j => decide (j < i)
@[simp] def dGe : D → D → Option D := dIB fun i j => decide (j ≤ i)
/-- a comparison's rule for data -/
structure Cmp (X : Cx) (T : Tab) (op : CmpOp) (g : D → D → Option D) : Prop where
  ex : ∃ r, OpR X (compareOp op) r ∧ Lift2 T r g
theorem c_lt : Cmp X T .Lt dLt := ⟨_, op_lt, l_IB⟩
theorem c_le : Cmp X T .LtE dLe := ⟨_, op_le, l_IB⟩
theorem c_gt : Cmp X T .Gt dGt := ⟨_, op_gt, l_IB⟩
theorem c_ge : Cmp X T .GtE dGe := ⟨_, op_ge, l_IB⟩
theorem c_eq {k : Nat} (hr : Room k X.A) : Cmp X T .Eq dEq := ⟨_, op_eqD hr.units, l_eq⟩
theorem c_ne {k : Nat} (hr : Room k X.A) : Cmp X T .NotEq dNe := ⟨_, op_neD hr.units, l_ne⟩
theorem c_is : Cmp X T .Is dIsN := ⟨_, op_isN, l_isN⟩
theorem c_isnot : Cmp X T .IsNot dNotN := ⟨_, op_notN, l_notN⟩
theorem pef_cp {op : CmpOp} {g : D → D → Option D} (h : Cmp X T op g) (ha : PEf X T pa a fa) (hb : PEf X T pb b fb) (hm : behindInMarks op b = false := by exact nomark _) : PEf X T (pa && pb) (.Compare a [op] [b] pos) (fBin g fa fb) :=
  let ⟨_, ho, l⟩ := h.ex
  pef_cmp ho l ha hb hm
theorem ptf_cp {op : CmpOp} {g : D → D → Option D} (h : Cmp X T op g) (ha : PEf X T pa a fa) (hb : PEf X T pb b fb) (hm : behindInMarks op b = false := by exact nomark _) : PTf X T (pa && pb) (.Compare a [op] [b] pos) (fTest (fBin g fa fb)) :=
  let ⟨_, ho, l⟩ := h.ex
  ptf_cmp ho l ha hb hm
theorem pef_ch {op op' : CmpOp} {g g' : D → D → Option D} (h : Cmp X T op g) (h' : Cmp X T op' g') (ha : PEf X T pa a fa) (hb : PEf X T pb b fb) (hc : PEf X T pc c fc) (hm : lastMarks [op, op'] [b, c] = false := by with_unfolding_all rfl) :
    PEf X T (pa && pb && pc) (.Compare a [op, op'] [b, c] pos) (fChain g g' fa fb fc) :=
  let ⟨_, ho, l⟩ := h.ex
  let ⟨_, ho', l'⟩ := h'.ex
  pef_chain ho ho' l l' ha hb hc hm
theorem ptf_ch {op op' : CmpOp} {g g' : D → D → Option D} (h : Cmp X T op g) (h' : Cmp X T op' g') (ha : PEf X T pa a fa) (hb : PEf X T pb b fb) (hc : PEf X T pc c fc) (hm : lastMarks [op, op'] [b, c] = false := by with_unfolding_all rfl) :
    PTf X T (pa && pb && pc) (.Compare a [op, op'] [b, c] pos) (fTest (fChain g g' fa fb fc)) :=
  let ⟨_, ho, l⟩ := h.ex
  let ⟨_, ho', l'⟩ := h'.ex
  ptf_chain ho ho' l l' ha hb hc hm
end
end Fl
end

section
set_option Elab.async false
set_option linter.all false
set_option autoImplicit false
set_option maxRecDepth 100000
set_option maxHeartbeats 2000000
namespace Fl
open PySem PySem.Spec PyProof.Rows L2

/-! ### sorting, by insertion -/
section
variable {α : Type} (le : α → α → Bool)
def ins (x : α) : List α → List α
  | [] => [x]
  | y :: ys => if le x y = true then x :: y :: ys else y :: ins x ys
def isort : List α → List α
  | [] => []
  | x :: xs => ins le x (isort xs)
theorem ins_perm (x : α) : ∀ l : List α, (ins le x l).Perm (x :: l)
  | [] => .refl _
  | y :: ys => by
    unfold ins
    split
    · exact .refl _
    · exact ((ins_perm x ys).cons y).trans (.swap x y ys)
theorem isort_perm : ∀ l : List α, (isort le l).Perm l
  | [] => .refl _
  | x :: xs => (ins_perm le x _).trans ((isort_perm xs).cons x)
theorem isort_length (l : List α) : (isort le l).length = l.length := (isort_perm le l).length_eq
variable {le}
theorem ins_sorted (trans : ∀ x y z, le x y = true → le y z = true → le x z = true) (total : ∀ x y, (le x y || le y x) = true) (x : α) : ∀ l : List α, l.Pairwise (fun x y => le x y = true) → (ins le x l).Pairwise (fun x y => le x y = true)
  | [], _ => by simp [ins]
  | y :: ys, h => by
    obtain ⟨h1, h2⟩ := List.pairwise_cons.mp h
    unfold ins
    split
    · rename_i hxy
      refine List.pairwise_cons.mpr ⟨fun z hz => ?_, h⟩
      rcases List.mem_cons.mp hz with rfl | hz
      · exact hxy
      · exact trans x y z hxy (h1 z hz)
    · rename_i hxy
      refine List.pairwise_cons.mpr ⟨fun z hz => ?_, ins_sorted trans total x ys h2⟩
      rcases List.mem_cons.mp ((ins_perm le x ys).mem_iff.mp hz) with rfl | hz
      · have := total z y
        rw [Bool.or_eq_true] at this
        exact this.resolve_left hxy
      · exact h1 z hz
theorem isort_sorted (trans : ∀ x y z, le x y = true → le y z = true → le x z = true) (total : ∀ x y, (le x y || le y x) = true) : ∀ l : List α, (isort le l).Pairwise (fun x y => le x y = true)
  | [] => .nil
  | x :: xs => ins_sorted trans total x _ (isort_sorted trans total xs)
theorem ins_kept (trans : ∀ x y z, le x y = true → le y z = true → le x z = true) (total : ∀ x y, (le x y || le y x) = true) (x z : α) : ∀ l : List α, (ins le x l).filter (PySem.W.Srt.alike le z) = (x :: l).filter (PySem.W.Srt.alike le z)
  | [] => rfl
  | y :: ys => by
    unfold ins
    split
    · rfl
    · rename_i hxy
      rw [List.filter_cons, ins_kept trans total x z ys]
      have nb : PySem.W.Srt.alike le z y = true → PySem.W.Srt.alike le z x = true → False := fun hy hx => by
        unfold PySem.W.Srt.alike at hx hy
        rw [Bool.and_eq_true] at hx hy
        exact hxy (trans x z y hx.2 hy.1)
      simp only [List.filter_cons]
      cases hy : PySem.W.Srt.alike le z y <;> cases hx : PySem.W.Srt.alike le z x <;> first | rfl | exact (nb hy hx).elim
theorem isort_kept (trans : ∀ x y z, le x y = true → le y z = true → le x z = true) (total : ∀ x y, (le x y || le y x) = true) (z : α) : ∀ l : List α, (isort le l).filter (PySem.W.Srt.alike le z) = l.filter (PySem.W.Srt.alike le z)
  | [] => rfl
  | x :: xs => by
    show (ins le x (isort le xs)).filter _ = _
    rw [ins_kept trans total, List.filter_cons, List.filter_cons, isort_kept trans total z xs]
theorem isort_merge (trans : ∀ x y z, le x y = true → le y z = true → le x z = true) (total : ∀ x y, (le x y || le y x) = true) (l : List α) : l.mergeSort le = isort le l :=
  (PySem.W.Srt.the le trans total (isort_sorted trans total l) fun z => isort_kept trans total z l).symm
theorem ins_congr {le' : α → α → Bool} (x : α) : ∀ l : List α, (∀ y ∈ l, le x y = le' x y) → ins le x l = ins le' x l
  | [], _ => rfl
  | y :: ys, h => by
    unfold ins
    rw [h y (by simp), ins_congr x ys fun z hz => h z (by simp [hz])]
theorem isort_congr {le' : α → α → Bool} : ∀ l : List α, (∀ x ∈ l, ∀ y ∈ l, le x y = le' x y) → isort le l = isort le' l
  | [], _ => rfl
  | x :: xs, h => by
    show ins le x (isort le xs) = ins le' x (isort le' xs)
    rw [isort_congr xs fun a ha b hb => h a (by simp [ha]) b (by simp [hb])]
    exact ins_congr x _ fun y hy => h x (by simp) y (by simp [(isort_perm le' xs).mem_iff.mp hy])
theorem isort_map {β : Type} {leb : β → β → Bool} (f : β → α) (h : ∀ x y, le (f x) (f y) = leb x y) : ∀ l : List β, isort le (l.map f) = (isort leb l).map f
  | [] => rfl
  | x :: xs => by
    have im : ∀ (x : β) (l : List β), ins le (f x) (l.map f) = (ins leb x l).map f := by
      intro x l
      induction l with
      | nil => rfl
      | cons y ys ih =>
        simp only [List.map_cons, ins, h]
        split
        · rfl
        · simp [ih]
    show ins le (f x) (isort le (xs.map f)) = (ins leb x (isort leb xs)).map f
    rw [isort_map f h xs, im]
end

/-! ### the order of data -/
mutual
def ltD : D → D → Bool
  | .int a, .int b => decide (a < b)
  | .bl a, .bl b => decide (b2i a < b2i b)
  | .tup l, .tup m => ltDs l m
  | .tup l, .tp m => ltDs l m
  | .tp l, .tup m => ltDs l m
  | .tp l, .tp m => ltDs l m
  | .lst l, .lst m => ltDs l m
  | _, _ => false
def ltDs : List D → List D → Bool
  | [], [] => false
  | [], _ :: _ => true
  | _ :: _, [] => false
  | a :: as, b :: bs => if eqD a b = true then ltDs as bs else ltD a b
end
mutual
def likeD : D → D → Bool
  | .int _, .int _ => true
  | .bl _, .bl _ => true
  | .tup l, .tup m => likeDs l m
  | .tup l, .tp m => likeDs l m
  | .tp l, .tup m => likeDs l m
  | .tp l, .tp m => likeDs l m
  | .lst l, .lst m => likeDs l m
  | _, _ => false
def likeDs : List D → List D → Bool
  | a :: as, b :: bs => likeD a b && likeDs as bs
  | _, _ => true
end
mutual
theorem likeD_py : ∀ a b : D, likeD a b = true → PySem.W.alike a.py b.py = true
  | .int _, .int _, _ => by simp [D.py, PySem.W.alike]
  | .bl _, .bl _, _ => by simp [D.py, PySem.W.alike]
  | .tup l, .tup m, h => by
    simp only [D.py, PySem.W.alike]
    exact likeDs_py l m (by simpa [likeD] using h)
  | .tup l, .tp m, h => by
    simp only [D.py, PySem.W.alike]
    exact likeDs_py l m (by simpa [likeD] using h)
  | .tp l, .tup m, h => by
    simp only [D.py, PySem.W.alike]
    exact likeDs_py l m (by simpa [likeD] using h)
  | .tp l, .tp m, h => by
    simp only [D.py, PySem.W.alike]
    exact likeDs_py l m (by simpa [likeD] using h)
  | .lst l, .lst m, h => by
    simp only [D.py, PySem.W.alike]
    exact likeDs_py l m (by simpa [likeD] using h)
  | .non, b, h => by cases b <;> simp [likeD] at h
  | .str _, b, h => by cases b <;> simp [likeD] at h
  | .obj _ _, b, h => by cases b <;> simp [likeD] at h
  | .fn _, b, h => by cases b <;> simp [likeD] at h
  | .int _, .non, h => by simp [likeD] at h
  | .int _, .bl _, h => by simp [likeD] at h
  | .int _, .str _, h => by simp [likeD] at h
  | .int _, .tup _, h => by simp [likeD] at h
  | .int _, .tp _, h => by simp [likeD] at h
  | .int _, .lst _, h => by simp [likeD] at h
  | .int _, .obj _ _, h => by simp [likeD] at h
  | .int _, .fn _, h => by simp [likeD] at h
  | .bl _, .non, h => by simp [likeD] at h
  | .bl _, .int _, h => by simp [likeD] at h
  | .bl _, .str _, h => by simp [likeD] at h
  | .bl _, .tup _, h => by simp [likeD] at h
  | .bl _, .tp _, h => by simp [likeD] at h
  | .bl _, .lst _, h => by simp [likeD] at h
  | .bl _, .obj _ _, h => by simp [likeD] at h
  | .bl _, .fn _, h => by simp [likeD] at h
  | .tp _, .non, h => by simp [likeD] at h
  | .tp _, .int _, h => by simp [likeD] at h
  | .tp _, .str _, h => by simp [likeD] at h
  | .tp _, .bl _, h => by simp [likeD] at h
  | .tp _, .lst _, h => by simp [likeD] at h
  | .tp _, .obj _ _, h => by simp [likeD] at h
  | .tp _, .fn _, h => by simp [likeD] at h
  | .tup _, .non, h => by simp [likeD] at h
  | .tup _, .int _, h => by simp [likeD] at h
  | .tup _, .str _, h => by simp [likeD] at h
  | .tup _, .bl _, h => by simp [likeD] at h
  | .tup _, .lst _, h => by simp [likeD] at h
  | .tup _, .obj _ _, h => by simp [likeD] at h
  | .tup _, .fn _, h => by simp [likeD] at h
  | .lst _, .non, h => by simp [likeD] at h
  | .lst _, .int _, h => by simp [likeD] at h
  | .lst _, .str _, h => by simp [likeD] at h
  | .lst _, .bl _, h => by simp [likeD] at h
  | .lst _, .tup _, h => by simp [likeD] at h
  | .lst _, .tp _, h => by simp [likeD] at h
  | .lst _, .obj _ _, h => by simp [likeD] at h
  | .lst _, .fn _, h => by simp [likeD] at h
theorem likeDs_py : ∀ a b : List D, likeDs a b = true → PySem.W.alikeAll (D.pys a) (D.pys b) = true
  | [], [], _ => by simp [D.pys, PySem.W.alikeAll]
  | [], _ :: _, _ => by simp [D.pys, PySem.W.alikeAll]
  | _ :: _, [], _ => by simp [D.pys, PySem.W.alikeAll]
  | a :: as, b :: bs, h => by
    have h' : likeD a b = true ∧ likeDs as bs = true := by simpa [likeDs] using h
    simp only [D.pys, PySem.W.alikeAll, Bool.and_eq_true]
    exact ⟨likeD_py a b h'.1, likeDs_py as bs h'.2⟩
end
theorem pys_nil : PySem.W.rowLt [] [] = false := by simpa using PySem.W.dataLt_ints [] []
mutual
theorem ltD_py : ∀ a b : D, likeD a b = true → noObj a = true → noObj b = true → PySem.W.dataLt a.py b.py = ltD a b
  | .int a, .int b, _, _, _ => by simp only [D.py, ltD]; exact PySem.W.dataLt_int a b
  | .bl a, .bl b, _, _, _ => by simp only [D.py, ltD]; exact PySem.W.dataLt_bool a b
  | .tup l, .tup m, h, ha, hb => by
    simp only [D.py, ltD]
    rw [PySem.W.dataLt_tuple]
    exact ltDs_py l m (by simpa [likeD] using h) (by simpa [noObj] using ha) (by simpa [noObj] using hb)
  | .tup l, .tp m, h, ha, hb => by
    simp only [D.py, ltD]
    rw [PySem.W.dataLt_tuple]
    exact ltDs_py l m (by simpa [likeD] using h) (by simpa [noObj] using ha) (by simpa [noObj] using hb)
  | .tp l, .tup m, h, ha, hb => by
    simp only [D.py, ltD]
    rw [PySem.W.dataLt_tuple]
    exact ltDs_py l m (by simpa [likeD] using h) (by simpa [noObj] using ha) (by simpa [noObj] using hb)
  | .tp l, .tp m, h, ha, hb => by
    simp only [D.py, ltD]
    rw [PySem.W.dataLt_tuple]
    exact ltDs_py l m (by simpa [likeD] using h) (by simpa [noObj] using ha) (by simpa [noObj] using hb)
  | .lst l, .lst m, h, ha, hb => by
    simp only [D.py, ltD]
    rw [PySem.W.dataLt_list]
    exact ltDs_py l m (by simpa [likeD] using h) (by simpa [noObj] using ha) (by simpa [noObj] using hb)
  | .non, b, h, _, _ => by cases b <;> simp [likeD] at h
  | .str _, b, h, _, _ => by cases b <;> simp [likeD] at h
  | .obj _ _, b, h, _, _ => by cases b <;> simp [likeD] at h
  | .fn _, b, h, _, _ => by cases b <;> simp [likeD] at h
  | .int _, .non, h, _, _ => by simp [likeD] at h
  | .int _, .bl _, h, _, _ => by simp [likeD] at h
  | .int _, .str _, h, _, _ => by simp [likeD] at h
  | .int _, .tup _, h, _, _ => by simp [likeD] at h
  | .int _, .tp _, h, _, _ => by simp [likeD] at h
  | .int _, .lst _, h, _, _ => by simp [likeD] at h
  | .int _, .obj _ _, h, _, _ => by simp [likeD] at h
  | .int _, .fn _, h, _, _ => by simp [likeD] at h
  | .bl _, .non, h, _, _ => by simp [likeD] at h
  | .bl _, .int _, h, _, _ => by simp [likeD] at h
  | .bl _, .str _, h, _, _ => by simp [likeD] at h
  | .bl _, .tup _, h, _, _ => by simp [likeD] at h
  | .bl _, .tp _, h, _, _ => by simp [likeD] at h
  | .bl _, .lst _, h, _, _ => by simp [likeD] at h
  | .bl _, .obj _ _, h, _, _ => by simp [likeD] at h
  | .bl _, .fn _, h, _, _ => by simp [likeD] at h
  | .tp _, .non, h, _, _ => by simp [likeD] at h
  | .tp _, .int _, h, _, _ => by simp [likeD] at h
  | .tp _, .str _, h, _, _ => by simp [likeD] at h
  | .tp _, .bl _, h, _, _ => by simp [likeD] at h
  | .tp _, .lst _, h, _, _ => by simp [likeD] at h
  | .tp _, .obj _ _, h, _, _ => by simp [likeD] at h
  | .tp _, .fn _, h, _, _ => by simp [likeD] at h
  | .tup _, .non, h, _, _ => by simp [likeD] at h
  | .tup _, .int _, h, _, _ => by simp [likeD] at h
  | .tup _, .str _, h, _, _ => by simp [likeD] at h
  | .tup _, .bl _, h, _, _ => by simp [likeD] at h
  | .tup _, .lst _, h, _, _ => by simp [likeD] at h
  | .tup _, .obj _ _, h, _, _ => by simp [likeD] at h
  | .tup _, .fn _, h, _, _ => by simp [likeD] at h
  | .lst _, .non, h, _, _ => by simp [likeD] at h
  | .lst _, .int _, h, _, _ => by simp [likeD] at h
  | .lst _, .str _, h, _, _ => by simp [likeD] at h
  | .lst _, .bl _, h, _, _ => by simp [likeD] at h
  | .lst _, .tup _, h, _, _ => by simp [likeD] at h
  | .lst _, .tp _, h, _, _ => by simp [likeD] at h
  | .lst _, .obj _ _, h, _, _ => by simp [likeD] at h
  | .lst _, .fn _, h, _, _ => by simp [likeD] at h
theorem ltDs_py : ∀ a b : List D, likeDs a b = true → noObjs a = true → noObjs b = true → PySem.W.rowLt (D.pys a) (D.pys b) = ltDs a b
  | [], [], _, _, _ => by simp only [D.pys, ltDs]; exact pys_nil
  | [], b :: bs, _, _, _ => by
    simp only [D.pys, ltDs]
    unfold PySem.W.rowLt
    rw [PySem.W.toks_all_cons]
    simp only [PySem.W.keyToksAll]
    rw [lex_diff (O := itemOrd) (by simp)]
    rfl
  | a :: as, [], _, _, _ => by
    simp only [D.pys, ltDs]
    unfold PySem.W.rowLt
    rw [PySem.W.toks_all_cons]
    simp only [PySem.W.keyToksAll]
    rw [lex_diff (O := itemOrd) (by simp)]
    rfl
  | a :: as, b :: bs, h, ha, hb => by
    have h' : likeD a b = true ∧ likeDs as bs = true := by simpa [likeDs] using h
    have ha' : noObj a = true ∧ noObjs as = true := by simpa [noObjs] using ha
    have hb' : noObj b = true ∧ noObjs bs = true := by simpa [noObjs] using hb
    simp only [D.pys, ltDs]
    have e := PySem.W.dataLt_cons (likeD_py a b h'.1) (D.pys as) (D.pys bs)
    unfold PySem.W.rowLt
    rw [e, eqD_py a b ha'.1 hb'.1]
    split
    · exact ltDs_py as bs h'.2 ha'.2 hb'.2
    · exact ltD_py a b h'.1 ha'.1 hb'.1
end
end Fl
end

section
set_option Elab.async false
set_option linter.all false
set_option autoImplicit false
set_option maxRecDepth 100000
set_option maxHeartbeats 2000000
namespace Fl
open PySem PySem.Spec PyProof.Rows L2

/-! ### sorted(xs) of a list or tuple of alike data -/
section
variable {prog : Program} {w : World} {A : Around} {E : Value → Shared → Prop} {s : Shared}
theorem collect_tup {l : Addr} {vs : List Value} {Q : List Value → Shared → Prop} (hl : IsTup s.heap l vs.toArray)
    (h : Q vs { s with heap := (s.heap.push (seqObj "list" #[] 0)).update s.heap.objs.size (Obj.mapSeq (· ++ vs.toArray)) }) (hsz : vs.length ≤ sizeLine) :
    wpAny (model prog w) A (collect (.ref l)) Q E s := by
  obtain ⟨o, ho, hc, n, hd⟩ := id hl
  unfold collect
  refine wpAny_bind (wpAny_runValue (codeAny_builtin entry_proto_collect' ?_))
  show wpAny _ _ (do again (.builtin "list.__iadd__" ⟨[← newList [], .ref l], []⟩)) _ _ s
  refine wpAny_bind (wpAny_newList (wpAny_pure ⟨Code.quiet_builtin _ (by decide +kernel), codeAny_builtin entry_list_iadd' ?_⟩))
  show wpAny _ _ (Builtin.List.listExtendWith (.ref s.heap.objs.size) (.ref l) (.ref s.heap.objs.size)) _ _ { s with heap := s.heap.push (seqObj "list" #[] 0) }
  unfold Builtin.List.listExtendWith
  have ho' : (s.heap.push (seqObj "list" #[] 0)).get? l = some o := Heap.get?_push_of_some _ ho
  refine wpAny_bind (wpAny_typeOf (T := "tuple") ⟨o, ho', hc⟩ ?_)
  have ht : (Value.type "tuple" == Value.type "tuple") = true := by rfl
  rw [if_pos (by rw [ht]; simp)]
  refine wpAny_bind (listItems_at ho' hd ?_)
  refine wpAny_bind (listItems_at (xs := #[]) (n := 0) (Heap.get?_push_size _ rfl) rfl ?_)
  rw [if_neg (by simp)]
  refine wpAny_bind (listUpdate_at (xs := #[]) (n := 0) (Heap.get?_push_size _ rfl) rfl ?_ (Nat.zero_le _) (by show (#[] ++ vs.toArray).size ≤ sizeLine + 1; simp only [Array.size_append, List.size_toArray, List.length_nil]; omega))
  refine wpAny_pure ?_
  show wpAny (model prog w) A (do
      let o ← load s.heap.objs.size
      match o.data with
      | .seq xs _ => pure xs.toList
      | _ => unsupported "internal:collect") Q E { s with heap := (s.heap.push (seqObj "list" #[] 0)).update s.heap.objs.size (Obj.mapSeq (· ++ vs.toArray)) }
  refine wpAny_bind (wpAny_load (get?_update_seq (Heap.get?_push_size _ rfl) _) ?_)
  show wpAny _ _ (pure ((#[] : Array Value) ++ vs.toArray).toList) Q E _
  rw [show ((#[] : Array Value) ++ vs.toArray).toList = vs by simp]
  exact wpAny_pure h
/-- list or tuple -/
def SeqAtA (h : Heap) (l : Addr) (vs : List Value) : Prop := h.IsList l vs.toArray ∨ IsTup h l vs.toArray
theorem collect_seq {l : Addr} {vs : List Value} {Q : List Value → Shared → Prop} (hl : SeqAtA s.heap l vs)
    (h : Q vs { s with heap := (s.heap.push (seqObj "list" #[] 0)).update s.heap.objs.size (Obj.mapSeq (· ++ vs.toArray)) }) (hsz : vs.length ≤ sizeLine) :
    wpAny (model prog w) A (collect (.ref l)) Q E s := by
  rcases hl with hl | hl
  · exact collect_list hl h hsz
  · exact collect_tup hl h hsz
theorem sorted_of_seq {l : Addr} {vs : List Value} {Q : Value → Shared → Prop} (hl : SeqAtA s.heap l vs) (hL : vs.length ≤ sizeLine)
    (body : ∀ E' : Value → Shared → Prop, wpAny (model prog w) A.in1.in1 (Builtin.«list.sort» ⟨[.ref (s.heap.objs.size + 1)], []⟩) (fun f s' => f = .done (.ret .none) ∧ Q (.ref (s.heap.objs.size + 1)) s') E' { s with heap := PySem.W.copyHeap s.heap vs }) :
    wpAny (model prog w) A (call (.builtin "sorted") [.ref l] []) Q E s := by
  refine PyProof.Rows.call_function_entry_kw kind_sorted plain_sorted entry_sorted (args_sorted1 _) ?_
  unfold Builtin.«sorted»
  refine wpAny_bind (m := checkCount "sorted" 1 1 _) (wpAny_pure ?_)
  refine wpAny_bind (collect_seq hl ?_ hL)
  refine wpAny_bind (wpAny_newList ?_ hL)
  have hsz : ((s.heap.push (seqObj "list" #[] 0)).update s.heap.objs.size (Obj.mapSeq (· ++ vs.toArray))).objs.size = s.heap.objs.size + 1 := by
    rw [Heap.size_update, size_push']
  show wpAny _ _ _ _ _ { s with heap := PySem.W.copyHeap s.heap vs }
  rw [hsz]
  refine wpAny_bind (wpAny_holding (PyProof.Rows.wpAny_call_entry_kw slot_list_sort ⟨_, PySem.W.copyHeap_at s.heap vs, rfl⟩ entry_list_sort ?body (args_list_sort _)))
  case body =>
    show wpAny (model prog w) A.in1.in1 (Builtin.«list.sort» ⟨[.ref (s.heap.objs.size + 1)], []⟩) _ _ _
    refine wpAny_mono (body _) (fun f s' hf => ?_) fun _ _ e => e
    obtain ⟨rfl, hq⟩ := hf
    exact ⟨_, rfl, wpAny_pure ⟨_, rfl, hq⟩⟩
end

def leP (a b : D) : Bool := PySem.W.dataLe false D.py a b
theorem leP_trans (x y z : D) : leP x y = true → leP y z = true → leP x z = true := (PySem.W.sortLe_total (listOrd itemOrd) false fun b : D => PySem.W.keyToks b.py).trans x y z
theorem leP_total (x y : D) : (leP x y || leP y x) = true := by
  rw [Bool.or_eq_true]
  exact (PySem.W.sortLe_total (listOrd itemOrd) false fun b : D => PySem.W.keyToks b.py).total x y
def leD (a b : D) : Bool := !ltD b a
theorem leP_leD {a b : D} (h : likeD b a = true) (ha : noObj a = true) (hb : noObj b = true) : leP a b = leD a b := by
  unfold leP leD
  rw [PySem.W.dataLe_eq]
  show (!PySem.W.dataLt b.py a.py) = _
  rw [ltD_py b a h hb ha]
/-- all alike, all tuples with an item at least or none of them a tuple or None -/
def likeAll (l : List D) : Bool := l.all fun a => l.all fun b => likeD a b
def tup1 : D → Bool
  | .tup (_ :: _) => true
  | .tp (_ :: _) => true
  | _ => false
def noTup : D → Bool
  | .tup _ => false
  | .tp _ => false
  | .non => false
  | _ => true
def canSort (l : List D) : Bool := fits 7 l && likeAll l && (l.all tup1 || l.all noTup) && decide (l.length ≤ many)
@[simp] def dSort : D → Option (List D)
  | .lst l => if canSort l then some (isort leD l) else none
  | .tup l => if canSort l then some (isort leD l) else none
  | .tp l => if canSort l then some (isort leD l) else none
  | _ => none
@[simp] def d1 {α : Type} (g : D → Option α) : List D → Option α
  | [d] => g d
  | _ => none
@[simp] def d2 {α : Type} (g : D → D → Option α) : List D → Option α
  | [d, e] => g d e
  | _ => none
theorem d1_inv {α : Type} {g : D → Option α} {ds : List D} {z : α} (h : d1 g ds = some z) : ∃ d, ds = [d] ∧ g d = some z := by
  match ds, h with
  | [d], h => exact ⟨d, rfl, h⟩
theorem d2_inv {α : Type} {g : D → D → Option α} {ds : List D} {z : α} (h : d2 g ds = some z) : ∃ d e, ds = [d, e] ∧ g d e = some z := by
  match ds, h with
  | [d, e], h => exact ⟨d, e, rfl, h⟩
theorem Reps.one {T : Tab} {G : Hp} {d : D} {vs : List V} (r : Reps T G [d] vs) : ∃ v, vs = [v] ∧ Rep T G d v := by
  cases r with
  | cons h t => cases t; exact ⟨_, rfl, h⟩
theorem Reps.two {T : Tab} {G : Hp} {d e : D} {vs : List V} (r : Reps T G [d, e] vs) : ∃ v u, vs = [v, u] ∧ Rep T G d v ∧ Rep T G e u := by
  cases r with
  | cons h t => obtain ⟨u, rfl, q⟩ := t.one; exact ⟨_, u, rfl, h, q⟩
section
variable {X : Cx} {T : Tab}
def rSortX (T : Tab) : List V → Hp → VK → Prop := fun vs H Q => ∃ (G : Hp) (d : D) (v : V) (l : List D), vs = [v] ∧ Ex G H ∧ Rep T G d v ∧ (d = .lst l ∨ d = .tup l ∨ d = .tp l) ∧ canSort l = true ∧ ∀ p xs, H p = none → Reps T G (isort leD l) xs → Q (.ref p) (upd H p (.lst xs))
theorem each_of {σ : L2.St} {H G : Hp} {s : Shared} {pins : List (Addr × Obj)} (I : Inv X pins σ H s) (e : Ex G H) : ∀ {l : List D} {xs : List V} {its : List Value}, Reps T G l xs → Vals xs its → noObjs l = true →
    PySem.W.EachIs (fun v (b : D × V) => RelV b.2 v ∧ Rep T G b.1 b.2) its (l.zip xs) ∧ PySem.W.EachIs (fun v (b : D × V) => ∃ as, Reads s.heap v b.1.py as) its (l.zip xs)
  | _, _, _, .nil, .nil, _ => ⟨.nil, .nil⟩
  | _, _, _, .cons (d := d) (ds := ds) h r, .cons q t, n => by
    have n' : noObj d = true ∧ noObjs ds = true := by simpa [noObjs] using n
    obtain ⟨h1, h2⟩ := each_of I e r t n'.2
    obtain ⟨as, hr⟩ := Dp.reads I d.py _ _ (h.dp e n'.1) q
    exact ⟨.cons ⟨q, h⟩ h1, .cons ⟨as, hr⟩ h2⟩
theorem each_out {G : Hp} : ∀ {out : List Value} {bs : List (D × V)}, PySem.W.EachIs (fun v (b : D × V) => RelV b.2 v ∧ Rep T G b.1 b.2) out bs → Vals (bs.map (·.2)) out ∧ Reps T G (bs.map (·.1)) (bs.map (·.2))
  | _, _, .nil => ⟨.nil, .nil⟩
  | _, _, .cons h r => ⟨.cons h.1 (each_out r).1, .cons h.2 (each_out r).2⟩
theorem zip_fst {α β : Type} : ∀ {l : List α} {xs : List β}, l.length = xs.length → (l.zip xs).map (·.1) = l
  | [], [], _ => rfl
  | [], _ :: _, h => by simp at h
  | _ :: _, [], h => by simp at h
  | a :: l, x :: xs, h => by
    simp only [List.zip_cons_cons, List.map_cons]
    rw [zip_fst (by simpa using h)]
theorem fits_all {n : Nat} : ∀ {l : List D}, fits n l = true → ∀ d ∈ l, fit n d = true
  | [], _, d, hd => by cases hd
  | a :: l, h, d, hd => by
    have h' : fit n a = true ∧ fits n l = true := by simpa [fits] using h
    rcases List.mem_cons.mp hd with rfl | hd
    · exact h'.1
    · exact fits_all h'.2 d hd
theorem cr_sortX (hu : X.A.units + 64 < cLine) : CallR X (.builtin "sorted") (rSortX T) := by
  intro pins s σ H vs us Q I r h
  obtain ⟨G, d, v, l, rfl, e, hd, hl, hc, q⟩ := h
  obtain ⟨u, rfl, ru⟩ := vals1 r
  have hc' : ((fits 7 l = true ∧ likeAll l = true) ∧ (l.all tup1 || l.all noTup) = true) ∧ l.length ≤ many := by
    unfold canSort at hc
    rw [Bool.and_eq_true, Bool.and_eq_true, Bool.and_eq_true] at hc
    exact ⟨hc.1, of_decide_eq_true hc.2⟩
  obtain ⟨⟨⟨hf, hlk⟩, hts⟩, hlen⟩ := hc'
  obtain ⟨a, xs, its, ea, rv, hs, r1⟩ : ∃ a xs its, u = .ref a ∧ Vals xs its ∧ SeqAtA s.heap a its ∧ Reps T G l xs := by
    rcases hl with rfl | rfl | rfl
    · obtain ⟨a, xs, rfl, hx, r1⟩ := hd.sqL (K := X.K) e
      obtain ⟨its, rv, pl, _⟩ := I.list hx
      exact ⟨a, xs, its, ru, rv, .inl pl.isList, r1⟩
    · obtain ⟨a, xs, rfl, hx, r1⟩ := hd.sqT (K := X.K) e
      obtain ⟨its, rv, pl, _⟩ := I.tuple hx
      exact ⟨a, xs, its, ru, rv, .inr pl, r1⟩
    · obtain ⟨a, xs, rfl, hx, r1⟩ := hd.sqTp (K := X.K) e
      obtain ⟨its, rv, pl, _⟩ := I.tuple hx
      exact ⟨a, xs, its, ru, rv, .inr pl, r1⟩
  subst ea
  have hnl : noObjs l = true := fits_no 7 l hf
  obtain ⟨E1, E2⟩ := each_of I e r1 rv hnl
  have hlx : l.length = xs.length := r1.length
  have hli : its.length = l.length := by rw [hlx]; exact rv.length.symm
  have hL : its.length ≤ sizeLine := by rw [hli]; exact Nat.le_trans hlen many_le
  have hzm : ∀ b ∈ l.zip xs, b.1 ∈ l := fun b hb => (List.of_mem_zip hb).1
  have hal : PySem.W.AllAlike ((l.zip xs).map fun b => b.1.py) := by
    intro d1 h1 d2 h2
    obtain ⟨b1, hb1, rfl⟩ := List.mem_map.mp h1
    obtain ⟨b2, hb2, rfl⟩ := List.mem_map.mp h2
    exact likeD_py _ _ (List.all_eq_true.mp (List.all_eq_true.mp hlk b1.1 (hzm _ hb1)) b2.1 (hzm _ hb2))
  have hk : PySem.W.Sortable ((l.zip xs).map fun b => b.1.py) := by
    rw [Bool.or_eq_true] at hts
    rcases hts with ht | ht
    · refine .inl fun d hd => ?_
      obtain ⟨b, hb, rfl⟩ := List.mem_map.mp hd
      have := List.all_eq_true.mp ht b.1 (hzm _ hb)
      cases q1 : b.1 with
      | tup m =>
        cases m with
        | nil => rw [q1] at this; simp [tup1] at this
        | cons x m => exact ⟨x.py, D.pys m, by simp [D.py, D.pys]⟩
      | tp m =>
        cases m with
        | nil => rw [q1] at this; simp [tup1] at this
        | cons x m => exact ⟨x.py, D.pys m, by simp [D.py, D.pys]⟩
      | _ => rw [q1] at this; simp [tup1] at this
    · refine .inr fun d hd => ?_
      obtain ⟨b, hb, rfl⟩ := List.mem_map.mp hd
      have := List.all_eq_true.mp ht b.1 (hzm _ hb)
      cases q1 : b.1 <;> (rw [q1] at this; simp_all [noTup, D.py])
  have er' : PySem.W.EachIs (fun v (b : D × V) => ∃ as, Reads (PySem.W.sortingHeap (PySem.W.copyHeap s.heap its) (s.heap.objs.size + 1) its) v b.1.py as) its (l.zip xs) := E2.mono fun _ _ ⟨as, r⟩ => ⟨as, PyProof.Rows.Reads.keeps (fun _ _ => PySem.W.sorting_copy_old) r⟩
  refine sorted_of_seq hs hL fun E' => ?_
  refine PySem.W.list_sort_vals (s := { s with heap := PySem.W.copyHeap s.heap its }) (PySem.W.copyHeap_at s.heap its)
    (PySem.W.SortsAt.data (s := { s with heap := PySem.W.sortingHeap (PySem.W.copyHeap s.heap its) (s.heap.objs.size + 1) its })
      (PySem.W.each_map (R := fun v d => ∃ as, Reads (PySem.W.sortingHeap (PySem.W.copyHeap s.heap its) (s.heap.objs.size + 1) its) v d as) (fun b : D × V => b.1.py) er') hal hk
      (PySem.W.bound_map fun b hb => ?_)) hL ⟨rfl, ?_⟩
  · have q1 := (fit_ok 7 b.1 (fits_all hf _ (hzm _ hb))).2
    show X.A.units + 1 + 1 + b.1.py.depth < cLine
    omega
  · generalize hout : (PySem.W.sortVals _ false its its) = out
    have hE := PySem.W.sortVals_data false E1 er' hal
    rw [hout] at hE
    have em : (l.zip xs).mergeSort (PySem.W.dataLe false fun b : D × V => b.1.py) = isort (fun a b : D × V => leP a.1 b.1) (l.zip xs) :=
      isort_merge (fun x y z => leP_trans x.1 y.1 z.1) (fun x y => leP_total x.1 y.1) _
    rw [em] at hE
    obtain ⟨v1, v2⟩ := each_out hE
    have ef : (isort (fun a b : D × V => leP a.1 b.1) (l.zip xs)).map (·.1) = isort leD l := by
      rw [← isort_map (le := leP) (fun b : D × V => b.1) (fun x y => rfl), zip_fst hlx]
      exact isort_congr _ fun x hx y hy => leP_leD (List.all_eq_true.mp (List.all_eq_true.mp hlk y hy) x hx) (fit_no 7 _ (fits_all hf _ hx)) (fit_no 7 _ (fits_all hf _ hy))
    rw [ef] at v2
    generalize hz : (isort (fun a b : D × V => leP a.1 b.1) (l.zip xs)).map (·.2) = zs at v1 v2
    obtain ⟨ep, he'⟩ := PyProof.Rows.sortedAll_at s.heap its out.toArray
    have hzl : zs.length ≤ sizeLine := by
      rw [← v2.length, isort_length]
      exact Nat.le_trans hlen many_le
    refine ⟨.ref _, upd H (s.heap.objs.size + 1) (.lst zs), I.laid (t' := s.toks) (h' := PyProof.Rows.sortedAll s.heap its out.toArray) (fun _ _ => PyProof.Rows.sortedAll_old) (Nat.le_succ _) ⟨hzl, out, ep, v1, ?_⟩, rfl, q _ zs (I.hok.fresh (Nat.le_succ _)) v2⟩
    exact he'
theorem l_sort : LiftNO T (rSortX T) (d1 dSort) := by
  intro H G ds xs l e r h Q k
  obtain ⟨d, rfl, h⟩ := d1_inv h
  obtain ⟨v, rfl, hd⟩ := r.one
  · cases d with
    | lst m =>
      have h : dSort (.lst m) = some l := h
      simp only [dSort] at h
      split at h
      · rename_i hc
        cases h
        exact ⟨G, _, v, m, rfl, e, hd, .inl rfl, hc, k⟩
      · cases h
    | tup m =>
      have h : dSort (.tup m) = some l := h
      simp only [dSort] at h
      split at h
      · rename_i hc
        cases h
        exact ⟨G, _, v, m, rfl, e, hd, .inr (.inl rfl), hc, k⟩
      · cases h
    | tp m =>
      have h : dSort (.tp m) = some l := h
      simp only [dSort] at h
      split at h
      · rename_i hc
        cases h
        exact ⟨G, _, v, m, rfl, e, hd, .inr (.inr rfl), hc, k⟩
      · cases h
    | _ => cases h
end

/-! ### other built-ins -/
/-- whole numbers alone -/
def asI : List D → Option (List Int)
  | [] => some []
  | .int i :: r => (asI r).map (i :: ·)
  | _ :: _ => none
@[simp] theorem asI_map (ns : List Int) : asI (ns.map D.int) = some ns := by
  induction ns with
  | nil => rfl
  | cons n ns ih => simp [asI, ih]
theorem asI_of : ∀ {l : List D} {ns : List Int}, asI l = some ns → l = ns.map D.int
  | [], ns, h => by simp [asI] at h; subst h; rfl
  | .int i :: r, ns, h => by
    simp only [asI] at h
    obtain ⟨m, e1, e2⟩ := Option.map_eq_some_iff.mp h
    rw [← e2, asI_of e1]; rfl
  | .non :: r, ns, h => by simp [asI] at h
  | .bl _ :: r, ns, h => by simp [asI] at h
  | .str _ :: r, ns, h => by simp [asI] at h
  | .tup _ :: r, ns, h => by simp [asI] at h
  | .tp _ :: r, ns, h => by simp [asI] at h
  | .lst _ :: r, ns, h => by simp [asI] at h
  | .obj _ _ :: r, ns, h => by simp [asI] at h
  | .fn _ :: r, ns, h => by simp [asI] at h
@[simp] def dLen : D → Option D
  | .tup l => some (.int l.length)
  | .tp l => some (.int l.length)
  | .lst l => some (.int l.length)
  | _ => none
@[simp] def dAbs : D → Option D
  | .int i => some (.int (if i < 0 then -i else i))
  | _ => none
@[simp] def dIntOf : D → Option D
  | .int i => some (.int i)
  | .bl b => some (.int (if b then 1 else 0))
  | _ => none
@[simp] def dMax2 : D → D → Option D
  | .int i, .int j => some (.int (if j > i then j else i))
  | _, _ => none
@[simp] def dMin2 : D → D → Option D
  | .int i, .int j => some (.int (if j < i then j else i))
  | _, _ => none
@[simp] def dSum : D → Option D
  | .tup l => (asI l).map fun ns => .int ns.sum
  | .tp l => (asI l).map fun ns => .int ns.sum
  | .lst l => (asI l).map fun ns => .int ns.sum
  | _ => none
def maxI : List Int → Int
  | [] => 0
  | x :: r => r.foldl (fun a b => if b > a then b else a) x
def minI : List Int → Int
  | [] => 0
  | x :: r => r.foldl (fun a b => if b < a then b else a) x
@[simp] def dMaxL : D → Option D
  | .lst l => (asI l).bind fun ns => if ns.length = 0 then none else some (.int (maxI ns))
  | _ => none
@[simp] def dMinL : D → Option D
  | .lst l => (asI l).bind fun ns => if ns.length = 0 then none else some (.int (minI ns))
  | _ => none
@[simp] def dItems : D → Option (List D)
  | .tup l => some l
  | .tp l => some l
  | .lst l => some l
  | _ => none
@[simp] def dTupOf : D → Option D
  | .tup l => some (.tup l)
  | .tp l => some (.tp l)
  | .lst l => some (.tup l)
  | _ => none
@[simp] def dDivmod : D → D → Option D
  | .int i, .int j => if 0 < j ∧ j < 1073741824 then some (.tup [.int (i / j), .int (i % j)]) else none
  | _, _ => none
theorem foldl_max : ∀ (r : List Int) (x : Int), (r.foldl (fun a b => if b > a then b else a) x = x ∨ r.foldl (fun a b => if b > a then b else a) x ∈ r) ∧ x ≤ r.foldl (fun a b => if b > a then b else a) x ∧ ∀ y ∈ r, y ≤ r.foldl (fun a b => if b > a then b else a) x
  | [], x => ⟨.inl rfl, Int.le_refl _, fun y h => by cases h⟩
  | b :: r, x => by
    obtain ⟨h1, h2, h3⟩ := foldl_max r (if b > x then b else x)
    simp only [List.foldl_cons]
    refine ⟨?_, ?_, fun y hy => ?_⟩
    · rcases h1 with h | h
      · by_cases hb : b > x
        · rw [if_pos hb] at h ⊢; exact .inr (by rw [h]; simp)
        · rw [if_neg hb] at h ⊢; exact .inl h
      · exact .inr (List.mem_cons_of_mem _ h)
    · refine Int.le_trans ?_ h2; split <;> omega
    · rcases List.mem_cons.mp hy with rfl | hy
      · refine Int.le_trans ?_ h2; split <;> omega
      · exact h3 y hy
theorem maxI_spec {ns : List Int} (h : 0 < ns.length) : maxI ns ∈ ns ∧ ∀ y ∈ ns, y ≤ maxI ns := by
  cases ns with
  | nil => simp at h
  | cons x r =>
    obtain ⟨h1, h2, h3⟩ := foldl_max r x
    refine ⟨?_, fun y hy => ?_⟩
    · show r.foldl _ x ∈ _
      rcases h1 with q | q
      · rw [q]; simp
      · exact List.mem_cons_of_mem _ q
    · rcases List.mem_cons.mp hy with rfl | hy
      · exact h2
      · exact h3 y hy
theorem foldl_min : ∀ (r : List Int) (x : Int), (r.foldl (fun a b => if b < a then b else a) x = x ∨ r.foldl (fun a b => if b < a then b else a) x ∈ r) ∧ r.foldl (fun a b => if b < a then b else a) x ≤ x ∧ ∀ y ∈ r, r.foldl (fun a b => if b < a then b else a) x ≤ y
  | [], x => ⟨.inl rfl, Int.le_refl _, fun y h => by cases h⟩
  | b :: r, x => by
    obtain ⟨h1, h2, h3⟩ := foldl_min r (if b < x then b else x)
    simp only [List.foldl_cons]
    refine ⟨?_, ?_, fun y hy => ?_⟩
    · rcases h1 with h | h
      · by_cases hb : b < x
        · rw [if_pos hb] at h ⊢; exact .inr (by rw [h]; simp)
        · rw [if_neg hb] at h ⊢; exact .inl h
      · exact .inr (List.mem_cons_of_mem _ h)
    · refine Int.le_trans h2 ?_; split <;> omega
    · rcases List.mem_cons.mp hy with rfl | hy
      · refine Int.le_trans h2 ?_; split <;> omega
      · exact h3 y hy
theorem minI_spec {ns : List Int} (h : 0 < ns.length) : minI ns ∈ ns ∧ ∀ y ∈ ns, minI ns ≤ y := by
  cases ns with
  | nil => simp at h
  | cons x r =>
    obtain ⟨h1, h2, h3⟩ := foldl_min r x
    refine ⟨?_, fun y hy => ?_⟩
    · show r.foldl _ x ∈ _
      rcases h1 with q | q
      · rw [q]; simp
      · exact List.mem_cons_of_mem _ q
    · rcases List.mem_cons.mp hy with rfl | hy
      · exact h2
      · exact h3 y hy
section
variable {T : Tab} {K : PySem.W.Frag}
theorem l_len : LiftN T (fun xs H Q => ∃ p ys, xs = [V.ref p] ∧ (SqL K H p ys ∨ SqT K H p ys) ∧ Q (.int ys.length) H) (d1 dLen) := by
  intro H G ds xs dz e r h Q k
  obtain ⟨d, rfl, h⟩ := d1_inv h
  obtain ⟨v, rfl, hd⟩ := r.one
  · cases d with
    | lst m => cases h; obtain ⟨a, ys, rfl, hx, r1⟩ := hd.sqL (K := K) e; exact ⟨a, ys, rfl, .inl hx, by rw [← r1.length]; exact k _ H G (stp0 e) (.int _)⟩
    | tup m => cases h; obtain ⟨a, ys, rfl, hx, r1⟩ := hd.sqT (K := K) e; exact ⟨a, ys, rfl, .inr hx, by rw [← r1.length]; exact k _ H G (stp0 e) (.int _)⟩
    | tp m => cases h; obtain ⟨a, ys, rfl, hx, r1⟩ := hd.sqTp (K := K) e; exact ⟨a, ys, rfl, .inr hx, by rw [← r1.length]; exact k _ H G (stp0 e) (.int _)⟩
    | _ => cases h
theorem l_abs : LiftN T (fun xs H Q => ∃ i, xs = [V.int i] ∧ Q (.int (if i < 0 then -i else i)) H) (d1 dAbs) := by
  intro H G ds xs dz e r h Q k
  obtain ⟨d, rfl, h⟩ := d1_inv h
  obtain ⟨v, rfl, q1⟩ := r.one
  cases q1 with
  | int i => cases h; exact ⟨i, rfl, k _ H G (stp0 e) (.int _)⟩
  | _ => cases h
theorem l_int1 : LiftN T (fun xs H Q => (∃ i, xs = [V.int i] ∧ Q (.int i) H) ∨ ∃ k, xs = [V.bl k] ∧ Q (.int (if k then 1 else 0)) H) (d1 dIntOf) := by
  intro H G ds xs dz e r h Q k
  obtain ⟨d, rfl, h⟩ := d1_inv h
  obtain ⟨v, rfl, q1⟩ := r.one
  cases q1 with
  | int i => cases h; exact .inl ⟨i, rfl, k _ H G (stp0 e) (.int _)⟩
  | bl b => cases h; exact .inr ⟨b, rfl, k _ H G (stp0 e) (.int _)⟩
  | _ => cases h
theorem l_max2 : LiftN T (fun xs H Q => ∃ i j, xs = [V.int i, V.int j] ∧ Q (.int (if j > i then j else i)) H) (d2 dMax2) := by
  intro H G ds xs dz e r h Q k
  obtain ⟨d, d', rfl, h⟩ := d2_inv h
  obtain ⟨v, u, rfl, q1, q2⟩ := r.two
  cases q1 with
  | int i =>
    cases q2 with
    | int j => cases h; exact ⟨i, j, rfl, k _ H G (stp0 e) (.int _)⟩
    | _ => cases h
  | _ => cases h
theorem l_min2 : LiftN T (fun xs H Q => ∃ i j, xs = [V.int i, V.int j] ∧ Q (.int (if j < i then j else i)) H) (d2 dMin2) := by
  intro H G ds xs dz e r h Q k
  obtain ⟨d, d', rfl, h⟩ := d2_inv h
  obtain ⟨v, u, rfl, q1, q2⟩ := r.two
  cases q1 with
  | int i =>
    cases q2 with
    | int j => cases h; exact ⟨i, j, rfl, k _ H G (stp0 e) (.int _)⟩
    | _ => cases h
  | _ => cases h
theorem l_divmod : LiftN T (fun xs H Q => ∃ i j, xs = [V.int i, V.int j] ∧ CDiv i j ∧ ∀ p, H p = none → Q (.ref p) (upd H p (.tup [.int (i / j), .int (i % j)]))) (d2 dDivmod) := by
  intro H G ds xs dz e r h Q k
  obtain ⟨d, d', rfl, h⟩ := d2_inv h
  obtain ⟨v, u, rfl, q1, q2⟩ := r.two
  cases q1 with
  | int i =>
    cases q2 with
    | int j =>
      have h : dDivmod (.int i) (.int j) = some dz := h
      simp only [dDivmod] at h
      split at h
      · rename_i hc
        cases h
        exact ⟨i, j, rfl, hc, fun p hp => k _ _ _ (Stp.new e hp) (.tup upd_same (.cons (.int _) (.cons (.int _) .nil)))⟩
      · cases h
    | _ => cases h
  | _ => cases h
def rSumT (K : PySem.W.Frag) : List V → Hp → VK → Prop := fun vs H Q => ∃ (a : Addr) (ns : List Int), vs = [V.ref a] ∧ SqT K H a (ns.map V.int) ∧ Q (.int ns.sum) H
theorem l_sum : LiftN T (fun vs H Q => rSum K vs H Q ∨ rSumT K vs H Q) (d1 dSum) := by
  intro H G ds xs dz e r h Q k
  obtain ⟨d, rfl, h⟩ := d1_inv h
  obtain ⟨v, rfl, hd⟩ := r.one
  · cases d with
    | lst m =>
      obtain ⟨ns, e1, e2⟩ := Option.map_eq_some_iff.mp (show (asI m).map _ = _ from h)
      subst e2
      have em := asI_of e1
      subst em
      obtain ⟨a, ys, rfl, hx, r1⟩ := hd.sqL (K := K) e
      rw [r1.ints] at hx
      exact .inl ⟨a, ns, rfl, hx, k _ H G (stp0 e) (.int _)⟩
    | tup m =>
      obtain ⟨ns, e1, e2⟩ := Option.map_eq_some_iff.mp (show (asI m).map _ = _ from h)
      subst e2
      have em := asI_of e1
      subst em
      obtain ⟨a, ys, rfl, hx, r1⟩ := hd.sqT (K := K) e
      rw [r1.ints] at hx
      exact .inr ⟨a, ns, rfl, hx, k _ H G (stp0 e) (.int _)⟩
    | tp m =>
      obtain ⟨ns, e1, e2⟩ := Option.map_eq_some_iff.mp (show (asI m).map _ = _ from h)
      subst e2
      have em := asI_of e1
      subst em
      obtain ⟨a, ys, rfl, hx, r1⟩ := hd.sqTp (K := K) e
      rw [r1.ints] at hx
      exact .inr ⟨a, ns, rfl, hx, k _ H G (stp0 e) (.int _)⟩
    | _ => cases h
theorem max_uniq {ns : List Int} {m m' : Int} (h : m ∈ ns) (h1 : ∀ y ∈ ns, y ≤ m) (h' : m' ∈ ns) (h1' : ∀ y ∈ ns, y ≤ m') : m = m' := Int.le_antisymm (h1' m h) (h1 m' h')
theorem min_uniq {ns : List Int} {m m' : Int} (h : m ∈ ns) (h1 : ∀ y ∈ ns, m ≤ y) (h' : m' ∈ ns) (h1' : ∀ y ∈ ns, m' ≤ y) : m = m' := Int.le_antisymm (h1 m' h') (h1' m h)
theorem l_maxL : LiftN T (rMax K) (d1 dMaxL) := by
  intro H G ds xs dz e r h Q k
  obtain ⟨d, rfl, h⟩ := d1_inv h
  obtain ⟨v, rfl, hd⟩ := r.one
  · cases d with
    | lst m =>
      obtain ⟨ns, e1, e2⟩ := Option.bind_eq_some_iff.mp (show (asI m).bind _ = _ from h)
      split at e2
      · cases e2
      · rename_i hn
        cases e2
        have em := asI_of e1
        subst em
        obtain ⟨a, ys, rfl, hx, r1⟩ := hd.sqL (K := K) e
        rw [r1.ints] at hx
        have hp : 0 < ns.length := by omega
        refine ⟨a, ns, rfl, hx, hp, fun m h1 h2 => ?_⟩
        rw [max_uniq h1 h2 (maxI_spec hp).1 (maxI_spec hp).2]
        exact k _ H G (stp0 e) (.int _)
    | _ => cases h
theorem l_minL : LiftN T (rMin K) (d1 dMinL) := by
  intro H G ds xs dz e r h Q k
  obtain ⟨d, rfl, h⟩ := d1_inv h
  obtain ⟨v, rfl, hd⟩ := r.one
  · cases d with
    | lst m =>
      obtain ⟨ns, e1, e2⟩ := Option.bind_eq_some_iff.mp (show (asI m).bind _ = _ from h)
      split at e2
      · cases e2
      · rename_i hn
        cases e2
        have em := asI_of e1
        subst em
        obtain ⟨a, ys, rfl, hx, r1⟩ := hd.sqL (K := K) e
        rw [r1.ints] at hx
        have hp : 0 < ns.length := by omega
        refine ⟨a, ns, rfl, hx, hp, fun m h1 h2 => ?_⟩
        rw [min_uniq h1 h2 (minI_spec hp).1 (minI_spec hp).2]
        exact k _ H G (stp0 e) (.int _)
    | _ => cases h
theorem l_tuple : LiftN T (fun xs H Q => ∃ p ys, xs = [V.ref p] ∧ ((SqL K H p ys ∧ ∀ l, H l = none → Q (.ref l) (upd H l (.tup ys))) ∨ (SqT K H p ys ∧ Q (.ref p) H))) (d1 dTupOf) := by
  intro H G ds xs dz e r h Q k
  obtain ⟨d, rfl, h⟩ := d1_inv h
  obtain ⟨v, rfl, hd⟩ := r.one
  · cases d with
    | lst m => cases h; obtain ⟨a, ys, rfl, hx, r1⟩ := hd.sqL (K := K) e; exact ⟨a, ys, rfl, .inl ⟨hx, fun l hl => k _ _ _ (Stp.new e hl) (.tup upd_same (r1.mono (Ex.new (e.free hl))))⟩⟩
    | tup m => cases h; obtain ⟨a, ys, e1, hx, r1⟩ := hd.sqT (K := K) e; subst e1; exact ⟨a, ys, rfl, .inr ⟨hx, k _ H G (stp0 e) hd⟩⟩
    | tp m => cases h; obtain ⟨a, ys, e1, hx, r1⟩ := hd.sqTp (K := K) e; subst e1; exact ⟨a, ys, rfl, .inr ⟨hx, k _ H G (stp0 e) hd⟩⟩
    | _ => cases h
theorem l_list : LiftNO T (fun xs H Q => ∃ p ys, xs = [V.ref p] ∧ (SqL K H p ys ∨ SqT K H p ys) ∧ ∀ l, H l = none → Q (.ref l) (upd H l (.lst ys))) (d1 dItems) := by
  intro H G ds xs l e r h Q k
  obtain ⟨d, rfl, h⟩ := d1_inv h
  obtain ⟨v, rfl, hd⟩ := r.one
  · cases d with
    | lst m => cases h; obtain ⟨a, ys, rfl, hx, r1⟩ := hd.sqL (K := K) e; exact ⟨a, ys, rfl, .inl hx, fun p hp => k p ys hp r1⟩
    | tup m => cases h; obtain ⟨a, ys, rfl, hx, r1⟩ := hd.sqT (K := K) e; exact ⟨a, ys, rfl, .inr hx, fun p hp => k p ys hp r1⟩
    | tp m => cases h; obtain ⟨a, ys, rfl, hx, r1⟩ := hd.sqTp (K := K) e; exact ⟨a, ys, rfl, .inr hx, fun p hp => k p ys hp r1⟩
    | _ => cases h
end
section
variable {X : Cx}
theorem cr_sumT (hc : X.calm = true) : CallR X (.builtin "sum") (rSumT X.K) := by
  intro pins s σ H vs us Q I r h
  obtain ⟨a, ns, rfl, hs, q⟩ := h
  obtain ⟨its, rv, hl, _⟩ := I.tuple hs
  rw [Vals.ref1 r]
  have hi := rv.ints
  obtain ⟨xs, hx⟩ := hi.allInts.items
  have hn : numsOf its.toArray.toList = ns := by rw [show its.toArray.toList = its from rfl, hi.numsOf]
  have hl' : s.heap.IsTuple a its.toArray := hl
  rw [hx] at hl' hn
  rw [nums_intItems] at hn
  refine PySem.W.ktm_sumG (I.ok.hd hc) hl' fun h' tk t' hk => ?_
  have e : preSum (numAt xs) xs.size = ns.sum := by rw [preSum_eq, List.take_of_length_le (by simp), hn]
  rw [e]
  exact ⟨.int _, H, I.kept hk, ⟨_, rfl⟩, q⟩
end

/-! ### calls of built-ins, by name -/
section
variable {X : Cx} {T : Tab} {pu pa pb : Bool} {a b : Expr} {es : List Expr} {fa fb : FE} {fs : FA} {p pos : Pos}
/-- a built-in's rule for data -/
structure Bl (X : Cx) (T : Tab) (f : Value) (g : List D → Option D) : Prop where
  ex : ∃ r, CallR X f r ∧ LiftN T r g
structure BlO (X : Cx) (T : Tab) (f : Value) (g : List D → Option (List D)) : Prop where
  ex : ∃ r, CallR X f r ∧ LiftNO T r g
theorem b_len : Bl X T (.builtin "len") (d1 dLen) := ⟨_, call_len_seq, l_len⟩
theorem b_abs : Bl X T (.builtin "abs") (d1 dAbs) := ⟨_, call_abs, l_abs⟩
theorem b_sum (hc : X.calm = true := by rfl) : Bl X T (.builtin "sum") (d1 dSum) := ⟨_, (cr_sum hc).or (cr_sumT hc), l_sum⟩
theorem b_max2 (hc : X.calm = true := by rfl) : Bl X T (.builtin "max") (d2 dMax2) := ⟨_, call_max2 hc, l_max2⟩
theorem b_min2 (hc : X.calm = true := by rfl) : Bl X T (.builtin "min") (d2 dMin2) := ⟨_, call_min2 hc, l_min2⟩
theorem b_maxL (hc : X.calm = true := by rfl) : Bl X T (.builtin "max") (d1 dMaxL) := ⟨_, cr_max hc, l_maxL⟩
theorem b_minL (hc : X.calm = true := by rfl) : Bl X T (.builtin "min") (d1 dMinL) := ⟨_, cr_min hc, l_minL⟩
theorem b_divmod : Bl X T (.builtin "divmod") (d2 dDivmod) := ⟨_, call_divmod, l_divmod⟩
theorem b_int : Bl X T (.type "int") (d1 dIntOf) := ⟨_, call_int1, l_int1⟩
theorem b_tuple : Bl X T (.type "tuple") (d1 dTupOf) := ⟨_, call_tuple_of, l_tuple⟩
theorem b_list : BlO X T (.type "list") (d1 dItems) := ⟨_, call_list_of, l_list⟩
theorem b_sorted {k : Nat} (hr : Room k X.A) : BlO X T (.builtin "sorted") (d1 dSort) := ⟨_, cr_sortX hr.units, l_sort⟩
theorem pef_bf {x : Str} {id : String} {g : List D → Option D} (h : Bl X T (.builtin id) g) (hm : X.mg x = none) (ha : PAf X T pa (a :: es) fs) (hg : Gl X x := by rfl) (hv : bootBuiltins x = some (.builtin id) := by decide +kernel) (hn : x ≠ "__name__" := by decide) (hdb : (x == ("__debug__" : Str)) = false := by decide)
    (he : starEach (a :: es) X.env = (false, eval a X.env) :: starEach es X.env := by rfl) (hpl : (backTo pos (starEach es X.env)).any (·.1) = false := by rfl) : PEf X T pa (.Call (.Name x p) (a :: es) [] pos) (fArgs g fs) :=
  let ⟨_, hc, l⟩ := h.ex
  pef_args (pe_callB hc hg hm hv ha.pa hn hdb he hpl) l ha.same
theorem pef_bt {x : Str} {id : String} {g : List D → Option D} (h : Bl X T (.type id) g) (hm : X.mg x = none) (ha : PAf X T pa (a :: es) fs) (hg : Gl X x := by rfl) (hv : bootBuiltins x = some (.type id) := by decide +kernel) (hn : x ≠ "__name__" := by decide) (hdb : (x == ("__debug__" : Str)) = false := by decide)
    (he : starEach (a :: es) X.env = (false, eval a X.env) :: starEach es X.env := by rfl) (hpl : (backTo pos (starEach es X.env)).any (·.1) = false := by rfl) : PEf X T pa (.Call (.Name x p) (a :: es) [] pos) (fArgs g fs) :=
  let ⟨_, hc, l⟩ := h.ex
  pef_args (pe_callTy hc hg hm hv ha.pa hn hdb he hpl) l ha.same
theorem peo_bf {x : Str} {id : String} {g : List D → Option (List D)} (h : BlO X T (.builtin id) g) (hm : X.mg x = none) (ha : PAf X T pa (a :: es) fs) (hg : Gl X x := by rfl) (hv : bootBuiltins x = some (.builtin id) := by decide +kernel) (hn : x ≠ "__name__" := by decide) (hdb : (x == ("__debug__" : Str)) = false := by decide)
    (he : starEach (a :: es) X.env = (false, eval a X.env) :: starEach es X.env := by rfl) (hpl : (backTo pos (starEach es X.env)).any (·.1) = false := by rfl) : PEo X T pa (.Call (.Name x p) (a :: es) [] pos) (fLst (fArgs g fs)) :=
  let ⟨_, hc, l⟩ := h.ex
  peo_args (pe_callB hc hg hm hv ha.pa hn hdb he hpl) l ha.same
theorem peo_bt {x : Str} {id : String} {g : List D → Option (List D)} (h : BlO X T (.type id) g) (hm : X.mg x = none) (ha : PAf X T pa (a :: es) fs) (hg : Gl X x := by rfl) (hv : bootBuiltins x = some (.type id) := by decide +kernel) (hn : x ≠ "__name__" := by decide) (hdb : (x == ("__debug__" : Str)) = false := by decide)
    (he : starEach (a :: es) X.env = (false, eval a X.env) :: starEach es X.env := by rfl) (hpl : (backTo pos (starEach es X.env)).any (·.1) = false := by rfl) : PEo X T pa (.Call (.Name x p) (a :: es) [] pos) (fLst (fArgs g fs)) :=
  let ⟨_, hc, l⟩ := h.ex
  peo_args (pe_callTy hc hg hm hv ha.pa hn hdb he hpl) l ha.same
end

/-! ### isinstance -/
@[simp] def D.ty : D → String
  | .non => "NoneType"
  | .bl _ => "bool"
  | .int _ => "int"
  | .str _ => "str"
  | .tup _ => "tuple"
  | .tp _ => "tuple"
  | .lst _ => "list"
  | .obj _ _ => ""
  | .fn _ => ""
/-- a built-in type among those that are asked for -/
def isB (t n : String) : Bool := t == n || (t == "bool" && n == "int")
def okN (n : String) : Bool := n == "int" || n == "bool" || n == "tuple" || n == "list" || n == "str" || n == "dict"
@[simp] def dIsi (n : String) : D → Option D
  | .obj _ _ => none
  | .fn _ => none
  | d => if okN n then some (.bl (isB d.ty n)) else none
theorem kit_isB {t n : String} (hn : okN n = true) (ht : t = "NoneType" ∨ t = "bool" ∨ t = "int" ∨ t = "str" ∨ t = "tuple" ∨ t = "list") : kitB t n = some (isB t n) := by
  have hn' : n = "int" ∨ n = "bool" ∨ n = "tuple" ∨ n = "list" ∨ n = "str" ∨ n = "dict" := by
    unfold okN at hn
    simp only [Bool.or_eq_true, beq_iff_eq] at hn
    rcases hn with ((((h | h) | h) | h) | h) | h <;> simp [h]
  rcases ht with rfl | rfl | rfl | rfl | rfl | rfl <;> rcases hn' with rfl | rfl | rfl | rfl | rfl | rfl <;> decide +kernel
theorem ty_of {T : Tab} {K : PySem.W.Frag} {G H : Hp} {d : D} {v : V} (e : Ex G H) (r : Rep T G d v) (h : ∀ c l, d ≠ .obj c l) (h2 : ∀ c, d ≠ .fn c) : TyX K H v (.type d.ty) ∧ (d.ty = "NoneType" ∨ d.ty = "bool" ∨ d.ty = "int" ∨ d.ty = "str" ∨ d.ty = "tuple" ∨ d.ty = "list") := by
  cases r with
  | non => exact ⟨.base .non, by simp [D.ty]⟩
  | bl b => exact ⟨.base (.bl b), by simp [D.ty]⟩
  | int i => exact ⟨.base (.int i), by simp [D.ty]⟩
  | str x => exact ⟨.base (.str x), by simp [D.ty]⟩
  | tup q _ => exact ⟨.base (.tup (e _ _ q)), by simp [D.ty]⟩
  | tp q _ _ => exact ⟨.fTuple (e _ _ q), by simp [D.ty]⟩
  | lst q _ =>
    refine ⟨?_, by simp [D.ty]⟩
    exact .base (.lst (e _ _ q))
  | obj _ _ _ _ => exact absurd rfl (h _ _)
  | fn _ => exact absurd rfl (h2 _)
section
variable {X : Cx} {T : Tab} {pa : Bool} {a b c : Expr} {fa : FE} {p pos : Pos} {n m : String}
theorem pef_isi (hm : X.mg "isinstance" = none) (ha : PEf X T pa a fa) (hb : PE X b (tC (.ty n))) (hg : Gl X "isinstance" := by rfl) (he : starEach [a, b] X.env = (false, eval a X.env) :: starEach [b] X.env := by rfl) (he2 : starEach [b] X.env = (false, eval b X.env) :: starEach [] X.env := by rfl)
    (hpl : (backTo pos (starEach [b] X.env)).any (·.1) = false := by rfl) : PEf X T pa (.Call (.Name "isinstance" p) [a, b] [] pos) (fUn (dIsi n) fa) where
  pe := (pe_callB (call_isi (X := X)) hg hm (by decide +kernel) (pa_cons ha.pe (pa_cons hb pa_nil he2) he) (by decide) (by decide) he hpl).imp fun σ H Q ⟨C, ρ, G, d, ρ', S, hh, k⟩ => by
    obtain ⟨⟨dx, ρ1⟩, e1, hh⟩ := Option.bind_eq_some_iff.mp hh
    obtain ⟨z', e3, hh⟩ := Option.map_eq_some_iff.mp hh
    cases hh
    refine ⟨C, ρ, G, dx, ρ1, S, e1, fun x H1 G1 n1 r1 => ?_⟩
    have no : ∀ c l, dx ≠ .obj c l := fun c l z => by subst z; cases e3
    have no2 : ∀ c, dx ≠ .fn c := fun c z => by subst z; cases e3
    have e3' : (if okN n then some (D.bl (isB dx.ty n)) else none) = some d := by
      cases dx with
      | obj c l => exact absurd rfl (no c l)
      | fn c => exact absurd rfl (no2 c)
      | _ => exact e3
    split at e3'
    · rename_i hn
      cases e3'
      obtain ⟨ty, ht⟩ := ty_of (K := X.K) n1.st.gh r1 no no2
      exact ⟨x, .ty n, _, _, _, rfl, .ty n, ty, kit_ty (kit_isB hn ht), k _ H1 G1 n1 (.bl _)⟩
    · cases e3'
  same := fun hp ρ z ρ' hh => by
    obtain ⟨⟨dx, ρ1⟩, e1, hh⟩ := Option.bind_eq_some_iff.mp hh
    obtain ⟨z', e3, hh⟩ := Option.map_eq_some_iff.mp hh
    cases hh
    exact ha.same hp _ _ _ e1
@[simp] def dIsi2 (n m : String) : D → Option D
  | .obj _ _ => none
  | .fn _ => none
  | d => if okN n && okN m then some (.bl (isB d.ty n || isB d.ty m)) else none
/-- isinstance(x, (n, m)) -/
theorem pef_isi2 {k : Nat} {tp : Pos} (hm : X.mg "isinstance" = none) (ha : PEf X T pa a fa) (hb : PE X b (tC (.ty n))) (hc : PE X c (tC (.ty m))) (hg : Gl X "isinstance" := by rfl) (he : starEach [a, .Tuple [b, c] k tp] X.env = (false, eval a X.env) :: starEach [.Tuple [b, c] k tp] X.env := by rfl)
    (he2 : starEach [.Tuple [b, c] k tp] X.env = (false, eval (.Tuple [b, c] k tp) X.env) :: starEach [] X.env := by rfl) (he3 : starEach [b, c] X.env = (false, eval b X.env) :: starEach [c] X.env := by rfl) (he4 : starEach [c] X.env = (false, eval c X.env) :: starEach [] X.env := by rfl)
    (hpl : (backTo pos (starEach [.Tuple [b, c] k tp] X.env)).any (·.1) = false := by rfl) : PEf X T pa (.Call (.Name "isinstance" p) [a, .Tuple [b, c] k tp] [] pos) (fUn (dIsi2 n m) fa) where
  pe := (pe_callB (call_isiT (X := X)) hg hm (by decide +kernel) (pa_cons ha.pe (pa_cons (pe_tup (pa_cons hb (pa_cons hc pa_nil he4) he3)) pa_nil he2) he) (by decide) (by decide) he hpl).imp fun σ H Q ⟨C, ρ, G, d, ρ', S, hh, kk⟩ => by
    obtain ⟨⟨dx, ρ1⟩, e1, hh⟩ := Option.bind_eq_some_iff.mp hh
    obtain ⟨z', e3, hh⟩ := Option.map_eq_some_iff.mp hh
    cases hh
    refine ⟨C, ρ, G, dx, ρ1, S, e1, fun x H1 G1 n1 r1 => ?_⟩
    have no : ∀ c l, dx ≠ .obj c l := fun c l z => by subst z; cases e3
    have no2 : ∀ c, dx ≠ .fn c := fun c z => by subst z; cases e3
    have e3' : (if okN n && okN m then some (D.bl (isB dx.ty n || isB dx.ty m)) else none) = some d := by
      cases dx with
      | obj c l => exact absurd rfl (no c l)
      | fn c => exact absurd rfl (no2 c)
      | _ => exact e3
    split at e3'
    · rename_i hn
      rw [Bool.and_eq_true] at hn
      cases e3'
      refine ⟨by show 2 ≤ sizeLine; decide, fun t ht => ?_⟩
      have st := Stp.new (o := .tup [.ty n, .ty m]) n1.st.gh ht
      obtain ⟨ty, hty⟩ := ty_of (K := X.K) st.gh (r1.mono st.gg) no no2
      refine ⟨x, t, [.ty n, .ty m], .type dx.ty, [.type n, .type m], _, rfl, upd_same, .cons (.ty n) (.cons (.ty m) .nil), ty, ?_, kk _ _ _ (n1.stp st) (.bl _)⟩
      have h1 := kit_ty (K := X.K) (kit_isB hn.1 hty)
      have h2 := kit_ty (K := X.K) (kit_isB hn.2 hty)
      refine kitAny_cons h1 (fun hf => kitAny_cons h2 (fun hf2 => ?_) fun ht2 => ?_) fun ht1 => ?_
      · rw [hf, hf2]; exact kitAny_nil
      · rw [ht2]; simp
      · rw [ht1]; rfl
    · cases e3'
  same := fun hp ρ z ρ' hh => by
    obtain ⟨⟨dx, ρ1⟩, e1, hh⟩ := Option.bind_eq_some_iff.mp hh
    obtain ⟨z', e3, hh⟩ := Option.map_eq_some_iff.mp hh
    cases hh
    exact ha.same hp _ _ _ e1
/-- a built-in type's name -/
theorem pe_tyN {x : Str} (hm : X.mg x = none) (hg : Gl X x := by rfl) (hv : bootBuiltins x = some (.type n) := by decide +kernel) (hn : x ≠ "__name__" := by decide) (hd : (x == ("__debug__" : Str)) = false := by decide) : PE X (.Name x pos) (tC (.ty n)) := pe_bltn hg hm hv rfl hn hd
end
end Fl
end

section
set_option Elab.async false
set_option linter.all false
set_option autoImplicit false
set_option maxRecDepth 100000
set_option maxHeartbeats 2000000
namespace Fl
open PySem PySem.Spec PyProof.Rows L2

/-! ### statements -/
inductive Out where
  | nx (ρ : Fenv)
  | rt (s : Slot) (ρ : Fenv)
  | bk (ρ : Fenv)
  | ct (ρ : Fenv)
abbrev FS := Fenv → Option Out
/-- what is wanted at an end -/
def Fin (T : Tab) (C : C0) (D : Ends) (G : Hp) : Out → Prop
  | .nx ρ => ∀ σ' H' G', Sta T C ρ σ' H' G' → Ex G G' → D.nx σ' H'
  | .bk ρ => ∀ σ' H' G', Sta T C ρ σ' H' G' → Ex G G' → D.bk σ' H'
  | .ct ρ => ∀ σ' H' G', Sta T C ρ σ' H' G' → Ex G G' → D.ct σ' H'
  | .rt (.sh d) ρ => ∀ v σ' H' G', Sta T C ρ σ' H' G' → Ex G G' → Rep T G' d v → D.rt v H'
  | .rt (.own _ o) ρ => ∀ v σ' H' G', Sta T C (ρ ++ [some (.own true o)]) (σ' ++ [some v]) H' G' → Ex G G' → D.rt v H'
def tS (T : Tab) (f : FS) : TS := fun D σ H => ∃ C ρ G out, Sta T C ρ σ H G ∧ f ρ = some out ∧ Fin T C D G out
theorem Fin.mono {T : Tab} {C : C0} {D : Ends} {G G' : Hp} {out : Out} (h : Fin T C D G out) (e : Ex G G') : Fin T C D G' out := by
  cases out with
  | nx ρ => exact fun σ' H' G2 S q => h σ' H' G2 S (e.trans q)
  | bk ρ => exact fun σ' H' G2 S q => h σ' H' G2 S (e.trans q)
  | ct ρ => exact fun σ' H' G2 S q => h σ' H' G2 S (e.trans q)
  | rt s ρ =>
    cases s with
    | sh d => exact fun v σ' H' G2 S q => h v σ' H' G2 S (e.trans q)
    | own g o => exact fun v σ' H' G2 S q => h v σ' H' G2 S (e.trans q)
structure PSf (X : Cx) (T : Tab) (st : Stmt) (f : FS) : Prop where
  ps : PS X st (tS T f)
structure PSsf (X : Cx) (T : Tab) (st : List Stmt) (f : FS) : Prop where
  ps : PSs X st (tS T f)

@[simp] def fSkip : FS := fun ρ => some (.nx ρ)
@[simp] def fSeq (f g : FS) : FS := fun ρ => (f ρ).bind fun o => match o with
  | .nx ρ' => g ρ'
  | o => some o
@[simp] def fStuck : FS := fun _ => none
@[simp] def fDrop {α : Type} (f : Fenv → Option (α × Fenv)) : FS := fun ρ => (f ρ).bind fun x => some (.nx x.2)
@[simp] def fSet (i : Nat) (f : FE) : FS := fun ρ => (f ρ).bind fun x => some (.nx (x.2.set i (some (.sh x.1))))
@[simp] def fSetO (i : Nat) (f : FO) : FS := fun ρ => (f ρ).bind fun x => some (.nx (x.2.set i (some (.own true x.1))))
@[simp] def fRet (f : FE) : FS := fun ρ => (f ρ).bind fun x => some (.rt (.sh x.1) x.2)
@[simp] def fRetO (f : FO) : FS := fun ρ => (f ρ).bind fun x => some (.rt (.own true x.1) x.2)
@[simp] def fRetN : FS := fun ρ => some (.rt (.sh .non) ρ)
@[simp] def fBrk : FS := fun ρ => some (.bk ρ)
@[simp] def fCnt : FS := fun ρ => some (.ct ρ)
@[simp] def fIfS (t : FT) (a b : FS) : FS := fun ρ => (t ρ).bind fun x => if x.1 then a x.2 else b x.2
/-- slot i is frozen for good -/
@[simp] def fFreeze (i : Nat) (f : FS) : FS := fun ρ => match ρ[i]? with
  | some (some (.own true o)) => if o.frz then f (ρ.set i (some (.sh o.toD))) else none
  | _ => none

section
variable {X : Cx} {T : Tab} {pu pa pb : Bool} {e a b c : Expr} {st : Stmt} {rest sa sb : List Stmt} {f fa fb fc : FE} {fo : FO} {ft : FT} {g h : FS} {pos pos' : Pos}
theorem pssf_nil : PSsf X T [] fSkip := ⟨pss_nil.imp fun D σ H ⟨C, ρ, G, out, S, h, k⟩ => by cases h; exact k σ H G S (Ex.refl G)⟩
theorem Fin.seq {C : C0} {D : Ends} {G : Hp} {ρ : Fenv} {o out : Out} {u : FS} (h : (match o with | .nx ρ' => u ρ' | o => some o) = some out) (k : Fin T C D G out) : Fin T C { D with nx := tS T u D } G o := by
  cases o with
  | nx ρ' => exact fun σ' H' G' S e => ⟨C, ρ', G', out, S, h, k.mono e⟩
  | bk ρ' => cases h; exact k
  | ct ρ' => cases h; exact k
  | rt s ρ' => cases h; cases s <;> exact k
theorem pssf_cons (h1 : PSf X T st g) (h2 : PSsf X T rest h) : PSsf X T (st :: rest) (fSeq g h) := ⟨(pss_cons h1.ps h2.ps).imp fun D σ H ⟨C, ρ, G, out, S, hh, k⟩ => by
  obtain ⟨o, e1, hh⟩ := Option.bind_eq_some_iff.mp hh
  exact ⟨C, ρ, G, o, S, e1, Fin.seq (ρ := ρ) hh k⟩⟩
theorem pssf_one (h1 : PSf X T st g) : PSsf X T [st] g := ⟨pss_one h1.ps⟩
theorem psf_never : PSf X T st fStuck := ⟨ps_never.imp fun D σ H ⟨C, ρ, G, out, S, hh, k⟩ => nomatch hh⟩
theorem pssf_never : PSsf X T rest fStuck := ⟨pss_never.imp fun D σ H ⟨C, ρ, G, out, S, hh, k⟩ => nomatch hh⟩
theorem psf_pass : PSf X T (.Pass pos) fSkip := ⟨ps_pass.imp fun D σ H ⟨C, ρ, G, out, S, h, k⟩ => by cases h; exact k σ H G S (Ex.refl G)⟩
theorem psf_brk : PSf X T (.Break pos) fBrk := ⟨ps_break.imp fun D σ H ⟨C, ρ, G, out, S, h, k⟩ => by cases h; exact k σ H G S (Ex.refl G)⟩
theorem psf_cnt : PSf X T (.Continue pos) fCnt := ⟨ps_continue.imp fun D σ H ⟨C, ρ, G, out, S, h, k⟩ => by cases h; exact k σ H G S (Ex.refl G)⟩
theorem psf_expr (he : PEf X T pu e f) (hs : swapsWith e none pos.line X.env = pure false := by rfl) : PSf X T (.Expr e pos) (fDrop f) := ⟨(ps_expr he.pe hs).imp fun D σ H ⟨C, ρ, G, out, S, hh, k⟩ => by
  obtain ⟨⟨d, ρ1⟩, e1, hh⟩ := Option.bind_eq_some_iff.mp hh
  cases hh
  exact ⟨C, ρ, G, d, ρ1, S, e1, fun v H1 G1 n1 r1 => k σ H1 G1 n1.st n1.ex⟩⟩
theorem psf_set {i : Nat} {x : Str} (hN : X.N.Nodup) (he : PEf X T pu e f) (hi : X.N[i]? = some x := by rfl) (hx : Loc X.env.scope x := by first | exact Or.inl rfl | exact Or.inr rfl) (hs : swapsWith e (some (.Name x pos')) pos.line X.env = pure false := by rfl)
    (hf : X.fn x = true ∨ X.env.scope.names.lookup x = some .local := by first | exact .inl rfl | exact .inr rfl | assumption) : PSf X T (.Assign [.Name x pos'] e pos) (fSet i f) := ⟨(ps_set hN hi hx he.pe hs hf).imp fun D σ H ⟨C, ρ, G, out, S, hh, k⟩ => by
  obtain ⟨⟨d, ρ1⟩, e1, hh⟩ := Option.bind_eq_some_iff.mp hh
  cases hh
  exact ⟨C, ρ, G, d, ρ1, S, e1, fun v H1 G1 n1 r1 => k _ H1 G1 (n1.st.assignSh r1) n1.ex⟩⟩
theorem psf_setO {i : Nat} {x : Str} (hN : X.N.Nodup) (he : PEo X T pu e fo) (hi : X.N[i]? = some x := by rfl) (hx : Loc X.env.scope x := by first | exact Or.inl rfl | exact Or.inr rfl) (hs : swapsWith e (some (.Name x pos')) pos.line X.env = pure false := by rfl)
    (hf : X.fn x = true ∨ X.env.scope.names.lookup x = some .local := by first | exact .inl rfl | exact .inr rfl | assumption) : PSf X T (.Assign [.Name x pos'] e pos) (fSetO i fo) := ⟨(ps_set hN hi hx he.pe hs hf).imp fun D σ H ⟨C, ρ, G, out, S, hh, k⟩ => by
  obtain ⟨⟨d, ρ1⟩, e1, hh⟩ := Option.bind_eq_some_iff.mp hh
  cases hh
  exact ⟨C, ρ, G, d, ρ1, S, e1, fun v H1 G1 n1 => k _ H1 G1 n1.st.assignOwn n1.ex⟩⟩
theorem psf_ret (he : PEf X T pu e f) : PSf X T (.Return (some e) pos) (fRet f) := ⟨(ps_ret he.pe).imp fun D σ H ⟨C, ρ, G, out, S, hh, k⟩ => by
  obtain ⟨⟨d, ρ1⟩, e1, hh⟩ := Option.bind_eq_some_iff.mp hh
  cases hh
  exact ⟨C, ρ, G, d, ρ1, S, e1, fun v H1 G1 n1 r1 => k v σ H1 G1 n1.st n1.ex r1⟩⟩
theorem psf_retO (he : PEo X T pu e fo) : PSf X T (.Return (some e) pos) (fRetO fo) := ⟨(ps_ret he.pe).imp fun D σ H ⟨C, ρ, G, out, S, hh, k⟩ => by
  obtain ⟨⟨d, ρ1⟩, e1, hh⟩ := Option.bind_eq_some_iff.mp hh
  cases hh
  exact ⟨C, ρ, G, d, ρ1, S, e1, fun v H1 G1 n1 => k v σ H1 G1 n1.st n1.ex⟩⟩
theorem psf_retN : PSf X T (.Return none pos) fRetN := ⟨ps_retN.imp fun D σ H ⟨C, ρ, G, out, S, h, k⟩ => by cases h; exact k _ σ H G S (Ex.refl G) .non⟩
theorem psf_if (hc : PTf X T pu c ft) (ha : PSsf X T sa g) (hb : PSsf X T sb h) : PSf X T (.If c sa sb pos) (fIfS ft g h) := ⟨(ps_if hc.pt ha.ps hb.ps).imp fun D σ H ⟨C, ρ, G, out, S, hh, k⟩ => by
  obtain ⟨⟨d, ρ1⟩, e1, hh⟩ := Option.bind_eq_some_iff.mp hh
  refine ⟨C, ρ, G, d, ρ1, S, e1, fun H1 G1 n1 => ?_⟩
  cases d with
  | true => rw [if_pos rfl]; exact ⟨C, ρ1, G1, out, n1.st, hh, k.mono n1.ex⟩
  | false => rw [if_neg Bool.false_ne_true]; exact ⟨C, ρ1, G1, out, n1.st, hh, k.mono n1.ex⟩⟩
/-- ghost: freezing ahead of a block -/
theorem pssf_freeze (i : Nat) (hh : PSsf X T rest g) : PSsf X T rest (fFreeze i g) := ⟨hh.ps.imp fun D σ H ⟨C, ρ, G, out, S, hq, k⟩ => by
  unfold fFreeze at hq
  split at hq
  · rename_i o hi
    split at hq
    · rename_i hf
      obtain ⟨G', S', e'⟩ := S.freezeAt hi hf
      exact ⟨C, _, G', out, S', hq, k.mono e'⟩
    · cases hq
  · cases hq⟩
/-- moving an owned local out -/
@[simp] def fMove (i : Nat) : FO := fun ρ => match ρ[i]? with
  | some (some (.own true o)) => some (o, ρ.set i none)
  | _ => none
theorem Sta.moveOut {C : C0} {ρ : Fenv} {σ : L2.St} {H G : Hp} {i : Nat} {o : O} {v : V} (S : Sta T C ρ σ H G) (hi : ρ[i]? = some (some (.own true o))) (hv : σ[i]? = some (some v)) : Sta T C (ρ.set i none ++ [some (.own true o)]) (σ ++ [some v]) H G where
  gh := S.gh
  g0 := S.g0
  h0 := S.h0
  fr := S.fr
  io := S.io
  len := by simp [S.len]
  sh := fun j d h => by
    have hj : j < ρ.length := by
      rw [List.getElem?_append] at h
      split at h
      · rename_i q; simpa using q
      · rename_i q
        cases w : j - (ρ.set i none).length with
        | zero => rw [w] at h; simp at h
        | succ k => rw [w] at h; simp at h
    rw [List.getElem?_append_left (by simpa using hj)] at h
    by_cases q : i = j
    · subst q
      rw [List.getElem?_set_self hj] at h
      cases h
    · rw [List.getElem?_set_ne q] at h
      obtain ⟨w, e1, e2⟩ := S.sh j d h
      exact ⟨w, by rw [List.getElem?_append_left (by rw [S.len]; exact hj)]; exact e1, e2⟩
  own := by
    have hil : i < ρ.length := (List.getElem?_eq_some_iff.mp hi).1
    obtain ⟨ow, h⟩ := S.own
    refine ⟨fun b => if ow b = some i then some ρ.length else ow b, fun j g o' e => ?_⟩
    by_cases hj : j < ρ.length
    · rw [List.getElem?_append_left (by simpa using hj)] at e
      by_cases q : i = j
      · subst q
        rw [List.getElem?_set_self hj] at e
        cases e
      · rw [List.getElem?_set_ne q] at e
        obtain ⟨w, fp, e1, e2, e3⟩ := h j g o' e
        refine ⟨w, fp, by rw [List.getElem?_append_left (by rw [S.len]; exact hj)]; exact e1, e2, fun b hb => ⟨?_, (e3 b hb).2⟩⟩
        show (if ow b = some i then some ρ.length else ow b) = some j
        rw [(e3 b hb).1, if_neg fun z => q (Option.some.inj z).symm]
    · have ej : j = ρ.length := by
        rw [List.getElem?_append_right (by simpa using Nat.not_lt.mp hj)] at e
        cases w : j - (ρ.set i none).length with
        | zero => simp at w; omega
        | succ k => rw [w] at e; simp at e
      subst ej
      rw [List.getElem?_append_right (by simp), List.length_set, Nat.sub_self] at e
      simp at e
      obtain ⟨rfl, rfl⟩ := e
      obtain ⟨w, fp, e1, e2, e3⟩ := h i true o hi
      rw [hv] at e1
      cases e1
      refine ⟨v, fp, by rw [List.getElem?_append_right (by rw [S.len]; exact Nat.le_refl _), S.len]; simp, e2, fun b hb => ⟨if_pos (e3 b hb).1, (e3 b hb).2⟩⟩
theorem peo_move {i : Nat} {x : Str} (hN : X.N[i]? = some x := by rfl) (hv : Vis X.env.scope x := by first | exact Or.inl rfl | exact Or.inr (Or.inl rfl) | exact Or.inr (Or.inr rfl)) (hd : (x == ("__debug__" : Str)) = false := by decide) (hcd : (x == ("__classdict__" : Str)) = false := by decide) :
    PEo X T false (.Name x pos) (fMove i) where
  pe := (pe_var hN hv hd hcd).imp fun σ H Q ⟨C, ρ, G, d, ρ', S, h, k⟩ => by
    unfold fMove at h
    split at h
    · rename_i o hi
      cases h
      obtain ⟨ow, hh⟩ := S.own
      obtain ⟨v, fp, e1, _, _⟩ := hh i true d hi
      exact ⟨v, e1, k v H G ⟨S.moveOut hi e1, Ex.refl G, fun z => nomatch z⟩⟩
    · cases h
  same := fun h => nomatch h

/-! ### while, by so many turns at most -/
def fWhile (c : FT) (b : FS) : Nat → FS
  | 0 => fun _ => none
  | n + 1 => fun ρ => (c ρ).bind fun x => if x.1 then (b x.2).bind fun o => match o with
    | .nx ρ' => fWhile c b n ρ'
    | .ct ρ' => fWhile c b n ρ'
    | .bk ρ' => some (.nx ρ')
    | .rt s ρ' => some (.rt s ρ') else some (.nx x.2)
theorem psf_while (n : Nat) (hp : PassesOwn (model X.prog X.w) X.A X.env X.xe) (hc : PTf X T pu c ft) (hb : PSsf X T sa g) : PSf X T (.While c sa [] pos) (fWhile ft g n) := ⟨(ps_while hp hc.pt hb.ps).imp fun D σ H ⟨C, ρ, G, out, S, hh, k⟩ => by
  refine ⟨fun m σ' H' => ∃ ρ' G', Sta T C ρ' σ' H' G' ∧ Ex G G' ∧ fWhile ft g m ρ' = some out, ⟨n, ρ, G, S, Ex.refl G, hh⟩, fun m σ1 H1 ⟨ρ1, G1, S1, x1, h1⟩ => ?_⟩
  cases m with
  | zero => cases h1
  | succ m =>
    obtain ⟨⟨d, ρ2⟩, e1, h1⟩ := Option.bind_eq_some_iff.mp h1
    refine ⟨C, ρ1, G1, d, ρ2, S1, e1, fun H2 G2 n2 => ?_⟩
    cases d with
    | false =>
      cases h1
      rw [if_neg Bool.false_ne_true]
      exact k σ1 H2 G2 n2.st (x1.trans n2.ex)
    | true =>
      rw [if_pos rfl]
      obtain ⟨o, e2, h1⟩ := Option.bind_eq_some_iff.mp h1
      refine ⟨fun σ' H' => ∃ ρ' G', Sta T C ρ' σ' H' G' ∧ Ex G G' ∧ fWhile ft g m ρ' = some out, fun σ' H' q => ⟨m, Nat.lt_succ_self _, q⟩, C, ρ2, G2, o, n2.st, e2, ?_⟩
      have x2 := x1.trans n2.ex
      cases o with
      | nx ρ' => exact fun σ' H' G' S' e' => ⟨ρ', G', S', x2.trans e', h1⟩
      | ct ρ' => exact fun σ' H' G' S' e' => ⟨ρ', G', S', x2.trans e', h1⟩
      | bk ρ' => cases h1; exact fun σ' H' G' S' e' => k σ' H' G' S' (x2.trans e')
      | rt s ρ' => cases h1; cases s <;> exact k.mono x2⟩

/-! ### x op= e -/
@[simp] def fAug (i : Nat) (op : D → D → Option D) (f : FE) : FS := fun ρ => match ρ[i]? with
  | some (some (.sh d)) => (f ρ).bind fun x => (op d x.1).bind fun z => some (.nx (x.2.set i (some (.sh z))))
  | _ => none
/-- whole numbers in place -/
structure Ip (X : Cx) (T : Tab) (op : Operator) (g : D → D → Option D) : Prop where
  ex : ∃ r, PIp X op r ∧ Lift2 T r g
theorem ip_addI : Ip X T .Add (dI fun i j => i + j) := ⟨_, ip_add, by
  intro H G dx dy x y dz e rx ry h Q k
  cases rx with
  | int i =>
    cases ry with
    | int j => cases h; exact ⟨i, j, rfl, rfl, k _ H G (stp0 e) (.int _)⟩
    | _ => cases h
  | _ => cases h⟩
theorem ip_subI : Ip X T .Sub (dI fun i j => i - j) := ⟨_, ip_sub, by
  intro H G dx dy x y dz e rx ry h Q k
  cases rx with
  | int i =>
    cases ry with
    | int j => cases h; exact ⟨i, j, rfl, rfl, k _ H G (stp0 e) (.int _)⟩
    | _ => cases h
  | _ => cases h⟩
theorem psf_aug {i : Nat} {x : Str} {op : Operator} {gg : D → D → Option D} (hN : X.N.Nodup) (hop : Ip X T op gg) (he : PEf X T pu e f) (hi : X.N[i]? = some x := by rfl) (hx : Loc X.env.scope x := by first | exact Or.inl rfl | exact Or.inr rfl)
    (hf : X.fn x = true ∨ X.env.scope.names.lookup x = some .local := by first | exact .inl rfl | exact .inr rfl | assumption) : PSf X T (.AugAssign (.Name x pos') op e pos) (fAug i gg f) := by
  obtain ⟨r, ho, l⟩ := hop.ex
  refine ⟨(ps_aug hN hi hx he.pe ho hf).imp fun D σ H ⟨C, ρ, G, out, S, hh, k⟩ => ?_⟩
  unfold fAug at hh
  split at hh
  · rename_i d hi'
    obtain ⟨⟨dy, ρ1⟩, e1, hh⟩ := Option.bind_eq_some_iff.mp hh
    obtain ⟨z, e2, hh⟩ := Option.bind_eq_some_iff.mp hh
    cases hh
    obtain ⟨v, ev, rv⟩ := S.sh i d hi'
    exact ⟨v, ev, C, ρ, G, dy, ρ1, S, e1, fun y H1 G1 n1 r1 => l H1 G1 d dy v y z n1.st.gh (rv.mono n1.ex) r1 e2 _ fun w H2 G2 q2 r2 => k _ H2 G2 ((n1.st.stp q2).assignSh r2) (n1.ex.trans q2.gg)⟩
  · cases hh

/-! ### changing owned lists -/
def isOwnL : Option (Option Slot) → Bool
  | some (some (.own _ (.lst _))) => true
  | _ => false
@[simp] theorem isOwnL_lst {g : Bool} {l : List D} : isOwnL (some (some (.own g (.lst l)))) = true := rfl
@[simp] def fApp (i : Nat) (f : FE) : FS := fun ρ => if isOwnL ρ[i]? then (f ρ).bind fun x => match x.2[i]? with
  | some (some (.own g (.lst l))) => if l.length < many then some (.nx (x.2.set i (some (.own g (.lst (l ++ [x.1])))))) else none
  | _ => none
  else none
theorem isOwnL_inv {o : Option (Option Slot)} (h : isOwnL o = true) : ∃ g l, o = some (some (.own g (.lst l))) := by
  unfold isOwnL at h
  split at h
  · exact ⟨_, _, rfl⟩
  · cases h
theorem Sta.ownAt {C : C0} {ρ : Fenv} {σ : L2.St} {H G : Hp} {i : Nat} {g : Bool} {l : List D} (S : Sta T C ρ σ H G) (hi : ρ[i]? = some (some (.own g (.lst l)))) : ∃ p xs, σ[i]? = some (some (.ref p)) ∧ H p = some (.lst xs) ∧ Reps T G l xs ∧
    ∀ l' xs', Reps T G l' xs' → Sta T C (ρ.set i (some (.own g (.lst l')))) σ (upd H p (.lst xs')) G := by
  obtain ⟨ow, hh⟩ := S.own
  obtain ⟨v, fp, e1, ⟨p, xs, rfl, rfl, h1, h2⟩, e3⟩ := hh i g _ hi
  refine ⟨p, xs, e1, h1, h2, fun l' xs' r => S.updOwn hi (fun b u hb hu => ?_) (fun b u hb tb => ?_) e1 ⟨p, xs, rfl, rfl, h1, h2⟩ (fp' := [p]) ⟨p, xs', rfl, rfl, upd_same, r⟩ fun b hb => .inl hb⟩
  · rw [upd_ne (by simpa using hb)]; exact hu
  · by_cases z : b = p
    · subst z; exact ⟨_, upd_same, fun _ w => nomatch w⟩
    · exact ⟨u, by rw [upd_ne z]; exact hb, tb⟩
theorem psf_app {i : Nat} {x : Str} {apos cpos np : Pos} (he : PEf X T pu e f) (hN : X.N[i]? = some x := by rfl) (hv : Vis X.env.scope x := by first | exact Or.inl rfl | exact Or.inr (Or.inl rfl) | exact Or.inr (Or.inr rfl)) (hd : (x == ("__debug__" : Str)) = false := by decide) (hcd : (x == ("__classdict__" : Str)) = false := by decide)
    (hpl : ∀ {ta tb : TE}, PE X (.Name x np) ta → PE X e tb → PE X (.Call (.Attribute (.Name x np) "append" apos) [e] [] cpos) (tBM X.K "list" rAppend ta (tCons tb tNil)) := by
      exact fun h1 h2 => pe_bm PySem.F.plainAttrs_list PySem.F.slot_list_append PySem.F.type_list_append mt_append h1 (pa_cons h2 pa_nil))
    (hs : swapsWith (.Call (.Attribute (.Name x np) "append" apos) [e] [] cpos) none pos.line X.env = pure false := by rfl) : PSf X T (.Expr (.Call (.Attribute (.Name x np) "append" apos) [e] [] cpos) pos) (fApp i f) :=
  ⟨(ps_expr (hpl (pe_var hN hv hd hcd) he.pe) hs).imp fun D σ H ⟨C, ρ, G, out, S, hh, k⟩ => by
    unfold fApp at hh
    split at hh
    · rename_i hown
      obtain ⟨g0, l0, hi0⟩ := isOwnL_inv hown
      obtain ⟨p, xs0, e2, h0, _, _⟩ := S.ownAt hi0
      obtain ⟨⟨d, ρ1⟩, e1, hh⟩ := Option.bind_eq_some_iff.mp hh
      dsimp only at hh
      split at hh
      · rename_i g l hi
        split at hh
        · rename_i hl
          cases hh
          refine ⟨.ref p, e2, .inl ⟨rfl, xs0, SqL.of h0⟩, C, ρ, G, d, ρ1, S, e1, fun y H1 G1 n1 r1 => ?_⟩
          obtain ⟨p', xs, e3, h1, r2, fin⟩ := n1.st.ownAt hi
          rw [e2] at e3
          cases e3
          refine ⟨p, xs, y, rfl, rfl, h1, Nat.lt_of_lt_of_le (by rw [← r2.length]; exact hl) many_le, k _ _ G1 (fin _ _ (r2.append (.cons r1 .nil))) n1.ex⟩
        · cases hh
      · cases hh
    · cases hh⟩
end
end Fl
end

section
set_option Elab.async false
set_option linter.all false
set_option autoImplicit false
set_option maxRecDepth 100000
set_option maxHeartbeats 2000000
namespace Fl
open PySem PySem.Spec PyProof.Rows L2

/-! ### more changes of owned lists -/
section
variable {X : Cx} {T : Tab} {pu pa pb : Bool} {e a b c : Expr} {f fa fb fc : FE} {pos pos' : Pos}
/-- slot i's name, evaluated: its list's place -/
theorem own_var {C : C0} {ρ : Fenv} {σ : L2.St} {H G : Hp} {i : Nat} (S : Sta T C ρ σ H G) (h : isOwnL ρ[i]? = true) : ∃ p xs, σ[i]? = some (some (.ref p)) ∧ H p = some (.lst xs) := by
  obtain ⟨g0, l0, hi0⟩ := isOwnL_inv h
  obtain ⟨p, xs0, e2, h0, _, _⟩ := S.ownAt hi0
  exact ⟨p, xs0, e2, h0⟩
/-- x.insert(n, e) -/
@[simp] def fIns (i : Nat) (fn f : FE) : FS := fun ρ => if isOwnL ρ[i]? then (fn ρ).bind fun n => (f n.2).bind fun x => match x.2[i]?, n.1 with
  | some (some (.own g (.lst l))), .int j => if l.length < many ∧ 0 ≤ j ∧ j < 1000000000 then some (.nx (x.2.set i (some (.own g (.lst (l.take j.toNat ++ [x.1] ++ l.drop j.toNat)))))) else none
  | _, _ => none
  else none
theorem psf_ins {i : Nat} {x : Str} {apos cpos np : Pos} (hn : PEf X T pa a fa) (he : PEf X T pu e f) (hN : X.N[i]? = some x := by rfl) (hv : Vis X.env.scope x := by first | exact Or.inl rfl | exact Or.inr (Or.inl rfl) | exact Or.inr (Or.inr rfl)) (hd : (x == ("__debug__" : Str)) = false := by decide) (hcd : (x == ("__classdict__" : Str)) = false := by decide)
    (hpl : ∀ {to tn tb : TE} {r : V → List V → Hp → VK → Prop}, MtR X "list.insert" r → PE X (.Name x np) to → PE X a tn → PE X e tb → PE X (.Call (.Attribute (.Name x np) "insert" apos) [a, e] [] cpos) (tBM X.K "list" r to (tCons tn (tCons tb tNil))) := by
      exact fun hr h0 h1 h2 => pe_bm PySem.F.plainAttrs_list PySem.F.slot_list_insert PySem.F.type_list_insert hr h0 (pa_cons h1 (pa_cons h2 pa_nil)))
    (hs : swapsWith (.Call (.Attribute (.Name x np) "insert" apos) [a, e] [] cpos) none pos.line X.env = pure false := by rfl) : PSf X T (.Expr (.Call (.Attribute (.Name x np) "insert" apos) [a, e] [] cpos) pos) (fIns i fa f) :=
  ⟨(ps_expr (hpl mt_insert (pe_var hN hv hd hcd) hn.pe he.pe) hs).imp fun D σ H ⟨C, ρ, G, out, S, hh, k⟩ => by
    unfold fIns at hh
    split at hh
    · rename_i hown
      obtain ⟨p, xs0, e2, h0⟩ := own_var S hown
      obtain ⟨⟨dn, ρ0⟩, e0, hh⟩ := Option.bind_eq_some_iff.mp hh
      obtain ⟨⟨d, ρ1⟩, e1, hh⟩ := Option.bind_eq_some_iff.mp hh
      dsimp only at hh
      split at hh
      · rename_i g l j hi hj
        split at hh
        · rename_i hl
          cases hh
          refine ⟨.ref p, e2, .inl ⟨rfl, xs0, SqL.of h0⟩, C, ρ, G, _, ρ0, S, e0, fun z H0 G0 n0 r0 => ⟨C, ρ0, G0, d, ρ1, n0.st, e1, fun y H1 G1 n1 r1 => ?_⟩⟩
          cases r0
          obtain ⟨p', xs, e3, h1, r2, fin⟩ := n1.st.ownAt hi
          rw [e2] at e3
          cases e3
          refine ⟨p, xs, j, y, rfl, rfl, h1, Nat.lt_of_lt_of_le (by rw [← r2.length]; exact hl.1) many_le, hl.2.1, by omega, k _ _ G1 (fin _ _ (((r2.take _).append (.cons r1 .nil)).append (r2.drop _))) (n0.ex.trans n1.ex)⟩
        · cases hh
      · cases hh
    · cases hh⟩
/-- x[n] = e -/
@[simp] def fSetI (i : Nat) (fn f : FE) : FS := fun ρ => (f ρ).bind fun x => if isOwnL x.2[i]? then (fn x.2).bind fun n => match n.2[i]?, n.1 with
  | some (some (.own g (.lst l))), .int j => match ixN l.length j with
    | some k => some (.nx (n.2.set i (some (.own g (.lst (l.set k x.1))))))
    | none => none
  | _, _ => none
  else none
theorem psf_setI {i : Nat} {x : Str} {np sp : Pos} (hn : PEf X T pa a fa) (he : PEf X T pu e f) (hN : X.N[i]? = some x := by rfl) (hv : Vis X.env.scope x := by first | exact Or.inl rfl | exact Or.inr (Or.inl rfl) | exact Or.inr (Or.inr rfl)) (hd : (x == ("__debug__" : Str)) = false := by decide) (hcd : (x == ("__classdict__" : Str)) = false := by decide)
    (mk : ∀ {te to tn : TE}, PE X e te → PE X (.Name x np) to → PE X a tn → PS X (.Assign [.Subscript (.Name x np) a sp] e pos) (tAsg te (gSub to tn rSetL)) := by exact fun h0 h1 h2 => ps_asg h0 (pg_sub h1 h2 set_list)) :
    PSf X T (.Assign [.Subscript (.Name x np) a sp] e pos) (fSetI i fa f) := ⟨(mk he.pe (pe_var hN hv hd hcd) hn.pe).imp fun D σ H ⟨C, ρ, G, out, S, hh, k⟩ => by
  obtain ⟨⟨d, ρ1⟩, e1, hh⟩ := Option.bind_eq_some_iff.mp hh
  split at hh
  · rename_i hown
    obtain ⟨⟨dn, ρ2⟩, e2, hh⟩ := Option.bind_eq_some_iff.mp hh
    refine ⟨C, ρ, G, d, ρ1, S, e1, fun y H1 G1 n1 r1 => ?_⟩
    obtain ⟨p, xs0, e3, h0⟩ := own_var n1.st hown
    refine ⟨.ref p, e3, C, ρ1, G1, dn, ρ2, n1.st, e2, fun z H2 G2 n2 r2 => ?_⟩
    dsimp only at hh
    split at hh
    · rename_i _ g l j hi
      split at hh
      · rename_i kk hk
        cases hh
        cases r2
        obtain ⟨p', xs, e4, h1, r3, fin⟩ := n2.st.ownAt hi
        rw [e3] at e4
        cases e4
        exact ⟨p, xs, j, kk, rfl, rfl, h1, by rw [← r3.length]; exact hk, k _ _ G2 (fin _ _ (r3.set kk (r1.mono n2.ex))) (n1.ex.trans n2.ex)⟩
      · cases hh
    · cases hh
  · cases hh⟩
/-- a list's item, by values -/
theorem get_listR : PGet X (rIxL X.K) := by
  intro pins s σ H x y v u Q I rx ry h
  obtain ⟨p, xs, i, z, rfl, rfl, hq, he, q⟩ := h
  cases rx
  obtain ⟨t, rfl⟩ := ry
  obtain ⟨its, r, pl, hz⟩ := I.list hq
  obtain ⟨j, h1, h2, h3, h4, h5⟩ := atI_get he
  obtain ⟨w, ew, rw'⟩ := r.get h2
  have hl := r.length
  have hn := line63
  have fin : EP X pins σ Q w s := ⟨z, H, I, rw', q⟩
  by_cases h0 : 0 ≤ i
  · have hj : i.toNat = j := by
      rw [seqIndex_of h0 h5] at h1
      exact Option.some.inj h1
    exact wpAny_getItem_list pl.isList h0 (by omega) (by rw [hj]; simpa using ew) fin
  · have hj : (i + (its.toArray.size : Int)).toNat = j := by
      rw [seqIndex_neg (by omega) h4] at h1
      rw [List.size_toArray, ← hl]
      exact Option.some.inj h1
    exact wpAny_getItem_list_neg pl.isList (by omega) (by rw [List.size_toArray] <;> omega) (by omega) (by rw [hj]; simpa using ew) fin
end

section
variable {X : Cx} {T : Tab} {pu pa pb : Bool} {e a b c : Expr} {f fa fb fc : FE} {pos pos' : Pos}
/-- x[n] op= e -/
@[simp] def fAugI (i : Nat) (op : D → D → Option D) (fn f : FE) : FS := fun ρ => if isOwnL ρ[i]? then (fn ρ).bind fun n => match n.2[i]?, n.1 with
  | some (some (.own _ (.lst l))), .int j => (atI l j).bind fun old => (f n.2).bind fun x => (op old x.1).bind fun z => match x.2[i]? with
    | some (some (.own g (.lst l2))) => match ixN l2.length j with
      | some k => some (.nx (x.2.set i (some (.own g (.lst (l2.set k z))))))
      | none => none
    | _ => none
  | _, _ => none
  else none
theorem psf_augI {i : Nat} {x : Str} {op : Operator} {gg : D → D → Option D} {np sp : Pos} (hop : Ip X T op gg) (hn : PEf X T pa a fa) (he : PEf X T pu e f) (hN : X.N[i]? = some x := by rfl) (hv : Vis X.env.scope x := by first | exact Or.inl rfl | exact Or.inr (Or.inl rfl) | exact Or.inr (Or.inr rfl))
    (hd : (x == ("__debug__" : Str)) = false := by decide) (hcd : (x == ("__classdict__" : Str)) = false := by decide)
    (ha : ∀ ov iv new, augStore a ov iv new = (do holding [new, ov, iv] (setItem ov iv new); release [new, ov, iv] []; pure .next) := by intros; rfl) :
    PSf X T (.AugAssign (.Subscript (.Name x np) a sp) op e pos) (fAugI i gg fa f) := by
  obtain ⟨r, ho, l⟩ := hop.ex
  refine ⟨(ps_augS (pe_var hN hv hd hcd) hn.pe get_listR he.pe ho set_list ha).imp fun D σ H ⟨C, ρ, G, out, S, hh, k⟩ => ?_⟩
  unfold fAugI at hh
  split at hh
  · rename_i hown
    obtain ⟨p, xs0, e3, h0⟩ := own_var S hown
    obtain ⟨⟨dn, ρ1⟩, e1, hh⟩ := Option.bind_eq_some_iff.mp hh
    refine ⟨.ref p, e3, C, ρ, G, dn, ρ1, S, e1, fun y H1 G1 n1 r1 => ?_⟩
    dsimp only at hh
    split at hh
    · rename_i _ g l1 j hi
      obtain ⟨old, eo, hh⟩ := Option.bind_eq_some_iff.mp hh
      obtain ⟨⟨dx, ρ2⟩, e2, hh⟩ := Option.bind_eq_some_iff.mp hh
      obtain ⟨z, ez, hh⟩ := Option.bind_eq_some_iff.mp hh
      cases r1
      obtain ⟨p', xs, e4, h1, r3, _⟩ := n1.st.ownAt hi
      rw [e3] at e4
      cases e4
      obtain ⟨ov, eov, rov⟩ := r3.atI eo
      refine ⟨p, xs, j, ov, rfl, rfl, SqL.of h1, eov, C, ρ1, G1, dx, ρ2, n1.st, e2, fun w H2 G2 n2 r2 => ?_⟩
      refine l H2 G2 old dx ov w z n2.st.gh (rov.mono n2.ex) r2 ez _ fun nz H3 G3 q3 r4 => ?_
      have n3 := n2.stp q3
      dsimp only at hh
      split at hh
      · rename_i g2 l2 hi2
        split at hh
        · rename_i kk hk
          cases hh
          obtain ⟨p', xs2, e5, h2, r5, fin⟩ := n3.st.ownAt hi2
          rw [e3] at e5
          cases e5
          exact ⟨p, xs2, j, kk, rfl, rfl, h2, by rw [← r5.length]; exact hk, k _ _ G3 (fin _ _ (r5.set kk r4)) (n1.ex.trans n3.ex)⟩
        · cases hh
      · cases hh
    · cases hh
  · cases hh

/-! ### dicts whose keys are tuples of ints and texts -/
section
variable {κ α : Type} [DecidableEq κ]
def valG (kvs : List (κ × α)) (k : κ) : Option α := (kvs.find? fun kv => decide (kv.1 = k)).map (·.2)
def putG (kvs : List (κ × α)) (k : κ) (v : α) : List (κ × α) :=
  if (kvs.any fun kv => decide (kv.1 = k)) = true then kvs.map (fun kv => if kv.1 = k then (kv.1, v) else kv) else kvs ++ [(k, v)]
theorem KVs.any {G : Hp} {kvs : List (κ × D)} {xs : List (κ × V)} (r : KVs T G kvs xs) (k : κ) : (kvs.any fun kv => decide (kv.1 = k)) = xs.any fun kv => decide (kv.1 = k) := by
  induction r with
  | nil => rfl
  | cons h _ ih => simp only [List.any_cons, ih, h.1]
theorem KVs.val {G : Hp} {kvs : List (κ × D)} {xs : List (κ × V)} (r : KVs T G kvs xs) (k : κ) : match valG kvs k with | some d => ∃ v, valV xs k = some v ∧ Rep T G d v | none => valV xs k = none := by
  induction r with
  | nil => rfl
  | @cons p q l1 l2 h r ih =>
    unfold valG valV at *
    rw [List.find?_cons, List.find?_cons, ← h.1]
    by_cases e : p.1 = k
    · simp only [decide_eq_true e, Option.map_some]
      exact ⟨q.2, rfl, h.2⟩
    · simp only [decide_eq_false e]
      exact ih
theorem KVs.repl {G : Hp} {kvs : List (κ × D)} {xs : List (κ × V)} (r : KVs T G kvs xs) (k : κ) {d : D} {v : V} (hr : Rep T G d v) : KVs T G (kvs.map fun kv => if kv.1 = k then (kv.1, d) else kv) (xs.map fun kv => if kv.1 = k then (kv.1, v) else kv) := by
  induction r with
  | nil => exact .nil
  | @cons p q l1 l2 h r ih =>
    refine .cons ?_ ih
    by_cases e : p.1 = k
    · dsimp only
      rw [if_pos e, if_pos (h.1 ▸ e)]
      exact ⟨h.1, hr⟩
    · dsimp only
      rw [if_neg e, if_neg (h.1 ▸ e)]
      exact h
theorem KVs.append {G : Hp} {l l' : List (κ × D)} {x x' : List (κ × V)} (r : KVs T G l x) (q : KVs T G l' x') : KVs T G (l ++ l') (x ++ x') := by
  induction r with
  | nil => exact q
  | cons h _ ih => exact .cons h ih
theorem KVs.put {G : Hp} {kvs : List (κ × D)} {xs : List (κ × V)} (r : KVs T G kvs xs) (k : κ) {d : D} {v : V} (hr : Rep T G d v) : KVs T G (putG kvs k d) (putK xs k v) := by
  unfold putG putK
  rw [r.any k]
  split
  · exact r.repl k hr
  · exact r.append (.cons ⟨rfl, hr⟩ .nil)
theorem KVs.length {G : Hp} {kvs : List (κ × D)} {xs : List (κ × V)} (r : KVs T G kvs xs) : kvs.length = xs.length := Paired.length r
end
def keyD : Key → D
  | .inl i => .int i
  | .inr s => .str s
def keyOf : D → Option Key
  | .int i => some (.inl i)
  | .str s => some (.inr s)
  | _ => none
def keysOf : List D → Option (List Key)
  | [] => some []
  | d :: ds => (keyOf d).bind fun k => (keysOf ds).map (k :: ·)
def keyT : D → Option (List Key)
  | .tup l => keysOf l
  | _ => none
theorem keysOf_rep {G : Hp} : ∀ {l : List D} {ks : List Key} {xs : List V}, keysOf l = some ks → Reps T G l xs → xs = ks.map kV
  | [], ks, xs, h, r => by cases h; cases r; rfl
  | d :: ds, ks, xs, h, r => by
    obtain ⟨k, e1, h⟩ := Option.bind_eq_some_iff.mp h
    obtain ⟨m, e2, h⟩ := Option.map_eq_some_iff.mp h
    cases h
    cases r with
    | cons r1 r2 =>
      rw [keysOf_rep e2 r2]
      cases r1 with
      | int i => cases e1; rfl
      | str s => cases e1; rfl
      | _ => cases e1
theorem keyT_rep {G : Hp} {d : D} {ks : List Key} {v : V} (h : keyT d = some ks) (r : Rep T G d v) : ∃ b, v = .ref b ∧ G b = some (.tup (ks.map kV)) := by
  cases r with
  | tup hg rr => exact ⟨_, rfl, by rw [← keysOf_rep h rr]; exact hg⟩
  | _ => cases h
theorem reps_keys {G : Hp} : ∀ ks : List Key, Reps T G (ks.map keyD) (ks.map kV)
  | [] => .nil
  | .inl i :: r => .cons (.int i) (reps_keys r)
  | .inr s :: r => .cons (.str s) (reps_keys r)
theorem Sta.ownT {C : C0} {ρ : Fenv} {σ : L2.St} {H G : Hp} {i : Nat} {g : Bool} {l : List (List Key × D)} (S : Sta T C ρ σ H G) (hi : ρ[i]? = some (some (.own g (.dT l)))) : ∃ p xs, σ[i]? = some (some (.ref p)) ∧ H p = some (.dT xs) ∧ KVs T G l xs ∧
    ∀ l' xs', KVs T G l' xs' → Sta T C (ρ.set i (some (.own g (.dT l')))) σ (upd H p (.dT xs')) G := by
  obtain ⟨ow, hh⟩ := S.own
  obtain ⟨v, fp, e1, ⟨p, xs, rfl, rfl, h1, h2⟩, e3⟩ := hh i g _ hi
  refine ⟨p, xs, e1, h1, h2, fun l' xs' r => S.updOwn hi (fun b u hb hu => ?_) (fun b u hb tb => ?_) e1 ⟨p, xs, rfl, rfl, h1, h2⟩ (fp' := [p]) ⟨p, xs', rfl, rfl, upd_same, r⟩ fun b hb => .inl hb⟩
  · rw [upd_ne (by simpa using hb)]; exact hu
  · by_cases z : b = p
    · subst z; exact ⟨_, upd_same, fun _ w => nomatch w⟩
    · exact ⟨u, by rw [upd_ne z]; exact hb, tb⟩
/-- {} whose keys will be tuples -/
theorem peo_dictT : PEo X T true (.Dict [] [] pos) (fun ρ => some (.dT [], ρ)) where
  pe := pe_dnewT.imp fun σ H Q ⟨C, ρ, G, o, ρ', S, h, k⟩ => by
    cases h
    exact fun p hp => k _ _ G ⟨S.pushNew hp ⟨p, [], rfl, rfl, upd_same, .nil⟩, Ex.refl G, fun _ => Ex.new hp⟩
  same := fun _ ρ z ρ' h => by cases h; rfl
/-- d[k] = v -/
def isOwnT : Option (Option Slot) → Bool
  | some (some (.own _ (.dT _))) => true
  | _ => false
theorem isOwnT_inv {o : Option (Option Slot)} (h : isOwnT o = true) : ∃ g l, o = some (some (.own g (.dT l))) := by
  unfold isOwnT at h
  split at h
  · exact ⟨_, _, rfl⟩
  · cases h
theorem ownT_var {C : C0} {ρ : Fenv} {σ : L2.St} {H G : Hp} {i : Nat} (S : Sta T C ρ σ H G) (h : isOwnT ρ[i]? = true) : ∃ p, σ[i]? = some (some (.ref p)) := by
  obtain ⟨g0, l0, hi0⟩ := isOwnT_inv h
  obtain ⟨p, xs0, e2, _⟩ := S.ownT hi0
  exact ⟨p, e2⟩
@[simp] def fPutT (i : Nat) (fk fv : FE) : FS := fun ρ => (fv ρ).bind fun v => if isOwnT v.2[i]? then (fk v.2).bind fun k => (keyT k.1).bind fun ks => match k.2[i]? with
  | some (some (.own g (.dT l))) => if l.length < many then some (.nx (k.2.set i (some (.own g (.dT (putG l ks v.1)))))) else none
  | _ => none
  else none
theorem psf_putT {i : Nat} {x : Str} {np sp : Pos} (hu : X.A.units + 1 < cLine) (hk : PEf X T pa a fa) (hv : PEf X T pu e f) (hN : X.N[i]? = some x := by rfl) (hvis : Vis X.env.scope x := by first | exact Or.inl rfl | exact Or.inr (Or.inl rfl) | exact Or.inr (Or.inr rfl))
    (hd : (x == ("__debug__" : Str)) = false := by decide) (hcd : (x == ("__classdict__" : Str)) = false := by decide) (hs : swapsWith e (some (.Subscript (.Name x np) a sp)) pos.line X.env = pure false := by rfl) :
    PSf X T (.Assign [.Subscript (.Name x np) a sp] e pos) (fPutT i fa f) := ⟨(ps_dput hu (pe_var hN hvis hd hcd) hk.pe hv.pe hs).imp fun D σ H ⟨C, ρ, G, out, S, hh, k⟩ => by
  obtain ⟨⟨d, ρ1⟩, e1, hh⟩ := Option.bind_eq_some_iff.mp hh
  split at hh
  · rename_i hown
    obtain ⟨⟨dk, ρ2⟩, e2, hh⟩ := Option.bind_eq_some_iff.mp hh
    obtain ⟨ks, eks, hh⟩ := Option.bind_eq_some_iff.mp hh
    refine ⟨C, ρ, G, d, ρ1, S, e1, fun y H1 G1 n1 r1 => ?_⟩
    obtain ⟨p, e3⟩ := ownT_var n1.st hown
    refine ⟨.ref p, e3, C, ρ1, G1, dk, ρ2, n1.st, e2, fun z H2 G2 n2 r2 => ?_⟩
    dsimp only at hh
    split at hh
    · rename_i g l hi
      split at hh
      · rename_i hl
        cases hh
        obtain ⟨p', xs, e4, h1, r3, fin⟩ := n2.st.ownT hi
        rw [e3] at e4
        cases e4
        obtain ⟨b, rfl, hb⟩ := keyT_rep eks r2
        exact ⟨p, _, rfl, DPut.t h1 (n2.st.gh _ _ hb) (Nat.lt_of_lt_of_le (by rw [← r3.length]; exact hl) many_le), k _ _ G2 (fin _ _ (r3.put ks (r1.mono n2.ex))) (n1.ex.trans n2.ex)⟩
      · cases hh
    · cases hh
  · cases hh⟩
/-- d[k] -/
@[simp] def fGetT (i : Nat) (fk : FE) : FE := fun ρ => if isOwnT ρ[i]? then (fk ρ).bind fun k => (keyT k.1).bind fun ks => match k.2[i]? with
  | some (some (.own _ (.dT l))) => (valG l ks).map fun d => (d, k.2)
  | _ => none
  else none
theorem pef_getT {i : Nat} {x : Str} {np : Pos} (hu : X.A.units + 1 < cLine) (hk : PEf X T pa a fa) (hN : X.N[i]? = some x := by rfl) (hvis : Vis X.env.scope x := by first | exact Or.inl rfl | exact Or.inr (Or.inl rfl) | exact Or.inr (Or.inr rfl))
    (hd : (x == ("__debug__" : Str)) = false := by decide) (hcd : (x == ("__classdict__" : Str)) = false := by decide) (hs : NoSl a := by intros _ _; rfl) :
    PEf X T pa (.Subscript (.Name x np) a pos) (fGetT i fa) where
  pe := (pe_dget hu (pe_var hN hvis hd hcd) hk.pe hs).imp fun σ H Q ⟨C, ρ, G, d, ρ', S, hh, kk⟩ => by
    unfold fGetT at hh
    split at hh
    · rename_i hown
      obtain ⟨⟨dk, ρ2⟩, e2, hh⟩ := Option.bind_eq_some_iff.mp hh
      obtain ⟨ks, eks, hh⟩ := Option.bind_eq_some_iff.mp hh
      obtain ⟨p, e3⟩ := ownT_var S hown
      refine ⟨.ref p, e3, C, ρ, G, dk, ρ2, S, e2, fun z H2 G2 n2 r2 => ?_⟩
      dsimp only at hh
      split at hh
      · rename_i g l hi
        obtain ⟨d', ed, hh⟩ := Option.map_eq_some_iff.mp hh
        cases hh
        obtain ⟨p', xs, e4, h1, r3, fin⟩ := n2.st.ownT hi
        rw [e3] at e4
        cases e4
        obtain ⟨b, rfl, hb⟩ := keyT_rep eks r2
        have q := r3.val ks
        rw [ed] at q
        obtain ⟨v, ev, rv⟩ := q
        refine ⟨p, v, rfl, ?_, kk v H2 G2 n2 rv⟩
        rw [← ev]
        exact DGet.t h1 (n2.st.gh _ _ hb)
      · cases hh
    · cases hh
  same := fun hp ρ z ρ' hh => by
    unfold fGetT at hh
    split at hh
    · obtain ⟨⟨dk, ρ2⟩, e2, hh⟩ := Option.bind_eq_some_iff.mp hh
      obtain ⟨ks, eks, hh⟩ := Option.bind_eq_some_iff.mp hh
      dsimp only at hh
      split at hh
      · obtain ⟨d', ed, hh⟩ := Option.map_eq_some_iff.mp hh
        cases hh
        exact hk.same hp _ _ _ e2
      · cases hh
    · cases hh
/-- k in d -/
@[simp] def fHasT (i : Nat) (no : Bool) (fk : FE) : FE := fun ρ => (fk ρ).bind fun k => (keyT k.1).bind fun ks => match k.2[i]? with
  | some (some (.own _ (.dT l))) => some (.bl (xor no (valG l ks).isSome), k.2)
  | _ => none
theorem hasT_same {i : Nat} {no : Bool} (h : Same1 pa fa) : Same1 pa (fHasT i no fa) := fun hp ρ z ρ' hh => by
  obtain ⟨⟨dk, ρ2⟩, e2, hh⟩ := Option.bind_eq_some_iff.mp hh
  obtain ⟨ks, eks, hh⟩ := Option.bind_eq_some_iff.mp hh
  dsimp only at hh
  split at hh
  · cases hh
    exact h hp _ _ _ e2
  · cases hh
theorem hasT_run {i : Nat} {no : Bool} {σ : L2.St} {H : Hp} {Q : VK} (hk : PEf X T pa a fa) (h : tD T pa (fHasT i no fa) σ H Q) : tD T pa fa σ H fun y H1 => ∃ x, σ[i]? = some (some x) ∧ ∃ p o, x = .ref p ∧ DGet H1 p y o ∧ Q (.bl (xor no o.isSome)) H1 := by
  obtain ⟨C, ρ, G, d, ρ', S, hh, kk⟩ := h
  obtain ⟨⟨dk, ρ2⟩, e2, hh⟩ := Option.bind_eq_some_iff.mp hh
  obtain ⟨ks, eks, hh⟩ := Option.bind_eq_some_iff.mp hh
  refine ⟨C, ρ, G, dk, ρ2, S, e2, fun z H2 G2 n2 r2 => ?_⟩
  dsimp only at hh
  split at hh
  · rename_i g l hi
    cases hh
    obtain ⟨p', xs, e4, h1, r3, fin⟩ := n2.st.ownT hi
    obtain ⟨b, rfl, hb⟩ := keyT_rep eks r2
    refine ⟨_, e4, p', valV xs ks, rfl, DGet.t h1 (n2.st.gh _ _ hb), ?_⟩
    have q := r3.val ks
    have e : (valV xs ks).isSome = (valG l ks).isSome := by
      cases z : valG l ks with
      | none => rw [z] at q; rw [q]; rfl
      | some w => rw [z] at q; obtain ⟨v, ev, _⟩ := q; rw [ev]; rfl
    rw [e]
    exact kk _ H2 G2 n2 (.bl _)
  · cases hh
theorem pef_hasT {i : Nat} {x : Str} {np : Pos} (hu : X.A.units + 1 < cLine) (hk : PEf X T pa a fa) (hN : X.N[i]? = some x := by rfl) (hvis : Vis X.env.scope x := by first | exact Or.inl rfl | exact Or.inr (Or.inl rfl) | exact Or.inr (Or.inr rfl))
    (hd : (x == ("__debug__" : Str)) = false := by decide) (hcd : (x == ("__classdict__" : Str)) = false := by decide) (hm : behindInMarks .In (.Name x np) = false := by first | exact nobehind _ (by decide) (by decide) | rfl) :
    PEf X T pa (.Compare a [.In] [.Name x np] pos) (fHasT i false fa) :=
  ⟨(pe_cmp (pc_din hu hk.pe (pe_var hN hvis hd hcd)) hm).imp fun σ H Q h => by
    obtain ⟨C, ρ, G, d, ρ', S, e, kk⟩ := hasT_run hk h
    exact ⟨C, ρ, G, d, ρ', S, e, fun v H1 G1 n r => let ⟨x, ex, p, o, e1, e2, q⟩ := kk v H1 G1 n r; ⟨x, ex, p, o, e1, e2, by simpa using q⟩⟩, hasT_same hk.same⟩
theorem pef_hasNT {i : Nat} {x : Str} {np : Pos} (hu : X.A.units + 1 < cLine) (hk : PEf X T pa a fa) (hN : X.N[i]? = some x := by rfl) (hvis : Vis X.env.scope x := by first | exact Or.inl rfl | exact Or.inr (Or.inl rfl) | exact Or.inr (Or.inr rfl))
    (hd : (x == ("__debug__" : Str)) = false := by decide) (hcd : (x == ("__classdict__" : Str)) = false := by decide) (hm : behindInMarks .NotIn (.Name x np) = false := by first | exact nobehind _ (by decide) (by decide) | rfl) :
    PEf X T pa (.Compare a [.NotIn] [.Name x np] pos) (fHasT i true fa) :=
  ⟨(pe_cmp (pc_dnotin hu hk.pe (pe_var hN hvis hd hcd)) hm).imp fun σ H Q h => by
    obtain ⟨C, ρ, G, d, ρ', S, e, kk⟩ := hasT_run hk h
    exact ⟨C, ρ, G, d, ρ', S, e, fun v H1 G1 n r => let ⟨x, ex, p, o, e1, e2, q⟩ := kk v H1 G1 n r; ⟨x, ex, p, o, e1, e2, by simpa using q⟩⟩, hasT_same hk.same⟩
theorem ptf_hasT {i : Nat} {x : Str} {np : Pos} (hu : X.A.units + 1 < cLine) (hk : PEf X T pa a fa) (hN : X.N[i]? = some x := by rfl) (hvis : Vis X.env.scope x := by first | exact Or.inl rfl | exact Or.inr (Or.inl rfl) | exact Or.inr (Or.inr rfl))
    (hd : (x == ("__debug__" : Str)) = false := by decide) (hcd : (x == ("__classdict__" : Str)) = false := by decide) (hm : behindInMarks .In (.Name x np) = false := by first | exact nobehind _ (by decide) (by decide) | rfl) :
    PTf X T pa (.Compare a [.In] [.Name x np] pos) (fTest (fHasT i false fa)) := by
  refine ptf_test ((pt_cmp (pc_din hu hk.pe (pe_var hN hvis hd hcd)) hm).imp fun σ H Q h => ?_) (hasT_same hk.same)
  obtain ⟨C, ρ, G, d, ρ', S, e, kk⟩ := hasT_run hk h
  exact ⟨C, ρ, G, d, ρ', S, e, fun v H1 G1 n r => let ⟨x, ex, p, o, e1, e2, q⟩ := kk v H1 G1 n r; ⟨x, ex, p, o, e1, e2, by simpa using q⟩⟩
theorem ptf_hasNT {i : Nat} {x : Str} {np : Pos} (hu : X.A.units + 1 < cLine) (hk : PEf X T pa a fa) (hN : X.N[i]? = some x := by rfl) (hvis : Vis X.env.scope x := by first | exact Or.inl rfl | exact Or.inr (Or.inl rfl) | exact Or.inr (Or.inr rfl))
    (hd : (x == ("__debug__" : Str)) = false := by decide) (hcd : (x == ("__classdict__" : Str)) = false := by decide) (hm : behindInMarks .NotIn (.Name x np) = false := by first | exact nobehind _ (by decide) (by decide) | rfl) :
    PTf X T pa (.Compare a [.NotIn] [.Name x np] pos) (fTest (fHasT i true fa)) := by
  refine ptf_test ((pt_cmp (pc_dnotin hu hk.pe (pe_var hN hvis hd hcd)) hm).imp fun σ H Q h => ?_) (hasT_same hk.same)
  obtain ⟨C, ρ, G, d, ρ', S, e, kk⟩ := hasT_run hk h
  exact ⟨C, ρ, G, d, ρ', S, e, fun v H1 G1 n r => let ⟨x, ex, p, o, e1, e2, q⟩ := kk v H1 G1 n r; ⟨x, ex, p, o, e1, e2, by simpa using q⟩⟩
/-- list(d) -/
def clo (H G : Hp) : Hp := fun a => match H a with
  | some (.tup xs) => some (.tup xs)
  | _ => G a
theorem stp_clo {H G : Hp} (h : Ex G H) : Stp H G H (clo H G) where
  hh := Ex.refl H
  gg := fun a o e => by
    unfold clo
    split
    · rename_i xs q
      rw [h a o e] at q
      cases q
      rfl
    · exact e
  gh := fun a o e => by
    unfold clo at e
    split at e
    · rename_i xs q
      cases e
      exact q
    · exact h a o e
  fr := fun a u e t g => by
    unfold clo
    split
    · rename_i xs q
      rw [e] at q
      cases q
      exact absurd rfl (t xs)
    · exact g
theorem keys_rep {H G : Hp} {kvs : List (List Key × D)} {xs : List (List Key × V)} {bs : List Addr} (r : KVs T G kvs xs) (q : IsKeys H xs bs) : Reps T (clo H G) (kvs.map fun kv => .tup (kv.1.map keyD)) (bs.map V.ref) := by
  induction r generalizing bs with
  | nil => cases q; exact .nil
  | @cons p1 q1 l1 l2 h r ih =>
    cases q with
    | cons h1 q =>
      refine .cons (.tup (xs := p1.1.map kV) ?_ (reps_keys p1.1)) (ih q)
      unfold clo
      rw [h1, ← h.1]
@[simp] def fKeysT (i : Nat) : FO := fun ρ => match ρ[i]? with
  | some (some (.own _ (.dT l))) => some (.lst (l.map fun kv => .tup (kv.1.map keyD)), ρ)
  | _ => none
theorem peo_keysT {i : Nat} {x : Str} {np fp : Pos} (hc : X.calm = true) (hg : Gl X "list") (hm : X.mg "list" = none) (hN : X.N[i]? = some x := by rfl) (hvis : Vis X.env.scope x := by first | exact Or.inl rfl | exact Or.inr (Or.inl rfl) | exact Or.inr (Or.inr rfl))
    (hd : (x == ("__debug__" : Str)) = false := by decide) (hcd : (x == ("__classdict__" : Str)) = false := by decide)
    (he : starEach [.Name x np] X.env = (false, eval (.Name x np) X.env) :: starEach [] X.env := by rfl) (hpl : (backTo pos (starEach [] X.env)).any (·.1) = false := by rfl) :
    PEo X T true (.Call (.Name "list" fp) [.Name x np] [] pos) (fKeysT i) where
  pe := (pe_callTy (call_list_dT hc) hg hm (by decide +kernel) (pa_cons (pe_var hN hvis hd hcd) pa_nil he) (by decide) (by decide) he hpl).imp fun σ H Q ⟨C, ρ, G, d, ρ', S, hh, kk⟩ => by
    unfold fKeysT at hh
    split at hh
    · rename_i g l hi
      cases hh
      obtain ⟨p, xs, e1, h1, r1, _⟩ := S.ownT hi
      refine ⟨.ref p, e1, p, xs, rfl, .inl h1, fun q bs hq ik => ?_⟩
      have st := stp_clo (H := H) S.gh
      exact kk _ _ (clo H G) (Nxt.push ((Nxt.refl S).stp st) hq (keys_rep r1 ik))
    · cases hh
  same := fun _ ρ z ρ' hh => by
    unfold fKeysT at hh
    split at hh
    · cases hh; rfl
    · cases hh
/-! ### a new list out of a lent one -/
def okO : O → Bool
  | .lst l => noLs l
  | _ => false
theorem peo_lend (i : Nat) {fo : FO} (h : PEo X T true e fo) : PEo X T true e (fLend i okO fo) where
  pe := h.pe.imp fun σ H Q ⟨C, ρ, G, o0, ρ', S, hh, kk⟩ => by
    unfold fLend at hh
    split at hh
    · rename_i g o1 hi
      split at hh
      · rename_i hf
        obtain ⟨⟨o, ρ2⟩, e1, hh⟩ := Option.bind_eq_some_iff.mp hh
        split at hh
        · rename_i hok
          cases hh
          obtain ⟨fp, vo, hvo, hoo, hn, hl, S', back⟩ := S.lend hi hf
          have e2 := h.same rfl _ _ _ e1
          subst e2
          refine ⟨_, _, _, o, _, S', e1, fun v H' G' n => ?_⟩
          have P := n.st.pop
          have S2 := back H' G' (n.pu rfl) n.ex P
          obtain ⟨ow, hw⟩ := n.st.own
          have ln : (ρ.set i (some (Slot.sh o1.toD))).length = ρ.length := by simp
          have ls : σ.length = ρ.length := S.len
          obtain ⟨w, fp', q1, q2, q3⟩ := hw ρ.length true o (by rw [List.getElem?_append_right (by omega), ln, Nat.sub_self]; rfl)
          rw [List.getElem?_append_right (by omega), ls, Nat.sub_self] at q1
          have q1 : v = w := by simpa using q1
          subst q1
          have gx : Ex (lessH G' fp) G' := fun b u eb => by unfold lessH at eb; split at eb; cases eb; exact eb
          have lr : ∀ ds vs, noLs ds = true → Reps T G' ds vs → Reps T (lessH G' fp) ds vs := fun ds vs hd r => r.noL (fun a u eu hn' => by
            unfold lessH
            rw [if_neg fun z => ?_]
            · exact eu
            · obtain ⟨xs, q⟩ := hl a z
              have := n.ex a (.lst xs) (by unfold frzH; rw [if_pos z]; exact q)
              rw [this] at eu
              cases eu
              exact hn' xs rfl) hd
          have own2 : OwnOk T (lessH G' fp) H' o v fp' := by
            cases o with
            | lst ds => obtain ⟨a, xs, rfl, rfl, h1, h2⟩ := q2; exact ⟨a, xs, rfl, rfl, h1, lr _ _ hok h2⟩
            | dT _ => simp [okO] at hok
            | dK _ => simp [okO] at hok
            | ll _ => simp [okO] at hok
          refine kk v H' (lessH G' fp) ⟨S2.push own2 fun b hb => ⟨?_, (q3 b hb).2.2, fun j f o' v' fp2 y1 y2 y3 hb2 => ?_⟩, fun b u eb => ?_, n.pu⟩
          · unfold lessH
            split
            · rfl
            · exact (q3 b hb).2.1
          · by_cases q : i = j
            · subst q
              rw [hi] at y1
              cases y1
              rw [hvo] at y2
              cases y2
              have gg0 : Ex G (lessH G' fp) := fun b u eb => by
                unfold lessH
                rw [if_neg fun z => by rw [hn b z] at eb; cases eb]
                exact n.ex b u (frz_ex hn b u eb)
              have hb3 : b ∈ fp := by rw [(hoo.mono gg0 fun b _ u z => n.pu rfl b u z).fpEq y3]; exact hb2
              obtain ⟨xs, q⟩ := hl b hb3
              have := n.ex b (.lst xs) (by unfold frzH; rw [if_pos hb3]; exact q)
              rw [(q3 b hb).2.1] at this
              cases this
            · have hj : j < ρ.length := (List.getElem?_eq_some_iff.mp y1).1
              obtain ⟨w2, fp3, z1, z2, z3⟩ := hw j f o' (by rw [List.getElem?_append_left (by simpa using hj), List.getElem?_set_ne q]; exact y1)
              rw [List.getElem?_append_left (by omega)] at z1
              rw [y2] at z1
              cases z1
              have := (y3.mono gx fun _ _ _ z => z).fpEq z2
              subst this
              have t1 := (z3 b hb2).1
              rw [(q3 b hb).1] at t1
              have := Option.some.inj t1
              omega
          · unfold lessH
            rw [if_neg fun z => by rw [hn b z] at eb; cases eb]
            exact n.ex b u (frz_ex hn b u eb)
        · cases hh
      · cases hh
    · cases hh
  same := lend_same
end
end Fl
end

section
set_option Elab.async false
set_option linter.all false
set_option autoImplicit false
set_option maxRecDepth 100000
set_option maxHeartbeats 2000000
namespace Fl
open PySem PySem.Spec PyProof.Rows L2

/-! ### iterators that give pairs, over lists or tuples -/
def ItP (go : Nat → Hp → Prop) (yp : Nat → Hp → V → V → Prop) (stop : Nat → Hp → Prop) : It :=
  ⟨go, fun i H v H' => ∃ T x y, v = .ref T ∧ H T = none ∧ H' = upd H T (.tup [x, y]) ∧ yp i H x y, stop⟩
theorem turn_pairs {P : Program} {w : World} {K : PySem.W.Frag} {elts : List Expr} {kk : Nat} {tpos : Pos} {go stop : Nat → Hp → Prop} {yp : Nat → Hp → V → V → Prop} {e : Addr} {own : List Addr} {tn : Nat → Heap → Prop}
    (mem : e ∈ own) (obj : ∀ i h, tn i h → ∀ b ∈ own, ∃ o, h.get? b = some o ∧ ∀ v, o.data ≠ .cell v)
    (keep : ∀ i h h', tn i h → (∀ b ∈ own, ∀ o, h.get? b = some o → h'.get? b = some o) → tn i h')
    (mk : ∀ (X : Cx), X.prog = P → X.w = w → X.K = K → X.calm = true → ∀ (i : Nat) (pins : List (Addr × Obj)) (s : Shared) (σ : L2.St) (H : Hp), Inv X pins σ H s → (∀ b ∈ own, FpOk X pins H b) → tn i s.heap → go i H →
      ∃ fpW wr n Pt St Mid, WalksT P w X.A e fpW wr n Pt St Mid ∧ i < n ∧ St i s.heap ∧ (∀ b ∈ wr, b ∈ own) ∧ (∀ h', St (i + 1) h' → tn (i + 1) h') ∧
        ∀ vals, Pt i vals → ∃ u1 u2 x y, vals = #[u1, u2] ∧ RelV x u1 ∧ RelV y u2 ∧ yp i H x y)
    (mkd : ∀ (X : Cx), X.prog = P → X.w = w → X.K = K → X.calm = true → ∀ (i : Nat) (pins : List (Addr × Obj)) (s : Shared) (σ : L2.St) (H : Hp), Inv X pins σ H s → (∀ b ∈ own, FpOk X pins H b) → tn i s.heap → stop i H →
      ∃ fpW wr n Pt St Mid, WalksT P w X.A e fpW wr n Pt St Mid ∧ St n s.heap ∧ (∀ b ∈ wr, b ∈ own))
    (self : ∀ (A : Around) (i : Nat) (s : Shared) (Q : Value → Shared → Prop) (E : Value → Shared → Prop), tn i s.heap → Q (.ref e) s → wpAny (model P w) A (pyIter (.ref e)) Q E s) :
    Turn P w K (.Tuple elts kk tpos) (ItP go yp stop) own e tn where
  mem := mem
  obj := obj
  keep := keep
  item := by
    intro X hP hw hK hc i pins s σ H E I hf st hg
    obtain ⟨fpW, wr, n, Pt, St, Mid, W, hi, hs, hwr, hnx, hv⟩ := mk X hP hw hK hc i pins s σ H I hf st hg
    refine W.item i s _ _ hi hs fun T vals h' tk hP' hle hT hM hk => ⟨_, rfl, ?_⟩
    obtain ⟨u1, u2, x, y, rfl, r1, r2, hy⟩ := hv vals hP'
    refine W.go elts kk tpos i T { s with heap := h', toks := tk } _ _ hM fun h'' st'' hk' => ?_
    have hT2 : h''.IsTuple T #[u1, u2] := hT.at fun o z => hk' T o (W.apart i T h' hM) z
    obtain ⟨o2, e2, c2, dt2, m2⟩ := hT2
    have new : ObjOk X.prog X.w (upd H T (.tup [x, y])) h'' T (.tup [x, y]) := ⟨by show 2 ≤ sizeLine; decide, [u1, u2], .cons r1 (.cons r2 .nil), ⟨o2, e2, c2, dt2, m2⟩⟩
    have hnT : H T = none := I.hok.fresh hle
    have I1 : Inv X pins σ (upd H T (.tup [x, y])) { s with heap := h'', toks := tk } :=
      I.turnedNew (ch := own) (fun b ob hb q => hk' b ob (fun z => hb (hwr b z)) (hk b ob (fun z => hb (hwr b z)) q)) hf hle new
    refine ⟨.ref T, _, I1, rfl, ⟨T, x, y, rfl, hnT, rfl, hy⟩, hnx h'' st'', fun b hb => ?_⟩
    obtain ⟨ob, eb, _⟩ := obj i s.heap st b hb
    rw [upd_ne (Nat.ne_of_lt (Nat.lt_of_lt_of_le (Heap.lt_size eb) hle))]
    exact (hf b hb).1
  done := by
    intro X hP hw hK hc i pins s σ H E I hf st hg
    obtain ⟨fpW, wr, n, Pt, St, Mid, W, hs, hwr⟩ := mkd X hP hw hK hc i pins s σ H I hf st hg
    exact W.done s _ _ hs fun h' tk hk => ⟨rfl, I.turnedL (ch := own) (fun b ob hb q => hk b ob (fun z => hb (hwr b z)) q) hf⟩
  self := self

/-! ### a list or a tuple -/
def SqB (kd : Bool) (H : Hp) (a : Addr) (xs : List V) : Prop := if kd = true then Rd H a (.lst xs) else Rd H a (.tup xs)
theorem SqB.there {kd : Bool} {H : Hp} {a : Addr} {xs : List V} (q : SqB kd H a xs) : H a ≠ none := fun z => by
  cases kd with
  | true =>
    rcases (show Rd H a (.lst xs) from q) with h | ⟨o, h⟩
    · rw [z] at h; cases h
    · rw [z] at h; cases h
  | false =>
    rcases (show Rd H a (.tup xs) from q) with h | ⟨o, h⟩
    · rw [z] at h; cases h
    · rw [z] at h; cases h
theorem SqB.mono {kd : Bool} {H H' : Hp} {a : Addr} {xs : List V} (e : Ex H H') (q : SqB kd H a xs) : SqB kd H' a xs := by
  cases kd with
  | true => exact e.rd q
  | false => exact e.rd q
theorem SqB.inj {kd : Bool} {H : Hp} {a : Addr} {xs ys : List V} (q : SqB kd H a xs) (q' : SqB kd H a ys) : ys = xs := by
  cases kd with
  | true =>
    rcases (show Rd H a (.lst xs) from q) with h | ⟨o, h⟩ <;> rcases (show Rd H a (.lst ys) from q') with h' | ⟨o', h'⟩
    · rw [h] at h'; cases h'; rfl
    · rw [h] at h'; cases h'
    · rw [h] at h'; cases h'
    · rw [h] at h'; cases h'; rfl
  | false =>
    rcases (show Rd H a (.tup xs) from q) with h | ⟨o, h⟩ <;> rcases (show Rd H a (.tup ys) from q') with h' | ⟨o', h'⟩
    · rw [h] at h'; cases h'; rfl
    · rw [h] at h'; cases h'
    · rw [h] at h'; cases h'
    · rw [h] at h'; cases h'; rfl
def IsB (kd : Bool) (h : Heap) (a : Addr) (items : Array Value) : Prop := if kd = true then h.IsList a items else h.IsTuple a items
def IterB (kd : Bool) (h : Heap) (it a : Addr) (i : Nat) : Prop := if kd = true then h.IsListIter it a i else h.IsTupleIter it a i
def iterObj (kd : Bool) (a : Addr) : Obj := { cls := .type (if kd = true then "list_iterator" else "tuple_iterator"), data := .fields #[.ref a, .int 0 0] }
theorem iterB_obj {kd : Bool} {h : Heap} {it a : Addr} {i : Nat} (x : IterB kd h it a i) : ∃ o, h.get? it = some o ∧ ∀ v, o.data ≠ .cell v := by
  cases kd with
  | true => obtain ⟨o, e, c, d⟩ := (show h.IsListIter it a i from x); exact ⟨o, e, fun v z => by rw [d] at z; cases z⟩
  | false => obtain ⟨o, e, c, d⟩ := (show h.IsTupleIter it a i from x); exact ⟨o, e, fun v z => by rw [d] at z; cases z⟩
theorem iterB_at {kd : Bool} {h h' : Heap} {it a : Addr} {i : Nat} (x : IterB kd h it a i) (k : ∀ o, h.get? it = some o → h'.get? it = some o) : IterB kd h' it a i := by
  cases kd with
  | true => exact Heap.IsListIter.at (show h.IsListIter it a i from x) k
  | false => exact Heap.IsTupleIter.at (show h.IsTupleIter it a i from x) k
theorem iterB_new {kd : Bool} {h : Heap} {it a : Addr} (e : h.get? it = some (iterObj kd a)) : IterB kd h it a 0 := by
  cases kd with
  | true => exact ⟨_, e, rfl, rfl⟩
  | false => exact ⟨_, e, rfl, rfl⟩
theorem begins_B (kd : Bool) (a : Addr) (items : Array Value) : Begins (.ref a) (iterObj kd a) fun h => IsB kd h a items := by
  cases kd with
  | true => exact begins_list a items
  | false => exact begins_tuple a items
theorem draws_B {prog : Program} {w : World} {A : Around} (kd : Bool) (hh : A.handled = none) (it a : Addr) (hne : a ≠ it) (items : Array Value) :
    Draws prog w A it [it, a] items.size (fun i v => items[i]? = some v) (fun i h => IterB kd h it a i ∧ IsB kd h a items) := by
  cases kd with
  | true => exact Draws.list hh it a hne items
  | false => exact Draws.tuple hh it a hne items
theorem seqB {X : Cx} {pins : List (Addr × Obj)} {σ : L2.St} {H : Hp} {s : Shared} {kd : Bool} {a : Addr} {xs : List V} (I : Inv X pins σ H s) (q : SqB kd H a xs) : ∃ its : List Value, Vals xs its ∧ IsB kd s.heap a its.toArray ∧ (∃ o, s.heap.get? a = some o) := by
  cases kd with
  | true =>
    obtain ⟨its, rv, p, hz⟩ := I.list (show SqL X.K H a xs from .inl q)
    exact ⟨its, rv, p.isList, let ⟨o, ho, _⟩ := p.isList; ⟨o, ho⟩⟩
  | false =>
    obtain ⟨its, rv, p, hz⟩ := I.tuple (show SqT X.K H a xs from .inl q)
    exact ⟨its, rv, p, let ⟨o, ho, _⟩ := p; ⟨o, ho⟩⟩

/-! ### enumerate -/
set_option maxHeartbeats 1000000 in
theorem meets_enumerate_new1 {v : Value} {o : Obj} {H : Heap → Prop} (B : Begins v o H) :
    Meets (Builtin.«enumerate.__new__» ⟨[.type "enumerate", v], []⟩) (fun _ R s => H s.heap ∧
      R (.ok (.ret (.ref (s.heap.push o).objs.size))) { s with heap := (s.heap.push o).push { cls := .type "enumerate", data := .fields #[.none, .bool false, .ref s.heap.objs.size, rawInt 0, .none, .none] } }) :=
  .of_wp fun prog w A R s h => by
    obtain ⟨hp, g, d, tk, os⟩ := s; obtain ⟨h1, h⟩ := h
    have hsub := sub_enumerate
    have q1 : ∀ {A' : Around} {E : Value → Shared → Prop} {Q : Value → Shared → Prop}, Q (.ref hp.objs.size) ⟨hp.push o, g, d, tk, os⟩ → wpAny (model prog w) A' (pyIter v) Q E ⟨hp, g, d, tk, os⟩ :=
      fun q => B.iter prog w _ _ ⟨hp, g, d, tk, os⟩ _ h1 q
    wp_walk using q1
    refine wpAny_stack_any fun st => wpAny_pure ?_
    split
    · rename_i c _ _ _ _ _
      cases (c == Value.type "enumerate")
      · wp_walk using q1
        exact ⟨_, rfl, h⟩
      · wp_walk using q1
        exact ⟨_, rfl, h⟩
    · wp_walk using q1
      exact ⟨_, rfl, h⟩
theorem enum_begins1 {prog : Program} {w : World} {A : Around} {E : Value → Shared → Prop} {s : Shared} {v : Value} {o : Obj} {H : Heap → Prop} {Q : Value → Shared → Prop} (B : Begins v o H) (h1 : H s.heap)
    (h : ∀ h', IsEnum h' (s.heap.objs.size + 1) s.heap.objs.size 0 .none → h'.get? s.heap.objs.size = some o → h'.objs.size = s.heap.objs.size + 2 →
      (∀ b o, s.heap.get? b = some o → h'.get? b = some o) → Q (.ref (s.heap.objs.size + 1)) { s with heap := h' }) :
    wpAny (model prog w) A (call (.type "enumerate") [v]) Q E s := by
  refine callType_new F.called_enumerate (by decide) (F.typeCall_enumerate_1 _) (F.newCall_enumerate_1 _) (fun obj => F.args_object_init_2 obj _) F.entry_enumerate_new
    (meets_enumerate_new1 B) ⟨h1, ?_⟩
  have hz : (s.heap.push o).objs.size = s.heap.objs.size + 1 := Heap.size_push ..
  show _ ∧ _
  rw [hz]
  have he : IsEnum ((s.heap.push o).push { cls := .type "enumerate", data := .fields #[.none, .bool false, .ref s.heap.objs.size, rawInt 0, .none, .none] }) (s.heap.objs.size + 1) s.heap.objs.size 0 .none := by
    have := Heap.get?_push_size (s.heap.push o) (o := { cls := .type "enumerate", data := .fields #[.none, .bool false, .ref s.heap.objs.size, rawInt 0, .none, .none] }) rfl
    rw [hz] at this; exact this
  refine ⟨⟨_, he, rfl⟩, h _ he (Heap.get?_push_of_some _ (Heap.get?_push_size _ B.free)) (by rw [Heap.size_push, hz]) fun b o x => Heap.get?_push_of_some _ (Heap.get?_push_of_some _ x)⟩
def IteB (kd : Bool) (a : Addr) : It :=
  ItP (fun i H => ∃ (xs : List V) (x : V), SqB kd H a xs ∧ xs[i]? = some x) (fun i H x y => x = .int (i : Nat) ∧ ∀ xs, SqB kd H a xs → xs[i]? = some y) (fun i H => ∃ xs : List V, SqB kd H a xs ∧ xs.length = i)
theorem turn_enumB {P : Program} {w : World} {K : PySem.W.Frag} {elts : List Expr} {kk : Nat} {tpos : Pos} (kd : Bool) (a e it : Addr) (ne : e ≠ it) :
    Turn P w K (.Tuple elts kk tpos) (IteB kd a) [e, it] e (fun i h => (∃ old, IsEnum h e it ((i : Nat) : Int) old) ∧ IterB kd h it a i) := by
  refine turn_pairs (by simp) (fun i h st b hb => ?_) (fun i h h' st k => ?_) (fun X hP hw hK hc i pins s σ H I hf st hg => ?_) (fun X hP hw hK hc i pins s σ H I hf st hg => ?_) fun A i s Q E st h => let ⟨⟨_, he⟩, _⟩ := st; wpAny_pyIter_enum he h
  · obtain ⟨⟨old, he⟩, hi⟩ := st
    have e' : b = e ∨ b = it := by simpa using hb
    rcases e' with z | z
    · rw [z]; exact ⟨_, he, fun v q => nomatch q⟩
    · rw [z]; exact iterB_obj hi
  · obtain ⟨⟨old, he⟩, hi⟩ := st
    exact ⟨⟨old, k e (by simp) _ he⟩, iterB_at hi fun o q => k it (by simp) o q⟩
  · subst hP hw hK
    obtain ⟨xs, x, hq, hx⟩ := hg
    obtain ⟨its, rv, p, ⟨oa, hoa⟩⟩ := seqB I hq
    have na : ∀ b ∈ [e, it], a ≠ b := fun b hb z => hq.there (z ▸ (hf b hb).1)
    refine ⟨_, _, _, _, _, _, WalksT.enumerateD (draws_B kd (show X.A.in1.handled = none from I.ok.hd hc) it a (na it (by simp)) its.toArray) e ne (by simpa using ⟨ne, fun z => na e (by simp) z.symm⟩) (by simp), ?_, ⟨st.1, st.2, p⟩, fun b hb => hb, fun h' st' => ⟨st'.1, st'.2.1⟩, fun vals hv => ?_⟩
    · have := rv.length
      have := (List.getElem?_eq_some_iff.mp hx).1
      simp
      omega
    · obtain ⟨t, u, hu, rfl⟩ := hv
      obtain ⟨u', hu', ru⟩ := rv.get hx
      have : u = u' := by
        have z : its[i]? = some u := by simpa using hu
        rw [hu'] at z
        exact (Option.some.inj z).symm
      subst this
      exact ⟨_, _, .int (i : Nat), x, rfl, ⟨t, rfl⟩, ru, rfl, fun ys hy => by rw [hq.inj hy]; exact hx⟩
  · subst hP hw hK
    obtain ⟨xs, hq, hx⟩ := hg
    obtain ⟨its, rv, p, ⟨oa, hoa⟩⟩ := seqB I hq
    have na : ∀ b ∈ [e, it], a ≠ b := fun b hb z => hq.there (z ▸ (hf b hb).1)
    have hn : its.toArray.size = i := by have := rv.length; simp; omega
    refine ⟨_, _, _, _, _, _, WalksT.enumerateD (draws_B kd (show X.A.in1.handled = none from I.ok.hd hc) it a (na it (by simp)) its.toArray) e ne (by simpa using ⟨ne, fun z => na e (by simp) z.symm⟩) (by simp), ?_, fun b hb => hb⟩
    rw [hn]
    exact ⟨st.1, st.2, p⟩
def iEnumB (ta : TA) : TI := fun σ H R => ta σ H fun vs H1 => ∃ kd a xs, vs = [.ref a] ∧ SqB kd H1 a xs ∧ R (IteB kd a) H1
theorem pi_enumB {X : Cx} {e : Expr} {ta : TA} {p pos tpos : Pos} {elts : List Expr} {kk : Nat} (hm : X.mg "enumerate" = none) (ha : PA X [e] ta) (hg : Gl X "enumerate" := by rfl) (hs : starEach [e] X.env = [(false, eval e X.env)] := by rfl) :
    PI X (.Tuple elts kk tpos) (.Call (.Name "enumerate" p) [e] [] pos) (iEnumB ta) := by
  refine ⟨fun pins s σ H R I h => ?_⟩
  refine Call_ (ld_blt I hg hm boot_enumerate (PyProof.Rows.callWith_type1 (thn (ha.run pos pins s σ H _ I h) fun us s1 ⟨vs, H1, I1, r1, q1⟩ => ?_) hs rfl))
  obtain ⟨kd, a, xs, ex, hq, q⟩ := q1
  subst ex
  cases r1 with
  | cons r rr =>
    cases rr
    cases r
    obtain ⟨its, rv, p', _⟩ := seqB I1 hq
    refine enum_begins1 (begins_B kd a its.toArray) p' fun h' he hit hsz hk => wpAny_pyIter_enum he ?_
    have I2 : Inv X pins σ H1 { s1 with heap := h' } := I1.kept (t' := s1.toks) hk
    refine ⟨s1.heap.objs.size + 1, [s1.heap.objs.size + 1, s1.heap.objs.size], _, _, H1, rfl, I2, turn_enumB kd a (s1.heap.objs.size + 1) s1.heap.objs.size (Nat.succ_ne_self _), ⟨⟨.none, he⟩, iterB_new hit⟩, fun b hb => ?_, q⟩
    have e' : b = s1.heap.objs.size + 1 ∨ b = s1.heap.objs.size := by simpa using hb
    have hle : s1.heap.objs.size ≤ b := by
      rcases e' with z | z
      · rw [z]; exact Nat.le_add_right _ _
      · rw [z]; exact Nat.le_refl _
    exact I1.fpOk hle (I1.hok.fresh hle)

/-! ### zip -/
def ItzB (kd kd2 : Bool) (a b : Addr) : It :=
  ItP (fun i H => ∃ (xs ys : List V) (x y : V), SqB kd H a xs ∧ SqB kd2 H b ys ∧ xs[i]? = some x ∧ ys[i]? = some y) (fun i H x y => (∀ xs, SqB kd H a xs → xs[i]? = some x) ∧ ∀ ys, SqB kd2 H b ys → ys[i]? = some y)
    (fun i H => ∃ xs ys : List V, SqB kd H a xs ∧ SqB kd2 H b ys ∧ min xs.length ys.length = i)
def zipOwn (N : Nat) : List Addr := [N + 4, N + 2, N + 3, N, N + 1]
theorem zipOwn_le {N : Nat} {b : Addr} (h : b ∈ zipOwn N) : N ≤ b := by
  have e' : b = N + 4 ∨ b = N + 2 ∨ b = N + 3 ∨ b = N ∨ b = N + 1 := by simpa [zipOwn] using h
  rcases e' with z | z | z | z | z
  · rw [z]; exact Nat.le_add_right _ _
  · rw [z]; exact Nat.le_add_right _ _
  · rw [z]; exact Nat.le_add_right _ _
  · rw [z]; exact Nat.le_refl _
  · rw [z]; exact Nat.le_add_right _ _
theorem zip_sepB {N : Nat} {a b : Addr} (ha : ∀ c ∈ zipOwn N, a ≠ c) (hb : ∀ c ∈ zipOwn N, b ≠ c) : ZipSep2 (N + 4) (N + 2) (N + 3) N (N + 1) [N, a] [N + 1, b] := by
  have q1 : ∀ k : Nat, (N + 4 : Nat) ≠ N := fun _ => by omega
  refine { TIz := show (N + 2 : Nat) ≠ N + 4 by omega, TOz := show (N + 3 : Nat) ≠ N + 4 by omega, TITO := show (N + 2 : Nat) ≠ N + 3 by omega, TIi1 := show (N + 2 : Nat) ≠ N by omega, mem1 := List.mem_cons_self .., zf1 := ?_, Tf1 := ?_, TIi2 := show (N + 2 : Nat) ≠ N + 1 by omega, mem2 := List.mem_cons_self .., zf2 := ?_, Tf2 := ?_, sep1_2 := ?_, sep2_1 := ?_ }
  all_goals
    intro hm
    rcases List.mem_cons.mp hm with z | z
    · first
        | exact absurd (show (N + 4 : Nat) = N from z) (by omega)
        | exact absurd (show (N + 3 : Nat) = N from z) (by omega)
        | exact absurd (show (N + 4 : Nat) = N + 1 from z) (by omega)
        | exact absurd (show (N + 3 : Nat) = N + 1 from z) (by omega)
        | exact absurd (show (N : Nat) = N + 1 from z) (by omega)
        | exact absurd (show (N + 1 : Nat) = N from z) (by omega)
    · have z := (List.mem_singleton.mp z).symm
      first
        | exact ha _ (by simp [zipOwn]) z
        | exact hb _ (by simp [zipOwn]) z
theorem turn_zipB {P : Program} {w : World} {K : PySem.W.Frag} {elts : List Expr} {kk : Nat} {tpos : Pos} (kd kd2 : Bool) (a b : Addr) (N : Nat) :
    Turn P w K (.Tuple elts kk tpos) (ItzB kd kd2 a b) (zipOwn N) (N + 4) (fun i h => IsZip h (N + 4) (N + 2) (N + 3) .none ∧ IsTupOf2 h (N + 2) (.ref N) (.ref (N + 1)) ∧ (∃ x y, IsTupOf2 h (N + 3) x y) ∧ IterB kd h N a i ∧ IterB kd2 h (N + 1) b i) := by
  refine turn_pairs (by simp [zipOwn]) (fun i h st c hc => ?_) (fun i h h' st k => ?_) (fun X hP hw hK hc i pins s σ H I hf st hg => ?_) (fun X hP hw hK hc i pins s σ H I hf st hg => ?_) fun A i s Q E st h => wpAny_pyIter_zip st.1 h
  · obtain ⟨hz, hTI, ⟨x, y, hTO⟩, h1, h2⟩ := st
    have e' : c = N + 4 ∨ c = N + 2 ∨ c = N + 3 ∨ c = N ∨ c = N + 1 := by simpa [zipOwn] using hc
    rcases e' with q | q | q | q | q
    · rw [q]; exact ⟨_, hz, fun v q => nomatch q⟩
    · rw [q]; exact ⟨_, hTI, fun v q => nomatch q⟩
    · rw [q]; exact ⟨_, hTO, fun v q => nomatch q⟩
    · rw [q]; exact iterB_obj h1
    · rw [q]; exact iterB_obj h2
  · obtain ⟨hz, hTI, ⟨x, y, hTO⟩, h1, h2⟩ := st
    exact ⟨k _ (by simp [zipOwn]) _ hz, k _ (by simp [zipOwn]) _ hTI, ⟨x, y, k _ (by simp [zipOwn]) _ hTO⟩, iterB_at h1 fun o q => k _ (by simp [zipOwn]) o q, iterB_at h2 fun o q => k _ (by simp [zipOwn]) o q⟩
  · subst hP hw hK
    obtain ⟨xs, ys, x, y, hq, hq2, hx, hy⟩ := hg
    obtain ⟨its, rv, p, _⟩ := seqB I hq
    obtain ⟨its2, rv2, p2, _⟩ := seqB I hq2
    have na : ∀ c ∈ zipOwn N, a ≠ c := fun c hc' z => hq.there (z ▸ (hf c hc').1)
    have nb : ∀ c ∈ zipOwn N, b ≠ c := fun c hc' z => hq2.there (z ▸ (hf c hc').1)
    refine ⟨_, _, _, _, _, _, WalksT.zipD2 (zip_sepB na nb) (draws_B kd (show X.A.in1.handled = none from I.ok.hd hc) N a (na N (by simp [zipOwn])) its.toArray) (draws_B kd2 (show X.A.in1.handled = none from I.ok.hd hc) (N + 1) b (nb (N + 1) (by simp [zipOwn])) its2.toArray), ?_, ⟨st.1, st.2.1, st.2.2.1, ⟨st.2.2.2.1, p⟩, ⟨st.2.2.2.2, p2⟩⟩, fun c hc' => ?_, fun h' st' => ⟨st'.1, st'.2.1, st'.2.2.1, st'.2.2.2.1.1, st'.2.2.2.2.1⟩, fun vals hv => ?_⟩
    · have := rv.length
      have := rv2.length
      have := (List.getElem?_eq_some_iff.mp hx).1
      have := (List.getElem?_eq_some_iff.mp hy).1
      simp
      omega
    · have e' : c = N + 4 ∨ c = N + 3 ∨ c = N ∨ c = N + 1 := by simpa using hc'
      rcases e' with q | q | q | q <;> rw [q] <;> simp [zipOwn]
    · obtain ⟨u, u2, hu, hu2, rfl⟩ := hv
      obtain ⟨u', hu', ru⟩ := rv.get hx
      obtain ⟨u2', hu2', ru2⟩ := rv2.get hy
      have e1 : u = u' := by
        have z : its[i]? = some u := by simpa using hu
        rw [hu'] at z
        exact (Option.some.inj z).symm
      have e2 : u2 = u2' := by
        have z : its2[i]? = some u2 := by simpa using hu2
        rw [hu2'] at z
        exact (Option.some.inj z).symm
      subst e1 e2
      exact ⟨_, _, x, y, rfl, ru, ru2, fun l hl => by rw [hq.inj hl]; exact hx, fun l hl => by rw [hq2.inj hl]; exact hy⟩
  · subst hP hw hK
    obtain ⟨xs, ys, hq, hq2, hx⟩ := hg
    obtain ⟨its, rv, p, _⟩ := seqB I hq
    obtain ⟨its2, rv2, p2, _⟩ := seqB I hq2
    have na : ∀ c ∈ zipOwn N, a ≠ c := fun c hc' z => hq.there (z ▸ (hf c hc').1)
    have nb : ∀ c ∈ zipOwn N, b ≠ c := fun c hc' z => hq2.there (z ▸ (hf c hc').1)
    have hn : min its.toArray.size its2.toArray.size = i := by have := rv.length; have := rv2.length; simp; omega
    refine ⟨_, _, _, _, _, _, WalksT.zipD2 (zip_sepB na nb) (draws_B kd (show X.A.in1.handled = none from I.ok.hd hc) N a (na N (by simp [zipOwn])) its.toArray) (draws_B kd2 (show X.A.in1.handled = none from I.ok.hd hc) (N + 1) b (nb (N + 1) (by simp [zipOwn])) its2.toArray), ?_, fun c hc' => ?_⟩
    · rw [hn]
      exact ⟨st.1, st.2.1, st.2.2.1, ⟨st.2.2.2.1, p⟩, ⟨st.2.2.2.2, p2⟩⟩
    · have e' : c = N + 4 ∨ c = N + 3 ∨ c = N ∨ c = N + 1 := by simpa using hc'
      rcases e' with q | q | q | q <;> rw [q] <;> simp [zipOwn]
def iZipB (ta : TA) : TI := fun σ H R => ta σ H fun vs H1 => ∃ kd kd2 a b xs ys, vs = [.ref a, .ref b] ∧ SqB kd H1 a xs ∧ SqB kd2 H1 b ys ∧ R (ItzB kd kd2 a b) H1
theorem pi_zipB {X : Cx} {e e2 : Expr} {ta : TA} {p pos tpos : Pos} {elts : List Expr} {kk : Nat} (hm : X.mg "zip" = none) (ha : PA X [e, e2] ta) (hg : Gl X "zip" := by rfl)
    (hs : starEach [e, e2] X.env = (false, eval e X.env) :: starEach [e2] X.env := by rfl) (hpl : (backTo pos (starEach [e2] X.env)).any (·.1) = false := by rfl) :
    PI X (.Tuple elts kk tpos) (.Call (.Name "zip" p) [e, e2] [] pos) (iZipB ta) := by
  refine ⟨fun pins s σ H R I h => ?_⟩
  refine Call_ (ld_blt I hg hm PyProof.Rows.boot_zip (PyProof.Rows.callWith_type1 (thn (ha.run pos pins s σ H _ I h) fun us s1 ⟨vs, H1, I1, r1, q1⟩ => ?_) hs hpl))
  obtain ⟨kd, kd2, a, b, xs, ys, ex, hq, hq2, q⟩ := q1
  subst ex
  cases r1 with
  | cons r rr =>
    cases rr with
    | cons r' rr =>
      cases rr
      cases r
      cases r'
      obtain ⟨its, rv, p', _⟩ := seqB I1 hq
      obtain ⟨its2, rv2, p2', _⟩ := seqB I1 hq2
      refine zip_begins2 (begins_B kd a its.toArray) (begins_B kd2 b its2.toArray) p' p2' fun h' hz hTI hTO h1 h2 hsz hk => wpAny_pyIter_zip hz ?_
      have I2 : Inv X pins σ H1 { s1 with heap := h' } := I1.kept (t' := s1.toks) hk
      exact ⟨s1.heap.objs.size + 4, zipOwn s1.heap.objs.size, _, _, H1, rfl, I2, turn_zipB kd kd2 a b s1.heap.objs.size, ⟨hz, hTI, ⟨_, _, hTO⟩, iterB_new h1, iterB_new h2⟩, fun c hc => I1.fpOk (zipOwn_le hc) (I1.hok.fresh (zipOwn_le hc)), q⟩
end Fl
end

section
set_option Elab.async false
set_option linter.all false
set_option autoImplicit false
set_option maxRecDepth 100000
set_option maxHeartbeats 2000000
namespace Fl
open PySem PySem.Spec PyProof.Rows L2

/-! ### what is walked -/
def WkD (T : Tab) (J : It) (ds : List D) (G : Hp) : Prop := ∃ Y, Walk J ds.length (fun H => Ex G H) Y ∧ ∀ i H x H' G1, Ex G G1 → Ex G1 H → Y i H x H' → ∃ d G2, ds[i]? = some d ∧ Stp H G1 H' G2 ∧ Rep T G2 d x
def tIt (T : Tab) (pu : Bool) (f : FA) : TI := fun σ H R => ∃ C ρ G ds ρ', Sta T C ρ σ H G ∧ f ρ = some (ds, ρ') ∧ ∀ J H1 G1, Nxt T C ρ' σ pu H G H1 G1 → WkD T J ds G1 → R J H1
structure PIf (X : Cx) (T : Tab) (pu : Bool) (tg iter : Expr) (f : FA) : Prop where
  pi : PI X tg iter (tIt T pu f)
  same : Same1 pu f
theorem _root_.L2.PI.imp {X : Cx} {tg iter : Expr} {t t' : TI} (h : PI X tg iter t) (k : ∀ σ H R, t' σ H R → t σ H R) : PI X tg iter t' := ⟨fun pins s σ H R I q => h.run pins s σ H R I (k σ H R q)⟩
theorem _root_.L2.PG.imp {X : Cx} {tg : Expr} {t t' : TG} (h : PG X tg t) (k : ∀ v σ H Q, t' v σ H Q → t v σ H Q) : PG X tg t' := ⟨fun pins s σ H v u Q I r q => h.run pins s σ H v u Q I r (k v σ H Q q)⟩
theorem _root_.L2.PGs.imp {X : Cx} {tg : List Expr} {t t' : TGs} (h : PGs X tg t) (k : ∀ v σ H Q, t' v σ H Q → t v σ H Q) : PGs X tg t' := ⟨fun pins s σ H v u Q I r q => h.run pins s σ H v u Q I r (k v σ H Q q)⟩
/-- a list or a tuple -/
def iSeq (tl : TE) : TI := fun σ H R => tl σ H fun x H1 => ∃ a xs, x = .ref a ∧ ((SqB true H1 a xs ∧ ∀ K, R (Itl K a) H1) ∨ (SqB false H1 a xs ∧ ∀ K, R (Itt K a) H1))
theorem pi_seq {X : Cx} {tg l : Expr} {tl : TE} (hl : PE X l tl) : PI X tg l (iSeq tl) := by
  refine ⟨fun pins s σ H R I h => ?_⟩
  refine thn (hl.run pins s σ H _ I h) fun v s1 ⟨x, H1, I1, r1, q1⟩ => ?_
  obtain ⟨a, xs, e, q1⟩ := q1
  subst e
  cases r1
  rcases q1 with ⟨hq, q⟩ | ⟨hq, q⟩
  · obtain ⟨its, rv, p, hz⟩ := I1.list (show SqL X.K H1 a xs from .inl hq)
    refine wpAny_pyIter_list p.isList ?_
    refine ⟨s1.heap.objs.size, [s1.heap.objs.size], _, _, H1, rfl, I1.kept (t' := s1.toks) fun b o e => Heap.get?_push_of_some _ e, turn_list a _, ⟨_, Heap.get?_push_size _ rfl, rfl, rfl⟩, fun b hb => ?_, q X.K⟩
    have e : b = s1.heap.objs.size := by simpa using hb
    subst e
    exact I1.fpOk (Nat.le_refl _) (I1.hok.fresh (Nat.le_refl _))
  · obtain ⟨its, rv, p, hz⟩ := I1.tuple (show SqT X.K H1 a xs from .inl hq)
    refine wpAny_pyIter_tuple (show s1.heap.IsTuple a its.toArray from p) ?_
    refine ⟨s1.heap.objs.size, [s1.heap.objs.size], _, _, H1, rfl, I1.kept (t' := s1.toks) fun b o e => Heap.get?_push_of_some _ e, turn_tuple a _, ⟨_, Heap.get?_push_size _ rfl, rfl, rfl⟩, fun b hb => ?_, q X.K⟩
    have e : b = s1.heap.objs.size := by simpa using hb
    subst e
    exact I1.fpOk (Nat.le_refl _) (I1.hok.fresh (Nat.le_refl _))
@[simp] def dSeq : D → Option (List D)
  | .lst l => some l
  | .tup l => some l
  | .tp l => some l
  | _ => none
theorem seq_rep {T : Tab} {G : Hp} {d : D} {l : List D} {v : V} (h : dSeq d = some l) (r : Rep T G d v) : ∃ kd a xs, v = .ref a ∧ SqB kd G a xs ∧ Reps T G l xs := by
  cases r with
  | lst h1 r1 => cases h; exact ⟨true, _, _, rfl, .inl h1, r1⟩
  | tup h1 r1 => cases h; exact ⟨false, _, _, rfl, .inl h1, r1⟩
  | tp h1 _ r1 => cases h; exact ⟨false, _, _, rfl, .inr ⟨_, h1⟩, r1⟩
  | _ => cases h
section
variable {X : Cx} {T : Tab} {pu pa pb : Bool} {tg e a b : Expr} {f fa : FE} {fs : FA} {p pos tpos : Pos}
theorem wk_list {K : PySem.W.Frag} {G : Hp} {a : Addr} {xs : List V} {l : List D} (q : SqB true G a xs) (r : Reps T G l xs) : WkD T (Itl K a) l G := by
  refine ⟨YAt xs, ?_, fun i H x H' G1 e1 e2 y => ?_⟩
  · rw [r.length]
    exact walk_list.mono (fun H e => .inl (e.rd q)) fun _ _ _ _ _ _ y => y
  · obtain ⟨rfl, y⟩ := y
    obtain ⟨d, hd, rd⟩ := r.get' y
    exact ⟨d, G1, hd, Stp.refl e2, rd.mono e1⟩
theorem wk_tup {K : PySem.W.Frag} {G : Hp} {a : Addr} {xs : List V} {l : List D} (q : SqB false G a xs) (r : Reps T G l xs) : WkD T (Itt K a) l G := by
  refine ⟨YAt xs, ?_, fun i H x H' G1 e1 e2 y => ?_⟩
  · rw [r.length]
    exact walk_tup.mono (fun H e => .inl (e.rd q)) fun _ _ _ _ _ _ y => y
  · obtain ⟨rfl, y⟩ := y
    obtain ⟨d, hd, rd⟩ := r.get' y
    exact ⟨d, G1, hd, Stp.refl e2, rd.mono e1⟩
theorem un_same {α : Type} {g : D → Option α} (h : Same1 pa fa) : Same1 pa (fUn g fa) := fun hp ρ z ρ' hh => by
  obtain ⟨⟨dx, ρ1⟩, e1, hh⟩ := Option.bind_eq_some_iff.mp hh
  obtain ⟨z', e3, hh⟩ := Option.map_eq_some_iff.mp hh
  cases hh
  exact h hp _ _ _ e1
theorem pif_seq (h : PEf X T pa e fa) : PIf X T pa tg e (fUn dSeq fa) where
  pi := (pi_seq h.pe).imp fun σ H R ⟨C, ρ, G, ds, ρ', S, hh, k⟩ => by
    obtain ⟨⟨dx, ρ1⟩, e1, hh⟩ := Option.bind_eq_some_iff.mp hh
    obtain ⟨z', e3, hh⟩ := Option.map_eq_some_iff.mp hh
    cases hh
    refine ⟨C, ρ, G, dx, ρ1, S, e1, fun x H1 G1 n1 r1 => ?_⟩
    obtain ⟨kd, a, xs, rfl, q, rr⟩ := seq_rep e3 r1
    refine ⟨a, xs, rfl, ?_⟩
    cases kd with
    | true => exact .inl ⟨q.mono n1.st.gh, fun K => k _ _ _ n1 (wk_list q rr)⟩
    | false => exact .inr ⟨q.mono n1.st.gh, fun K => k _ _ _ n1 (wk_tup q rr)⟩
  same := un_same h.same
def small (i : Int) : Bool := decide (-1000000000000000000 ≤ i ∧ i < 1000000000000000000)
theorem small_lt {i : Int} (h : small i = true) : -(2 ^ 62) ≤ i ∧ i < 2 ^ 62 := by
  have h := of_decide_eq_true h
  omega
def rngL (lo : Int) (n : Nat) : List D := (List.range n).map fun i => .int (lo + (i : Nat))
@[simp] def dRng1 : List D → Option (List D)
  | [.int j] => if small j then some (rngL 0 j.toNat) else none
  | _ => none
@[simp] def dRng2 : List D → Option (List D)
  | [.int i, .int j] => if small i && small j then some (rngL i (j - i).toNat) else none
  | _ => none
theorem dRng1_inv {l r : List D} (h : dRng1 l = some r) : ∃ j, l = [.int j] ∧ small j = true ∧ r = rngL 0 j.toNat := by
  unfold dRng1 at h
  split at h
  · split at h
    · rename_i hj; cases h; exact ⟨_, rfl, hj, rfl⟩
    · cases h
  · cases h
theorem dRng2_inv {l r : List D} (h : dRng2 l = some r) : ∃ i j, l = [.int i, .int j] ∧ (small i = true ∧ small j = true) ∧ r = rngL i (j - i).toNat := by
  unfold dRng2 at h
  split at h
  · split at h
    · rename_i hj; cases h; exact ⟨_, _, rfl, by simpa using hj, rfl⟩
    · cases h
  · cases h
theorem rngL_get {lo : Int} {n i : Nat} (h : i < n) : (rngL lo n)[i]? = some (.int (lo + (i : Nat))) := by
  unfold rngL
  rw [List.getElem?_map, List.getElem?_range h]
  rfl
theorem rngL_len {lo : Int} {n : Nat} : (rngL lo n).length = n := by simp [rngL]
theorem wk_rng {lo : Int} {n : Nat} {G : Hp} : WkD T (Itr lo n) (rngL lo n) G := by
  refine ⟨fun i H x H' => i < n ∧ H' = H ∧ x = .int (lo + (i : Nat)), ?_, fun i H x H' G1 e1 e2 y => ?_⟩
  · rw [rngL_len]
    exact walk_range.mono (fun _ _ => True.intro) fun _ _ _ _ hi _ y => ⟨hi, y⟩
  · obtain ⟨hi, rfl, rfl⟩ := y
    exact ⟨_, G1, rngL_get hi, Stp.refl e2, .int _⟩
theorem pif_range1 (hm : X.mg "range" = none) (h : PAf X T pa [a] fs) (hg : Gl X "range" := by rfl) (hs : starEach [a] X.env = [(false, eval a X.env)] := by rfl) : PIf X T pa tg (.Call (.Name "range" p) [a] [] pos) (fArgs dRng1 fs) where
  pi := (pi_range1 hg hm h.pa hs).imp fun σ H R ⟨C, ρ, G, ds, ρ', S, hh, k⟩ => by
    obtain ⟨⟨dx, ρ1⟩, e1, hh⟩ := Option.bind_eq_some_iff.mp hh
    obtain ⟨z', e3, hh⟩ := Option.map_eq_some_iff.mp hh
    cases hh
    refine ⟨C, ρ, G, dx, ρ1, S, e1, fun xs H1 G1 n1 r1 => ?_⟩
    obtain ⟨j, rfl, hj, rfl⟩ := dRng1_inv e3
    cases r1 with
    | cons r rr =>
      cases rr
      cases r
      have := small_lt hj
      exact ⟨j, rfl, this.1, this.2, k _ _ _ n1 wk_rng⟩
  same := args_same h.same
theorem pif_range2 (hm : X.mg "range" = none) (h : PAf X T pa [a, b] fs) (hg : Gl X "range" := by rfl) (hs : starEach [a, b] X.env = [(false, eval a X.env), (false, eval b X.env)] := by rfl) (hs2 : starEach [b] X.env = [(false, eval b X.env)] := by rfl) :
    PIf X T pa tg (.Call (.Name "range" p) [a, b] [] pos) (fArgs dRng2 fs) where
  pi := (pi_range2 hg hm h.pa hs hs2).imp fun σ H R ⟨C, ρ, G, ds, ρ', S, hh, k⟩ => by
    obtain ⟨⟨dx, ρ1⟩, e1, hh⟩ := Option.bind_eq_some_iff.mp hh
    obtain ⟨z', e3, hh⟩ := Option.map_eq_some_iff.mp hh
    cases hh
    refine ⟨C, ρ, G, dx, ρ1, S, e1, fun xs H1 G1 n1 r1 => ?_⟩
    obtain ⟨i, j, rfl, hj, rfl⟩ := dRng2_inv e3
    cases r1 with
    | cons r rr =>
      cases rr with
      | cons r' rr =>
        cases rr
        cases r
        cases r'
        have q1 := small_lt hj.1
        have q2 := small_lt hj.2
        exact ⟨i, j, rfl, ⟨q1.1, q1.2, q2.1, q2.2⟩, k _ _ _ n1 wk_rng⟩
  same := args_same h.same
def enumL : Nat → List D → List D
  | _, [] => []
  | n, d :: ds => .tup [.int (n : Nat), d] :: enumL (n + 1) ds
theorem enumL_len : ∀ (l : List D) (n : Nat), (enumL n l).length = l.length
  | [], _ => rfl
  | _ :: l, n => by simp [enumL, enumL_len l]
theorem enumL_get : ∀ (l : List D) (n i : Nat) (d : D), l[i]? = some d → (enumL n l)[i]? = some (.tup [.int ((n + i : Nat) : Int), d])
  | [], _, _, _, h => by simp at h
  | d :: l, n, 0, _, h => by simp at h; subst h; rfl
  | d :: l, n, i + 1, e, h => by
    have := enumL_get l (n + 1) i e (by simpa using h)
    rw [show n + 1 + i = n + (i + 1) by omega] at this
    simpa [enumL] using this
@[simp] def dEnum : List D → Option (List D)
  | [d] => (dSeq d).map (enumL 0)
  | _ => none
theorem wk_enum {kd : Bool} {G : Hp} {a : Addr} {xs : List V} {l : List D} (q : SqB kd G a xs) (r : Reps T G l xs) : WkD T (IteB kd a) (enumL 0 l) G := by
  refine ⟨fun i H v H' => ∃ T x, v = .ref T ∧ H T = none ∧ H' = upd H T (.tup [.int (i : Nat), x]) ∧ xs[i]? = some x, ?_, fun i H x H' G1 e1 e2 y => ?_⟩
  · rw [enumL_len, r.length]
    refine ⟨fun i H hi e => ⟨xs, xs[i], q.mono e, by simp [hi]⟩, fun H e => ⟨xs, q.mono e, rfl⟩, fun i H x H' hi e y => ?_⟩
    obtain ⟨T, x, y, h1, h2, h3, rfl, h5⟩ := y
    exact ⟨T, y, h1, h2, h3, h5 xs (q.mono e)⟩
  · obtain ⟨p, x, rfl, hp, rfl, hx⟩ := y
    obtain ⟨d, hd, rd⟩ := r.get' hx
    refine ⟨.tup [.int (i : Nat), d], upd G1 p (.tup [.int (i : Nat), x]), ?_, Stp.new e2 hp, .tup upd_same (.cons (.int _) (.cons ((rd.mono e1).mono (Ex.new (e2.free hp))) .nil))⟩
    have := enumL_get l 0 i d hd
    rw [Nat.zero_add] at this
    exact this
theorem pif_enum {elts : List Expr} {kk : Nat} (hm : X.mg "enumerate" = none) (h : PAf X T pa [a] fs) (hg : Gl X "enumerate" := by rfl) (hs : starEach [a] X.env = [(false, eval a X.env)] := by rfl) : PIf X T pa (.Tuple elts kk tpos) (.Call (.Name "enumerate" p) [a] [] pos) (fArgs dEnum fs) where
  pi := (pi_enumB hm h.pa hg hs).imp fun σ H R ⟨C, ρ, G, ds, ρ', S, hh, k⟩ => by
    obtain ⟨⟨dx, ρ1⟩, e1, hh⟩ := Option.bind_eq_some_iff.mp hh
    obtain ⟨z', e3, hh⟩ := Option.map_eq_some_iff.mp hh
    cases hh
    refine ⟨C, ρ, G, dx, ρ1, S, e1, fun xs H1 G1 n1 r1 => ?_⟩
    have e3 : dEnum dx = some _ := e3
    unfold dEnum at e3
    split at e3
    · rename_i d
      obtain ⟨l, el, e3⟩ := Option.map_eq_some_iff.mp e3
      subst e3
      cases r1 with
      | cons r rr =>
        cases rr
        obtain ⟨kd, a, xs, rfl, q, rr⟩ := seq_rep el r
        exact ⟨kd, a, xs, rfl, q.mono n1.st.gh, k _ _ _ n1 (wk_enum q rr)⟩
    · cases e3
  same := args_same h.same
def zipL : List D → List D → List D
  | d :: ds, e :: es => .tup [d, e] :: zipL ds es
  | _, _ => []
theorem zipL_len : ∀ (l m : List D), (zipL l m).length = min l.length m.length
  | [], _ => by simp [zipL]
  | _ :: _, [] => by simp [zipL]
  | _ :: l, _ :: m => by simp [zipL, zipL_len l m]
theorem zipL_get : ∀ (l m : List D) (i : Nat) (d e : D), l[i]? = some d → m[i]? = some e → (zipL l m)[i]? = some (.tup [d, e])
  | [], _, _, _, _, h, _ => by simp at h
  | _ :: _, [], _, _, _, _, h => by simp at h
  | _ :: _, _ :: _, 0, _, _, h, h' => by simp at h h'; subst h h'; rfl
  | _ :: l, _ :: m, i + 1, d, e, h, h' => by simpa [zipL] using zipL_get l m i d e (by simpa using h) (by simpa using h')
@[simp] def dZip : List D → Option (List D)
  | [d, e] => (dSeq d).bind fun l => (dSeq e).map (zipL l)
  | _ => none
theorem wk_zip {kd kd2 : Bool} {G : Hp} {a b : Addr} {xs ys : List V} {l m : List D} (q : SqB kd G a xs) (r : Reps T G l xs) (q2 : SqB kd2 G b ys) (r2 : Reps T G m ys) : WkD T (ItzB kd kd2 a b) (zipL l m) G := by
  refine ⟨fun i H v H' => ∃ T x y, v = .ref T ∧ H T = none ∧ H' = upd H T (.tup [x, y]) ∧ xs[i]? = some x ∧ ys[i]? = some y, ?_, fun i H x H' G1 e1 e2 y => ?_⟩
  · rw [zipL_len, r.length, r2.length]
    refine ⟨fun i H hi e => ⟨xs, ys, xs[i]'(by omega), ys[i]'(by omega), q.mono e, q2.mono e, by simp [show i < xs.length by omega], by simp [show i < ys.length by omega]⟩, fun H e => ⟨xs, ys, q.mono e, q2.mono e, rfl⟩, fun i H x H' hi e y => ?_⟩
    obtain ⟨T, x, y, h1, h2, h3, h4, h5⟩ := y
    exact ⟨T, x, y, h1, h2, h3, h4 xs (q.mono e), h5 ys (q2.mono e)⟩
  · obtain ⟨p, x, y, rfl, hp, rfl, hx, hy⟩ := y
    obtain ⟨d, hd, rd⟩ := r.get' hx
    obtain ⟨d2, hd2, rd2⟩ := r2.get' hy
    have eg := Ex.new (o := .tup [x, y]) (e2.free hp)
    exact ⟨.tup [d, d2], upd G1 p (.tup [x, y]), zipL_get l m i d d2 hd hd2, Stp.new e2 hp, .tup upd_same (.cons ((rd.mono e1).mono eg) (.cons ((rd2.mono e1).mono eg) .nil))⟩
theorem pif_zip {elts : List Expr} {kk : Nat} (hm : X.mg "zip" = none) (h : PAf X T pa [a, b] fs) (hg : Gl X "zip" := by rfl) (hs : starEach [a, b] X.env = (false, eval a X.env) :: starEach [b] X.env := by rfl) (hpl : (backTo pos (starEach [b] X.env)).any (·.1) = false := by rfl) :
    PIf X T pa (.Tuple elts kk tpos) (.Call (.Name "zip" p) [a, b] [] pos) (fArgs dZip fs) where
  pi := (pi_zipB hm h.pa hg hs hpl).imp fun σ H R ⟨C, ρ, G, ds, ρ', S, hh, k⟩ => by
    obtain ⟨⟨dx, ρ1⟩, e1, hh⟩ := Option.bind_eq_some_iff.mp hh
    obtain ⟨z', e3, hh⟩ := Option.map_eq_some_iff.mp hh
    cases hh
    refine ⟨C, ρ, G, dx, ρ1, S, e1, fun xs H1 G1 n1 r1 => ?_⟩
    have e3 : dZip dx = some _ := e3
    unfold dZip at e3
    split at e3
    · rename_i d d2
      obtain ⟨l, el, e3⟩ := Option.bind_eq_some_iff.mp e3
      obtain ⟨m, em, e3⟩ := Option.map_eq_some_iff.mp e3
      subst e3
      cases r1 with
      | cons r rr =>
        cases rr with
        | cons r' rr =>
          cases rr
          obtain ⟨kd, a, xs, rfl, q, rr⟩ := seq_rep el r
          obtain ⟨kd2, b, ys, rfl, q2, rr2⟩ := seq_rep em r'
          exact ⟨kd, kd2, a, b, xs, ys, rfl, q.mono n1.st.gh, q2.mono n1.st.gh, k _ _ _ n1 (wk_zip q rr q2 rr2)⟩
    · cases e3
  same := args_same h.same
end

/-! ### targets -/
abbrev FG := D → Fenv → Option Fenv
abbrev FGs := List D → Fenv → Option Fenv
def tG (T : Tab) (js : List Nat) (g : FG) : TG := fun v σ H Q => ∃ C ρ G d ρ', Sta T C ρ σ H G ∧ Rep T G d v ∧ g d ρ = some ρ' ∧ ∀ σ', Sta T C ρ' σ' H G → σ'.length = σ.length → (∀ k, k ∉ js → σ'[k]? = σ[k]?) → Q σ' H
def tGs (T : Tab) (js : List Nat) (g : FGs) : TGs := fun v σ H Q => ∃ C ρ G d ρ', Sta T C ρ σ H G ∧ Reps T G d v ∧ g d ρ = some ρ' ∧ ∀ σ', Sta T C ρ' σ' H G → σ'.length = σ.length → (∀ k, k ∉ js → σ'[k]? = σ[k]?) → Q σ' H
def Keeps {α : Type} (js : List Nat) (g : α → Fenv → Option Fenv) : Prop := ∀ d ρ ρ', g d ρ = some ρ' → ρ'.length = ρ.length ∧ ∀ k, k ∉ js → ρ'[k]? = ρ[k]?
structure PGf (X : Cx) (T : Tab) (tg : Expr) (js : List Nat) (g : FG) : Prop where
  pg : PG X tg (tG T js g)
  keep : Keeps js g
structure PGsf (X : Cx) (T : Tab) (tg : List Expr) (js : List Nat) (g : FGs) : Prop where
  pg : PGs X tg (tGs T js g)
  keep : Keeps js g
@[simp] def gNm (i : Nat) : FG := fun d ρ => some (ρ.set i (some (.sh d)))
@[simp] def gNl : FGs := fun ds ρ => match ds with
  | [] => some ρ
  | _ => none
@[simp] def gCn (g : FG) (u : FGs) : FGs := fun ds ρ => match ds with
  | d :: r => (g d ρ).bind fun ρ1 => u r ρ1
  | _ => none
@[simp] def gTp (n : Nat) (u : FGs) : FG := fun d ρ => match d with
  | .tup l => if l.length = n then u l ρ else none
  | _ => none
section
variable {X : Cx} {T : Tab} {pu pa pb pc : Bool} {tg iter e : Expr} {es : List Expr} {f fa : FE} {js ks : List Nat} {g : FG} {gs : FGs} {h : FS} {sts : List Stmt} {fi : FA} {pos tpos : Pos}
theorem pgf_name {i : Nat} {x : Str} (hN : X.N.Nodup) (hi : X.N[i]? = some x := by rfl) (hx : Loc X.env.scope x := by first | exact Or.inl rfl | exact Or.inr rfl) (hf : X.fn x = true ∨ X.env.scope.names.lookup x = some .local := by first | exact .inl rfl | exact .inr rfl | assumption) : PGf X T (.Name x pos) [i] (gNm i) where
  pg := (pg_name hN hi hx hf).imp fun v σ H Q ⟨C, ρ, G, d, ρ', S, r, e, k⟩ => by
    cases e
    exact k _ (S.assignSh r) (by simp) fun j hj => List.getElem?_set_ne (by intro z; exact hj (by simp [z]))
  keep := fun d ρ ρ' e => by
    cases e
    exact ⟨by simp, fun j hj => List.getElem?_set_ne (by intro z; exact hj (by simp [z]))⟩
theorem pgsf_nil : PGsf X T [] [] gNl where
  pg := pgs_nil.imp fun v σ H Q ⟨C, ρ, G, d, ρ', S, r, e, k⟩ => by
    cases d with
    | nil => cases e; cases r; exact ⟨rfl, k σ S rfl fun _ _ => rfl⟩
    | cons _ _ => cases e
  keep := fun d ρ ρ' e => by
    cases d with
    | nil => cases e; exact ⟨rfl, fun _ _ => rfl⟩
    | cons _ _ => cases e
theorem pgsf_cons (h1 : PGf X T e js g) (h2 : PGsf X T es ks gs) (hs : (assignEach (e :: es) X.env).map (·.2) = assign e X.env :: (assignEach es X.env).map (·.2) := by rfl) : PGsf X T (e :: es) (js ++ ks) (gCn g gs) where
  pg := (pgs_cons h1.pg h2.pg hs).imp fun v σ H Q ⟨C, ρ, G, d, ρ', S, r, e, k⟩ => by
    cases d with
    | nil => cases e
    | cons d ds =>
      cases r with
      | cons r rr =>
        obtain ⟨ρ1, e1, e⟩ := Option.bind_eq_some_iff.mp e
        refine ⟨_, _, rfl, C, ρ, G, d, ρ1, S, r, e1, fun σ1 S1 l1 k1 => ⟨C, ρ1, G, ds, ρ', S1, rr, e, fun σ2 S2 l2 k2 => k σ2 S2 (l2.trans l1) fun j hj => ?_⟩⟩
        rw [k2 j fun z => hj (by simp [z]), k1 j fun z => hj (by simp [z])]
  keep := fun d ρ ρ' e => by
    cases d with
    | nil => cases e
    | cons d ds =>
      obtain ⟨ρ1, e1, e⟩ := Option.bind_eq_some_iff.mp e
      have q1 := h1.keep _ _ _ e1
      have q2 := h2.keep _ _ _ e
      exact ⟨q2.1.trans q1.1, fun j hj => by rw [q2.2 j fun z => hj (by simp [z]), q1.2 j fun z => hj (by simp [z])]⟩
theorem pgf_tup {k n : Nat} (hc : X.calm = true) (h : PGsf X T es js gs) (hn : (assignEach es X.env).length = n := by rfl) (hst : (assignEach es X.env).findIdx? (·.1) = none := by rfl) : PGf X T (.Tuple es k pos) js (gTp n gs) where
  pg := (pg_tup hc h.pg hn hst).imp fun v σ H Q ⟨C, ρ, G, d, ρ', S, r, e, k⟩ => by
    cases r with
    | tup hg rr =>
      simp only [gTp] at e
      split at e
      · rename_i hl
        exact ⟨_, _, rfl, .inl (.inl (S.gh _ _ hg)), by rw [← rr.length]; exact hl, C, ρ, G, _, ρ', S, rr, e, k⟩
      · cases e
    | _ => cases e
  keep := fun d ρ ρ' e => by
    cases d with
    | tup l =>
      simp only [gTp] at e
      split at e
      · exact h.keep _ _ _ e
      · cases e
    | _ => cases e
/-- targets = e -/
@[simp] def fTo (g : FG) (f : FE) : FS := fun ρ => (f ρ).bind fun x => (g x.1 x.2).bind fun ρ' => some (.nx ρ')
theorem psf_to {ps : PS X (.Assign [tg] e pos) (tAsg (tD T pu f) (tG T js g))} : PSf X T (.Assign [tg] e pos) (fTo g f) := ⟨ps.imp fun D σ H ⟨C, ρ, G, out, S, hh, k⟩ => by
  obtain ⟨⟨d, ρ1⟩, e1, hh⟩ := Option.bind_eq_some_iff.mp hh
  obtain ⟨ρ2, e2, hh⟩ := Option.bind_eq_some_iff.mp hh
  cases hh
  exact ⟨C, ρ, G, d, ρ1, S, e1, fun v H1 G1 n1 r1 => ⟨C, ρ1, G1, d, ρ2, n1.st, r1, e2, fun σ' S' _ _ => k σ' H1 G1 S' n1.ex⟩⟩⟩

/-! ### for -/
def forL (g : FG) (b : FS) : List D → FS
  | [], ρ => some (.nx ρ)
  | d :: ds, ρ => (g d ρ).bind fun ρ1 => (b ρ1).bind fun o => match o with
    | .nx ρ' => forL g b ds ρ'
    | .ct ρ' => forL g b ds ρ'
    | .bk ρ' => some (.nx ρ')
    | .rt s ρ' => some (.rt s ρ')
@[simp] def fFor (it : FA) (g : FG) (b : FS) : FS := fun ρ => (it ρ).bind fun x => forL g b x.1 x.2
theorem psf_for (hp : PassesOwn (model X.prog X.w) X.A X.env X.xe) (hc : X.calm = true) (hi : PIf X T pa tg iter fi) (hg : PGf X T tg js g) (hb : PSsf X T sts h)
    (hs : ∀ x, foldedSetIterable iter X.env x = pure x := by intro _; rfl) : PSf X T (.For tg iter sts [] pos) (fFor fi g h) := ⟨(ps_for hp hc hi.pi hg.pg hb.ps hs).imp fun D σ H ⟨C, ρ, G, out, S, hh, k⟩ => by
  obtain ⟨⟨ds, ρ1⟩, e1, hh⟩ := Option.bind_eq_some_iff.mp hh
  refine ⟨C, ρ, G, ds, ρ1, S, e1, fun J H1 G1 n1 ⟨Y, W, wy⟩ => ⟨fun i m σ' H' => m = ds.length - i ∧ i ≤ ds.length ∧ ∃ ρ' G', Sta T C ρ' σ' H' G' ∧ Ex G1 G' ∧ forL g h (ds.drop i) ρ' = some out, ⟨_, rfl, Nat.zero_le _, ρ1, G1, n1.st, Ex.refl G1, by simpa using hh⟩, ?_⟩⟩
  rintro i m σ1 H2 ⟨rfl, hi, ρ2, G2, S2, x2, h2⟩
  by_cases hlt : i < ds.length
  · refine .inr ⟨W.goes i H2 hlt (x2.trans S2.gh), fun σ' H' => ∃ ρ' G', Sta T C ρ' σ' H' G' ∧ Ex G1 G' ∧ forL g h (ds.drop (i + 1)) ρ' = some out, fun σ' H' q => ⟨ds.length - (i + 1), by omega, rfl, hlt, q⟩, fun x H' y => ?_⟩
    have yy := W.yields i H2 x H' hlt (x2.trans S2.gh) y
    obtain ⟨d, G3, hd, st, rd⟩ := wy i H2 x H' G2 x2 S2.gh yy
    rw [List.drop_eq_getElem_cons hlt] at h2
    have hd' : ds[i] = d := by simpa [hlt] using hd
    rw [hd'] at h2
    obtain ⟨ρ3, e3, h2⟩ := Option.bind_eq_some_iff.mp h2
    obtain ⟨o, e4, h2⟩ := Option.bind_eq_some_iff.mp h2
    refine ⟨C, ρ2, G3, d, ρ3, S2.stp st, rd, e3, fun σ' S' _ _ => ⟨C, ρ3, G3, o, S', e4, ?_⟩⟩
    have x3 := x2.trans st.gg
    cases o with
    | nx ρ' => exact fun σ' H' G' S' e' => ⟨ρ', G', S', x3.trans e', h2⟩
    | ct ρ' => exact fun σ' H' G' S' e' => ⟨ρ', G', S', x3.trans e', h2⟩
    | bk ρ' => cases h2; exact fun σ' H' G' S' e' => k σ' H' G' S' (n1.ex.trans (x3.trans e'))
    | rt s ρ' => cases h2; cases s <;> exact k.mono (n1.ex.trans x3)
  · have e : i = ds.length := by omega
    subst e
    rw [List.drop_length] at h2
    cases h2
    exact .inl ⟨W.stops H2 (x2.trans S2.gh), k σ1 H2 G2 S2 (n1.ex.trans x2)⟩⟩
end
end Fl
end

section
set_option Elab.async false
set_option linter.all false
set_option autoImplicit false
set_option maxRecDepth 100000
set_option maxHeartbeats 2000000
namespace Fl
open PySem PySem.Spec PyProof.Rows L2

/-! ### list comprehensions -/
structure PTsf (X : Cx) (T : Tab) (pu : Bool) (ifs : List Expr) (f : FT) : Prop where
  pt : PTs X ifs (tBl T pu f)
  same : Same1 pu f
theorem _root_.L2.PTs.imp {X : Cx} {e : List Expr} {t t' : TT} (h : PTs X e t) (k : ∀ σ H Q, t' σ H Q → t σ H Q) : PTs X e t' := ⟨fun pins s σ H Q I q => h.run pins s σ H Q I (k σ H Q q)⟩
@[simp] def fYes : FT := fun ρ => some (true, ρ)
theorem ptsf_nil {X : Cx} {T : Tab} : PTsf X T true [] fYes where
  pt := pts_nil.imp fun σ H Q ⟨C, ρ, G, b, ρ', S, h, k⟩ => by cases h; exact k H G (Nxt.refl S)
  same := fun _ ρ d ρ' h => by cases h; rfl
theorem ptsf_one {X : Cx} {T : Tab} {pu : Bool} {c : Expr} {f : FT} (h : PTf X T pu c f) : PTsf X T pu [c] f := ⟨pts_one h.pt, h.same⟩

def wipeF (ρ : Fenv) : List Nat → Fenv
  | [] => ρ
  | v :: vs => (wipeF ρ vs).set v none
def backF (ρ ρ3 : Fenv) : List Nat → Fenv
  | [] => ρ3
  | v :: vs => (backF ρ ρ3 vs).set v (ρ[v]?.getD none)
def noOwn1 : Option (Option Slot) → Bool
  | some (some (.own _ _)) => false
  | _ => true
def noOwn (ρ : Fenv) (vs : List Nat) : Bool := vs.all fun v => noOwn1 ρ[v]?
theorem wipeF_len (ρ : Fenv) : ∀ vs, (wipeF ρ vs).length = ρ.length
  | [] => rfl
  | v :: vs => by simp [wipeF, wipeF_len ρ vs]
theorem wipeF_get (ρ : Fenv) {k : Nat} : ∀ vs, k ∉ vs → (wipeF ρ vs)[k]? = ρ[k]?
  | [], _ => rfl
  | v :: vs, h => by
    rw [wipeF, List.getElem?_set_ne (by intro z; exact h (by simp [z]))]
    exact wipeF_get ρ vs fun z => h (by simp [z])
theorem wipe_get (σ : L2.St) {k : Nat} : ∀ vs, k ∉ vs → (wipe σ vs)[k]? = σ[k]?
  | [], _ => rfl
  | v :: vs, h => by
    rw [wipe, List.getElem?_set_ne (by intro z; exact h (by simp [z]))]
    exact wipe_get σ vs fun z => h (by simp [z])
theorem backF_len (ρ ρ3 : Fenv) : ∀ vs, (backF ρ ρ3 vs).length = ρ3.length
  | [] => rfl
  | v :: vs => by simp [backF, backF_len ρ ρ3 vs]
theorem backF_out (ρ ρ3 : Fenv) {k : Nat} : ∀ vs, k ∉ vs → (backF ρ ρ3 vs)[k]? = ρ3[k]?
  | [], _ => rfl
  | v :: vs, h => by
    rw [backF, List.getElem?_set_ne (by intro z; exact h (by simp [z]))]
    exact backF_out ρ ρ3 vs fun z => h (by simp [z])
theorem backF_in (ρ ρ3 : Fenv) {k : Nat} : ∀ vs, k ∈ vs → k < ρ3.length → (backF ρ ρ3 vs)[k]? = some (ρ[k]?.getD none)
  | [], h, _ => by simp at h
  | v :: vs, h, hl => by
    rw [backF]
    by_cases z : v = k
    · subst z
      rw [List.getElem?_set_self (by rw [backF_len]; exact hl)]
    · rw [List.getElem?_set_ne z]
      exact backF_in ρ ρ3 vs (by rcases List.mem_cons.mp h with q | q; exact absurd q.symm z; exact q) hl
theorem backF_same {ρ ρ3 : Fenv} {vs js : List Nat} (hl : ρ3.length = ρ.length) (h : ∀ k, k ∉ vs → ρ3[k]? = ρ[k]?) : backF ρ ρ3 vs = ρ := by
  apply List.ext_getElem?
  intro k
  by_cases z : k ∈ vs
  · by_cases hk : k < ρ.length
    · rw [backF_in ρ ρ3 vs z (by omega), List.getElem?_eq_getElem hk]
      rfl
    · rw [List.getElem?_eq_none (by rw [backF_len]; omega), List.getElem?_eq_none (by omega)]
  · rw [backF_out ρ ρ3 vs z, h k z]
theorem wipe_eq {σ σ2 : L2.St} {vs js : List Nat} (hl : σ2.length = σ.length) (hs : ∀ j ∈ js, j ∈ vs) (h : ∀ k, k ∉ js → σ2[k]? = (wipe σ vs)[k]?) : wipe σ2 vs = wipe σ vs := by
  have key : ∀ (us : List Nat), (∀ u ∈ vs, u ∈ us) → ∀ (τ τ' : L2.St), τ'.length = τ.length → (∀ k, k ∉ us → τ'[k]? = τ[k]?) → wipe τ' us = wipe τ us := by
    intro us _ τ τ' hl h
    apply List.ext_getElem?
    intro k
    by_cases z : k ∈ us
    · have q : ∀ (ws : List Nat) (t : L2.St), k ∈ ws → (wipe t ws)[k]? = if k < t.length then some none else none := by
        intro ws t
        induction ws with
        | nil => intro h; simp at h
        | cons w ws ih =>
          intro h
          rw [wipe]
          by_cases e : w = k
          · subst e
            by_cases hk : w < t.length
            · rw [List.getElem?_set_self (by rw [wipe_length]; exact hk), if_pos hk]
            · rw [List.getElem?_eq_none (by simp [wipe_length]; omega), if_neg hk]
          · rw [List.getElem?_set_ne e]
            exact ih (by rcases List.mem_cons.mp h with q | q; exact absurd q.symm e; exact q)
      rw [q us τ' z, q us τ z, hl]
    · rw [wipe_get τ' us z, wipe_get τ us z, h k z]
  refine key vs (fun _ h => h) σ σ2 hl fun k hk => ?_
  rw [h k fun z => hk (hs k z), wipe_get σ vs hk]
theorem Sta.wiped {T : Tab} {C : C0} {ρ : Fenv} {σ : L2.St} {H G : Hp} (S : Sta T C ρ σ H G) : ∀ vs, Sta T C (wipeF ρ vs) (wipe σ vs) H G
  | [] => S
  | v :: vs => (Sta.wiped S vs).assignNo
/-- behind an item: the block's own slots as they were -/
theorem Sta.unwiped {T : Tab} {C C' : C0} {ρ ρ3 : Fenv} {σ σ2 : L2.St} {H G H' G' : Hp} {vs js : List Nat} (S : Sta T C ρ σ H G) (S3 : Sta T C' ρ3 σ2 H' G') (e : Ex G G') (hl : ρ3.length = ρ.length) (hs : ∀ j ∈ js, j ∈ vs) (h : ∀ k, k ∉ js → σ2[k]? = (wipe σ vs)[k]?) (no : noOwn ρ vs = true) :
    Sta T C' (backF ρ ρ3 vs) σ H' G' := by
  have lσ : σ.length = ρ.length := S.len
  have out : ∀ k, k ∉ vs → σ2[k]? = σ[k]? := fun k hk => by rw [h k fun z => hk (hs k z), wipe_get σ vs hk]
  refine ⟨S3.gh, S3.g0, S3.h0, S3.fr, S3.io, by rw [backF_len, lσ, hl], fun i d hi => ?_, ?_⟩
  · by_cases z : i ∈ vs
    · have hi' : i < ρ3.length := by have := (List.getElem?_eq_some_iff.mp hi).1; rwa [backF_len] at this
      rw [backF_in ρ ρ3 vs z hi'] at hi
      have hi2 : ρ[i]? = some (some (.sh d)) := by
        have hk : i < ρ.length := by omega
        rw [List.getElem?_eq_getElem hk] at hi ⊢
        simpa using hi
      obtain ⟨v, e1, r⟩ := S.sh i d hi2
      exact ⟨v, e1, r.mono e⟩
    · rw [backF_out ρ ρ3 vs z] at hi
      obtain ⟨v, e1, r⟩ := S3.sh i d hi
      exact ⟨v, by rw [← out i z]; exact e1, r⟩
  · obtain ⟨ow, q⟩ := S3.own
    refine ⟨ow, fun i f o hi => ?_⟩
    by_cases z : i ∈ vs
    · have hi' : i < ρ3.length := by have := (List.getElem?_eq_some_iff.mp hi).1; rwa [backF_len] at this
      rw [backF_in ρ ρ3 vs z hi'] at hi
      have hi2 : ρ[i]? = some (some (.own f o)) := by
        have hk : i < ρ.length := by omega
        rw [List.getElem?_eq_getElem hk] at hi ⊢
        simpa using hi
      have := List.all_eq_true.mp no i z
      rw [hi2] at this
      cases this
    · rw [backF_out ρ ρ3 vs z] at hi
      obtain ⟨v, fp, e1, r⟩ := q i f o hi
      exact ⟨v, fp, by rw [← out i z]; exact e1, r⟩

/-- the new list at D counts as the heap's -/
def C0.at (C : C0) (D : Addr) (xs : List V) : C0 := { C with H0 := upd C.H0 D (.lst xs) }
section
variable {T : Tab} {C : C0} {ρ : Fenv} {σ : L2.St} {H G : Hp} {D : Addr} {xs ys : List V}
theorem Sta.enterD (S : Sta T C ρ σ H G) (h : H D = none) : Sta T (C.at D xs) ρ σ (upd H D (.lst xs)) G := by
  have S1 := S.stp (Stp.grow (p := D) (o := .lst xs) S.gh h)
  have hG : G D = none := S.gh.free h
  refine ⟨S1.gh, S1.g0, fun a o hn e => ?_, fun a u e t g => ?_, S1.io, S1.len, S1.sh, ?_⟩
  · by_cases z : a = D
    · subst z
      have e : upd C.H0 a (.lst xs) a = some o := e
      rw [upd_same] at e ⊢
      exact e
    · have e : upd C.H0 D (.lst xs) a = some o := e
      rw [upd_ne z] at e ⊢
      exact S.h0 a o hn e
  · by_cases z : a = D
    · subst z; exact hG
    · have e : upd C.H0 D (.lst xs) a = some u := e
      rw [upd_ne z] at e
      exact S.fr a u e t g
  · obtain ⟨ow, q⟩ := S.own
    refine ⟨ow, fun i f o e => ?_⟩
    obtain ⟨v, fp, e1, e2, e3⟩ := q i f o e
    refine ⟨v, fp, e1, e2.mono (Ex.refl G) fun a ha u hu => Ex.new h a u hu, fun b hb => ⟨(e3 b hb).1, (e3 b hb).2.1, ?_⟩⟩
    have nb : b ≠ D := fun z => by obtain ⟨u, eu, _⟩ := e2.there b hb; rw [z, h] at eu; cases eu
    cases f with
    | true =>
      show upd C.H0 D (.lst xs) b = none
      rw [upd_ne nb]
      exact (e3 b hb).2.2
    | false => exact (e3 b hb).2.2
theorem Sta.atD (S : Sta T (C.at D xs) ρ σ H G) (hio : D ∉ C.io) : H D = some (.lst xs) := S.h0 D _ hio upd_same
theorem Sta.gD (S : Sta T (C.at D xs) ρ σ H G) (h : C.G0 D = none) : G D = none := S.fr D _ upd_same (fun _ z => nomatch z) h
theorem Sta.stepD (S : Sta T (C.at D xs) ρ σ H G) (hio : D ∉ C.io) (hg : C.G0 D = none) : Sta T (C.at D ys) ρ σ (upd H D (.lst ys)) G := by
  have hD := S.atD hio
  have hG := S.gD hg
  have nD : ∀ {f : Bool} {b : Addr}, (C.at D xs).mine f b → b ≠ D := fun {f b} m z => by
    cases f with
    | true =>
      have m : upd C.H0 D (.lst xs) b = none := m
      rw [z, upd_same] at m; cases m
    | false => exact hio (z ▸ m)
  refine ⟨S.gh.mut hG, S.g0, fun a o hn e => ?_, fun a u e t g => ?_, fun a ha => ?_, S.len, S.sh, ?_⟩
  · by_cases z : a = D
    · subst z
      have e : upd C.H0 a (.lst ys) a = some o := e
      rw [upd_same] at e ⊢
      exact e
    · have e : upd C.H0 D (.lst ys) a = some o := e
      rw [upd_ne z] at e ⊢
      exact S.h0 a o hn (by show upd C.H0 D (.lst xs) a = some o; rw [upd_ne z]; exact e)
  · by_cases z : a = D
    · subst z; exact hG
    · have e : upd C.H0 D (.lst ys) a = some u := e
      rw [upd_ne z] at e
      exact S.fr a u (by show upd C.H0 D (.lst xs) a = some u; rw [upd_ne z]; exact e) t g
  · obtain ⟨u, eu, tu⟩ := S.io a ha
    have z : a ≠ D := fun z => hio (z ▸ ha)
    exact ⟨u, by rw [upd_ne z]; exact eu, tu⟩
  · obtain ⟨ow, q⟩ := S.own
    refine ⟨ow, fun i f o e => ?_⟩
    obtain ⟨v, fp, e1, e2, e3⟩ := q i f o e
    refine ⟨v, fp, e1, e2.mono (Ex.refl G) fun a ha u hu => by rw [upd_ne (nD (e3 a ha).2.2)]; exact hu, fun b hb => ⟨(e3 b hb).1, (e3 b hb).2.1, ?_⟩⟩
    have z := nD (e3 b hb).2.2
    have m := (e3 b hb).2.2
    cases f with
    | true =>
      show upd C.H0 D (.lst ys) b = none
      have m : upd C.H0 D (.lst xs) b = none := m
      rw [upd_ne z] at m ⊢
      exact m
    | false => exact m
theorem Sta.exitD {l : List Fl.D} (S : Sta T (C.at D xs) ρ σ H G) (hio : D ∉ C.io) (hg : C.G0 D = none) (h0 : C.H0 D = none) (r : Reps T G l xs) : Sta T C (ρ ++ [some (.own true (.lst l))]) (σ ++ [some (.ref D)]) H G := by
  have hD := S.atD hio
  have hG := S.gD hg
  have S1 : Sta T C ρ σ H G := by
    refine ⟨S.gh, S.g0, fun a o hn e => ?_, fun a u e t g => ?_, S.io, S.len, S.sh, ?_⟩
    · have z : a ≠ D := fun z => by rw [z, h0] at e; cases e
      exact S.h0 a o hn (by show upd C.H0 D (.lst xs) a = some o; rw [upd_ne z]; exact e)
    · have z : a ≠ D := fun z => by rw [z, h0] at e; cases e
      exact S.fr a u (by show upd C.H0 D (.lst xs) a = some u; rw [upd_ne z]; exact e) t g
    · obtain ⟨ow, q⟩ := S.own
      refine ⟨ow, fun i f o e => ?_⟩
      obtain ⟨v, fp, e1, e2, e3⟩ := q i f o e
      refine ⟨v, fp, e1, e2, fun b hb => ⟨(e3 b hb).1, (e3 b hb).2.1, ?_⟩⟩
      have m := (e3 b hb).2.2
      cases f with
      | true =>
        show C.H0 b = none
        have m : upd C.H0 D (.lst xs) b = none := m
        by_cases z : b = D
        · rw [z, upd_same] at m; cases m
        · rw [upd_ne z] at m; exact m
      | false => exact m
  refine S1.push (fp := [D]) ⟨D, xs, rfl, rfl, hD, r⟩ fun b hb => ?_
  have e : b = D := by simpa using hb
  subst e
  refine ⟨hG, h0, fun i f o' v' fp' q1 q2 q3 hb' => ?_⟩
  obtain ⟨ow, q⟩ := S.own
  obtain ⟨v, fp, e1, e2, e3⟩ := q i f o' q1
  rw [q2] at e1
  cases e1
  rw [q3.fpEq e2] at hb'
  have m := (e3 b hb').2.2
  cases f with
  | true =>
    have m : upd C.H0 b (.lst xs) b = none := m
    rw [upd_same] at m; cases m
  | false => exact hio m
end

def lcL (g : FG) (tt : FT) (te : FE) (vs : List Nat) : List D → FA
  | [], ρ => some ([], ρ)
  | d :: ds, ρ => if noOwn ρ vs then (g d (wipeF ρ vs)).bind fun ρ1 => (tt ρ1).bind fun b =>
      if b.1 then (te b.2).bind fun y => if y.2.length = ρ.length then (lcL g tt te vs ds (backF ρ y.2 vs)).bind fun r => some (y.1 :: r.1, r.2) else none
      else if b.2.length = ρ.length then lcL g tt te vs ds (backF ρ b.2 vs) else none
    else none
@[simp] def fLc (it : FA) (g : FG) (tt : FT) (te : FE) (vs : List Nat) : FA := fun ρ => (it ρ).bind fun x => if x.1.length < many then lcL g tt te vs x.1 x.2 else none
section
variable {X : Cx} {T : Tab} {pu pa pb pc : Bool} {tg iter elt : Expr} {ifs : List Expr} {fi : FA} {g : FG} {tt : FT} {te : FE} {js vs : List Nat}
theorem lcL_same (hg : Keeps js g) (hs : ∀ j ∈ js, j ∈ vs) (ht : Same1 pb tt) (he : Same1 pc te) (hp : (pb && pc) = true) : ∀ (ds : List D) (ρ : Fenv) (r : List D) (ρ' : Fenv), lcL g tt te vs ds ρ = some (r, ρ') → ρ' = ρ
  | [], ρ, r, ρ', h => by cases h; rfl
  | d :: ds, ρ, r, ρ', h => by
    rw [Bool.and_eq_true] at hp
    simp only [lcL] at h
    split at h
    · obtain ⟨ρ1, e1, h⟩ := Option.bind_eq_some_iff.mp h
      obtain ⟨⟨b, ρ2⟩, e2, h⟩ := Option.bind_eq_some_iff.mp h
      have q2 : ρ2 = ρ1 := ht hp.1 _ _ _ e2
      have hb : ∀ ρ3 : Fenv, ρ3 = ρ1 → backF ρ ρ3 vs = ρ := fun ρ3 e => by
        subst e
        have k := hg _ _ _ e1
        refine backF_same (js := js) (by rw [k.1, wipeF_len]) fun i hi => ?_
        rw [k.2 i fun z => hi (hs i z), wipeF_get ρ vs hi]
      cases b with
      | true =>
        obtain ⟨⟨y, ρ3⟩, e3, h⟩ := Option.bind_eq_some_iff.mp h
        have q3 : ρ3 = ρ2 := he hp.2 _ _ _ e3
        split at h
        · obtain ⟨⟨r', ρ4⟩, e4, h⟩ := Option.bind_eq_some_iff.mp h
          cases h
          dsimp only at e4
          rw [hb ρ3 (q3.trans q2)] at e4
          exact lcL_same hg hs ht he (by rw [Bool.and_eq_true]; exact hp) ds ρ _ _ e4
        · cases h
      | false =>
        simp only [Bool.false_eq_true, if_false] at h
        split at h
        · rw [hb ρ2 q2] at h
          exact lcL_same hg hs ht he (by rw [Bool.and_eq_true]; exact hp) ds ρ _ _ h
        · cases h
    · cases h
theorem fLc_same (hi : Same1 pa fi) (hg : Keeps js g) (hs : ∀ j ∈ js, j ∈ vs) (ht : Same1 pb tt) (he : Same1 pc te) : Same1 (pa && (pb && pc)) (fLc fi g tt te vs) := fun hp ρ z ρ' h => by
  rw [Bool.and_eq_true] at hp
  obtain ⟨⟨ds, ρ1⟩, e1, h⟩ := Option.bind_eq_some_iff.mp h
  dsimp only at h
  split at h
  · exact (lcL_same hg hs ht he hp.2 ds ρ1 _ _ h).trans (hi hp.1 _ _ _ e1)
  · cases h
theorem lc_run {σ : L2.St} {H : Hp} {Q : VK} (hs : ∀ j ∈ js, j ∈ vs) (hg : Keeps js g)
    (h : tOw T (pa && (pb && pc)) (fLst (fLc fi g tt te vs)) σ H Q) : tLc (tIt T pa fi) (tG T js g) (tBl T pb tt) (tD T pc te) vs σ H Q := by
  obtain ⟨C, ρ, G, o, ρ', S, hh, k⟩ := h
  obtain ⟨⟨full, ρ''⟩, hh2, e0⟩ := Option.bind_eq_some_iff.mp hh
  cases e0
  obtain ⟨⟨ds, ρ1⟩, e1, hh2⟩ := Option.bind_eq_some_iff.mp hh2
  dsimp only at hh2
  split at hh2
  case isFalse => cases hh2
  rename_i hlen
  refine ⟨C, ρ, G, ds, ρ1, S, e1, fun J H1 G1 n1 ⟨Y, W, wy⟩ D hD => ?_⟩
  have hio : D ∉ C.io := fun z => by obtain ⟨u, eu, _⟩ := n1.st.io D z; rw [hD] at eu; cases eu
  have hg0 : C.G0 D = none := n1.st.g0.free (n1.st.gh.free hD)
  have h00 : C.H0 D = none := n1.st.freeH0 hD
  refine ⟨fun i m H' => m = ds.length - i ∧ i ≤ ds.length ∧ ∃ ρ2 G2 acc xs rest, Sta T (C.at D xs) ρ2 σ H' G2 ∧ Ex G1 G2 ∧ ((pb && pc) = true → Ex H1 H') ∧ Reps T G2 acc xs ∧ acc.length ≤ i ∧ lcL g tt te vs (ds.drop i) ρ2 = some (rest, ρ'') ∧ full = acc ++ rest,
    ⟨_, rfl, Nat.zero_le _, ρ1, G1, [], [], full, n1.st.enterD hD, Ex.refl G1, fun _ => Ex.new hD, .nil, Nat.le_refl _, by simpa using hh2, rfl⟩, ?_⟩
  rintro i m H2 ⟨rfl, hi, ρ2, G2, acc, xs, rest, S2, x2, pH, racc, hacc, h2, hfull⟩
  by_cases hlt : i < ds.length
  · refine .inr ⟨W.goes i H2 hlt (x2.trans S2.gh), fun H' => ∃ ρ2 G2 acc xs rest, Sta T (C.at D xs) ρ2 σ H' G2 ∧ Ex G1 G2 ∧ ((pb && pc) = true → Ex H1 H') ∧ Reps T G2 acc xs ∧ acc.length ≤ i + 1 ∧ lcL g tt te vs (ds.drop (i + 1)) ρ2 = some (rest, ρ'') ∧ full = acc ++ rest,
      fun H' q => ⟨ds.length - (i + 1), by omega, rfl, hlt, q⟩, fun x H' y => ?_⟩
    have yy := W.yields i H2 x H' hlt (x2.trans S2.gh) y
    obtain ⟨d, G3, hd, st, rd⟩ := wy i H2 x H' G2 x2 S2.gh yy
    rw [List.drop_eq_getElem_cons hlt] at h2
    have hd' : ds[i] = d := by simpa [hlt] using hd
    rw [hd'] at h2
    simp only [lcL] at h2
    split at h2
    case isFalse => cases h2
    rename_i hno
    obtain ⟨ρ3, e3, h2⟩ := Option.bind_eq_some_iff.mp h2
    obtain ⟨⟨b, ρ4⟩, e4, h2⟩ := Option.bind_eq_some_iff.mp h2
    have S2' := S2.stp st
    have SW := S2'.wiped vs
    refine ⟨C.at D xs, wipeF ρ2 vs, G3, d, ρ3, SW, rd, e3, fun σ2 S3 hl3 k3 => ⟨?_, C.at D xs, ρ3, G3, b, ρ4, S3, e4, fun H4 G4 n4 => ?_⟩⟩
    · exact wipe_eq (by rw [hl3, wipe_length]) hs k3
    · cases b with
      | true =>
        rw [if_pos rfl]
        obtain ⟨⟨y, ρ5⟩, e5, h2⟩ := Option.bind_eq_some_iff.mp h2
        split at h2
        case isFalse => cases h2
        rename_i hlen5
        obtain ⟨⟨r', ρ6⟩, e6, h2⟩ := Option.bind_eq_some_iff.mp h2
        cases h2
        refine ⟨C.at D xs, ρ4, G4, y, ρ5, n4.st, e5, fun v H5 G5 n5 r5 => ?_⟩
        have x5 : Ex G2 G5 := st.gg.trans (n4.ex.trans n5.ex)
        have U := S2.unwiped n5.st x5 hlen5 hs k3 hno
        refine ⟨xs, U.atD hio, Nat.lt_of_lt_of_le (by rw [← racc.length]; omega) many_le, backF ρ2 ρ5 vs, G5, acc ++ [y], xs ++ [v], r', U.stepD hio hg0, x2.trans x5, fun hp => ?_, (racc.mono x5).append (.cons r5 .nil), by simp; omega, e6, by rw [hfull]; simp⟩
        have hp' := hp
        rw [Bool.and_eq_true] at hp'
        exact Ex.mut (((pH hp).trans st.hh).trans ((n4.pu hp'.1).trans (n5.pu hp'.2))) hD
      | false =>
        rw [if_neg Bool.false_ne_true]
        simp only [Bool.false_eq_true, if_false] at h2
        split at h2
        case isFalse => cases h2
        rename_i hlen4
        have x4 : Ex G2 G4 := st.gg.trans n4.ex
        have U := S2.unwiped n4.st x4 hlen4 hs k3 hno
        refine ⟨backF ρ2 ρ4 vs, G4, acc, xs, rest, U, x2.trans x4, fun hp => ?_, racc.mono x4, by omega, h2, hfull⟩
        have hp' := hp
        rw [Bool.and_eq_true] at hp'
        exact ((pH hp).trans st.hh).trans (n4.pu hp'.1)
  · have e : i = ds.length := by omega
    subst e
    rw [List.drop_length] at h2
    cases h2
    have hf : full = acc := by rw [hfull]; simp
    subst hf
    refine .inl ⟨W.stops H2 (x2.trans S2.gh), k _ H2 G2 ⟨S2.exitD hio hg0 h00 racc, n1.ex.trans x2, fun hp => ?_⟩⟩
    rw [Bool.and_eq_true] at hp
    exact (n1.pu hp.1).trans (pH hp.2)
theorem lcst_same (h : Same1 pu (fLc fi g tt te vs)) : Same1 pu (fLst (fLc fi g tt te vs)) := fun hp ρ z ρ' hh => by
  obtain ⟨⟨l', ρ2⟩, h2, e⟩ := Option.bind_eq_some_iff.mp hh
  cases e
  exact h hp _ _ _ h2
theorem peo_lc {scope : Scope} {own : List (Str × Nat)} {pos : Pos} (hc : X.calm = true) (hN : X.N.Nodup) (ok : BlkOk X.N X.env.scope scope own) (hi : PIf X T pa tg iter fi)
    (hg : ∀ (s : Shared) (H : Hp) (C : Addr) (cl : List (Str × Addr)) (fp : List Addr), PGf (X.blk s H scope (compEnvC scope cl C X.env) fp) T tg js g) (ht : ∀ (s : Shared) (H : Hp) (C : Addr) (cl : List (Str × Addr)) (fp : List Addr), PTsf (X.blk s H scope (compEnvC scope cl C X.env) fp) T pb ifs tt)
    (he : ∀ (s : Shared) (H : Hp) (C : Addr) (cl : List (Str × Addr)) (fp : List Addr), PEf (X.blk s H scope (compEnvC scope cl C X.env) fp) T pc elt te) (hsub : ∀ j ∈ js, j ∈ own.map (·.2) := by decide) (hs : ∀ x, foldedSetIterable iter X.env x = pure x := by intro _; rfl) :
    PEo X T (pa && (pb && pc)) (.ListComp elt [⟨tg, iter, ifs, 0⟩] scope pos) (fLst (fLc fi g tt te (own.map (·.2)))) where
  pe := (pe_lc hc hN hi.pi ok (fun s H C cl fp => (hg s H C cl fp).pg) (fun s H C cl fp => (ht s H C cl fp).pt) (fun s H C cl fp => (he s H C cl fp).pe) hs).imp fun σ H Q h => lc_run hsub (hg X.s_0 (fun _ => none) 0 [] []).keep h
  same := lcst_same (fLc_same hi.same (hg X.s_0 (fun _ => none) 0 [] []).keep hsub (ht X.s_0 (fun _ => none) 0 [] []).same (he X.s_0 (fun _ => none) 0 [] []).same)
/-- name = [..] on one line -/
theorem psf_setLc {i : Nat} {y : Str} {py : Pos} {scope : Scope} {own : List (Str × Nat)} {pos spos : Pos} (hc : X.calm = true) (hN : X.N.Nodup) (ok : BlkOk X.N X.env.scope scope own) (hi : PIf X T pa tg iter fi)
    (hg : ∀ (s : Shared) (H : Hp) (C : Addr) (cl : List (Str × Addr)) (fp : List Addr), PGf (X.blk s H scope (compEnvC scope cl C X.env) fp) T tg js g) (ht : ∀ (s : Shared) (H : Hp) (C : Addr) (cl : List (Str × Addr)) (fp : List Addr), PTsf (X.blk s H scope (compEnvC scope cl C X.env) fp) T pb ifs tt)
    (he : ∀ (s : Shared) (H : Hp) (C : Addr) (cl : List (Str × Addr)) (fp : List Addr), PEf (X.blk s H scope (compEnvC scope cl C X.env) fp) T pc elt te) (hsub : ∀ j ∈ js, j ∈ own.map (·.2) := by decide) (hs : ∀ x, foldedSetIterable iter X.env x = pure x := by intro _; rfl)
    (hy : X.N[i]? = some y := by rfl) (hyl : X.env.scope.names.lookup y = some .local := by rfl) (hsw : swapsWith (.ListComp elt [⟨tg, iter, ifs, 0⟩] scope pos) (some (.Name y py)) spos.line X.env = pure true := by exact sw_true rfl rfl rfl rfl) :
    PSf X T (.Assign [.Name y py] (.ListComp elt [⟨tg, iter, ifs, 0⟩] scope pos) spos) (fSetO i (fLst (fLc fi g tt te (own.map (·.2))))) :=
  ⟨(ps_setLc hc hN hy hyl hsw hi.pi ok (fun s H C cl fp => (hg s H C cl fp).pg) (fun s H C cl fp => (ht s H C cl fp).pt) (fun s H C cl fp => (he s H C cl fp).pe) hs).imp fun D σ H ⟨C, ρ, G, out, S, hh, k⟩ => by
    obtain ⟨⟨d, ρ1⟩, e1, hh⟩ := Option.bind_eq_some_iff.mp hh
    cases hh
    exact lc_run hsub (hg X.s_0 (fun _ => none) 0 [] []).keep ⟨C, ρ, G, d, ρ1, S, e1, fun v H1 G1 n1 => k _ H1 G1 n1.st.assignOwn n1.ex⟩⟩
end
end Fl
end

section
set_option Elab.async false
set_option linter.all false
set_option autoImplicit false
set_option maxRecDepth 100000
set_option maxHeartbeats 2000000
namespace Fl
open PySem PySem.Spec PyProof.Rows L2

/-! ### defs -/
/-- what a call gives -/
def RetOk (T : Tab) (G H0 H : Hp) : Slot → V → Prop
  | .sh d, v => Rep T G d v
  | .own _ o, v => ∃ fp, OwnOk T G H o v fp ∧ ∀ b ∈ fp, G b = none ∧ H0 b = none
def spD (T : Tab) (m : Nat) (F : List D → Option Slot) : Sp := fun vs H Q _ => vs.length = m ∧ ∃ G ds r, Ex G H ∧ Reps T G ds vs ∧ F ds = some r ∧ ∀ v H' G', Stp H G H' G' → RetOk T G' H H' r v → Q v H'
abbrev FI := List D → O → List D → Option (Slot × O)
@[simp] def O.one : O → Bool
  | .ll _ => false
  | _ => true
/-- one argument may be changed -/
def spI (T : Tab) (m : Nat) (F : FI) : Sp := fun vs H Q _ => vs.length = m ∧ ∃ G pre o post vpre v vpost fp r o', vs = vpre ++ v :: vpost ∧ Ex G H ∧ Reps T G pre vpre ∧ Reps T G post vpost ∧ OwnOk T G H o v fp ∧ (∀ b ∈ fp, G b = none) ∧ F pre o post = some (r, o') ∧
  ∀ w H' G' fp', (∀ b u, b ∉ fp → H b = some u → H' b = some u) → (∀ b u, H b = some u → (∀ xs, u ≠ .tup xs) → ∃ u', H' b = some u' ∧ ∀ xs, u' ≠ .tup xs) → Ex G G' → Ex G' H' → (∀ a u, H a = some u → (∀ xs, u ≠ .tup xs) → G a = none → G' a = none) →
    OwnOk T G' H' o' v fp' → (∀ b ∈ fp', b ∈ fp) → RetOk T G' H H' r w → Q w H'
/-- a body's reading as a function -/
@[simp] def outD (n : Nat) : Option Out → Option Slot
  | some (.rt s _) => some s
  | some (.nx _) => some (.sh .non)
  | _ => none
@[simp] def fnD (fb : FS) (n : Nat) (ds : List D) : Option Slot := outD n (fb (ds.map (fun d => some (.sh d)) ++ List.replicate (n - ds.length) none))
@[simp] def outI (o : O) (j : Nat) : Option Out → Option (Slot × O)
  | some (.rt s ρ) => match ρ[j]? with
    | some (some (.own false o')) => if o.one && o'.one then some (s, o') else none
    | _ => none
  | some (.nx ρ) => match ρ[j]? with
    | some (some (.own false o')) => if o.one && o'.one then some (.sh .non, o') else none
    | _ => none
  | _ => none
@[simp] def fnI (fb : FS) (n : Nat) : FI := fun pre o post => outI o pre.length (fb (pre.map (fun d => some (.sh d)) ++ some (Slot.own false o) :: post.map (fun d => some (.sh d)) ++ List.replicate (n - (pre.length + 1 + post.length)) none))

section
variable {T : Tab}
theorem get_map_sh {ds : List D} {i : Nat} {n : Nat} {s : Slot} (h : (ds.map (fun d => some (Slot.sh d)) ++ List.replicate n none)[i]? = some (some s)) : ∃ d, ds[i]? = some d ∧ s = .sh d := by
  by_cases hi : i < ds.length
  · rw [List.getElem?_append_left (by simpa using hi), List.getElem?_map, List.getElem?_eq_getElem hi] at h
    simp at h
    exact ⟨ds[i], List.getElem?_eq_getElem hi, h.symm⟩
  · rw [List.getElem?_append_right (by simpa using hi), List.getElem?_replicate] at h
    split at h <;> cases h
theorem start_get {N : List Str} {vs : List V} {i : Nat} {v : V} (h : vs[i]? = some v) : (L2.start N vs)[i]? = some (some v) := by
  have hi := (List.getElem?_eq_some_iff.mp h).1
  unfold L2.start
  rw [List.getElem?_append_left (by simpa using hi), List.getElem?_map, h]
  rfl
theorem sta_start {N : List Str} {H G : Hp} {ds : List D} {vs : List V} (e : Ex G H) (r : Reps T G ds vs) (hl : vs.length ≤ N.length) :
    Sta T ⟨H, G, []⟩ (ds.map (fun d => some (.sh d)) ++ List.replicate (N.length - ds.length) none) (L2.start N vs) H G where
  gh := e
  g0 := Ex.refl G
  h0 := fun _ _ _ h => h
  fr := fun _ _ _ _ h => h
  io := fun a h => by simp at h
  len := by unfold L2.start; simp [r.length]
  sh := fun i d h => by
    obtain ⟨d', hd, e⟩ := get_map_sh h
    cases e
    obtain ⟨v, ev, rv⟩ := r.get hd
    exact ⟨v, start_get ev, rv⟩
  own := ⟨fun _ => none, fun i f o h => by
    obtain ⟨d', hd, e⟩ := get_map_sh h
    cases e⟩
theorem Sta.toStp {H G H' G' : Hp} {ρ : Fenv} {σ : L2.St} (S : Sta T ⟨H, G, []⟩ ρ σ H' G') : Stp H G H' G' :=
  ⟨fun a o h => S.h0 a o (by simp) h, S.g0, S.gh, S.fr⟩
theorem Sta.last {C : C0} {H G : Hp} {ρ : Fenv} {σ : L2.St} {o : O} {v : V} (S : Sta T C (ρ ++ [some (.own true o)]) (σ ++ [some v]) H G) : ∃ fp, OwnOk T G H o v fp ∧ ∀ b ∈ fp, G b = none ∧ C.H0 b = none := by
  have hl : σ.length = ρ.length := by have := S.len; simpa using this
  obtain ⟨ow, h⟩ := S.own
  obtain ⟨w, fp, e1, e2, e3⟩ := h ρ.length true o (by rw [List.getElem?_append_right (Nat.le_refl _), Nat.sub_self]; rfl)
  rw [List.getElem?_append_right (by omega), ← hl, Nat.sub_self] at e1
  have e1' : v = w := by simpa using e1
  subst e1'
  exact ⟨fp, e2, fun b hb => ⟨(e3 b hb).2.1, (e3 b hb).2.2⟩⟩
variable {P : Program} {w : World} {K : PySem.W.Frag} {mg : Str → Option Value} {base : Heap}
theorem ok_D {x qual : Str} {st : Stmt} {f : Addr} {fd : FuncData} {N ps : List Str} {k : Nat} {fb : FS} (F : Fun K x qual st f fd) (S : FnScope N ps (defScope st))
    (hb : ∀ (cdv : Value) (A : Around) (outer : List Env) (s : Shared) (H : Hp) (E : XK), Room k (A.deeper (envOfC qual (defScope st) s.heap.objs.size f cdv)) → PSsf (cxOf CX0 P w K mg base N qual (defScope st) f cdv A outer s H E).nox T (defBody st) fb) :
    FnOk P w K mg base CX0 (k + 1) f fd ps (spD T ps.length (fnD fb N.length)) := by
  refine F.ok S (fun vs H Q E h => h.1) fun cdv A outer s H vs Q E hr h => ?_
  obtain ⟨hl, G, ds, r, eg, rd, hf, q⟩ := h
  refine ⟨_, (hb cdv A outer s H E hr).ps, ?_⟩
  have hpl : ps.length ≤ N.length := by have := congrArg List.length S.pre; rw [List.length_take] at this; omega
  have S0 := sta_start (N := N) eg rd (by omega)
  unfold fnD at hf
  cases ho : fb (ds.map (fun d => some (.sh d)) ++ List.replicate (N.length - ds.length) none) with
  | none => rw [ho] at hf; cases hf
  | some out =>
    rw [ho] at hf
    refine ⟨_, _, G, out, S0, ho, ?_⟩
    cases out with
    | nx ρ => cases hf; exact fun σ' H' G' S' e' => q .non H' G' S'.toStp .non
    | rt s ρ =>
      cases hf
      cases r with
      | sh d => exact fun v σ' H' G' S' e' rv => q v H' G' S'.toStp rv
      | own g o => exact fun v σ' H' G' S' e' => q v H' G' S'.pop.toStp S'.last
    | bk ρ => cases hf
    | ct ρ => cases hf
theorem spD_len {m : Nat} {F : List D → Option Slot} {vs : List V} {H : Hp} {Q : VK} {E : XK} (h : spD T m F vs H Q E) : vs.length = m := h.1
/-- the same promise, told otherwise -/
theorem spD_imp {m : Nat} {F F' : List D → Option Slot} (h : ∀ ds r, F' ds = some r → F ds = some r) {vs : List V} {H : Hp} {Q : VK} {E : XK} (q : spD T m F' vs H Q E) : spD T m F vs H Q E :=
  let ⟨l, G, ds, r, a, b, c, d⟩ := q
  ⟨l, G, ds, r, a, b, h ds r c, d⟩

theorem get_mid {pre post : List D} {o : O} {n i : Nat} {s : Slot} (h : (pre.map (fun d => some (Slot.sh d)) ++ some (Slot.own false o) :: post.map (fun d => some (Slot.sh d)) ++ List.replicate n none)[i]? = some (some s)) :
    (∃ d, pre[i]? = some d ∧ s = .sh d) ∨ (i = pre.length ∧ s = .own false o) ∨ ∃ d j, i = pre.length + 1 + j ∧ post[j]? = some d ∧ s = .sh d := by
  rw [List.append_assoc] at h
  by_cases hi : i < pre.length
  · rw [List.getElem?_append_left (by simpa using hi), List.getElem?_map, List.getElem?_eq_getElem hi] at h
    simp at h
    exact .inl ⟨pre[i], List.getElem?_eq_getElem hi, h.symm⟩
  · rw [List.getElem?_append_right (by simpa using hi), List.length_map] at h
    cases hj : i - pre.length with
    | zero =>
      rw [hj] at h
      simp at h
      exact .inr (.inl ⟨by omega, h.symm⟩)
    | succ j =>
      rw [hj, List.cons_append, List.getElem?_cons_succ] at h
      obtain ⟨d, hd, e⟩ := get_map_sh h
      exact .inr (.inr ⟨d, j, by omega, hd, e⟩)
theorem sta_startI {N : List Str} {H G : Hp} {pre post : List D} {o : O} {v : V} {vpre vpost : List V} {fp : List Addr} (e : Ex G H) (r1 : Reps T G pre vpre) (r2 : Reps T G post vpost) (ro : OwnOk T G H o v fp) (hn : ∀ b ∈ fp, G b = none) (hl : (vpre ++ v :: vpost).length ≤ N.length) :
    Sta T ⟨H, G, fp⟩ (pre.map (fun d => some (.sh d)) ++ some (Slot.own false o) :: post.map (fun d => some (.sh d)) ++ List.replicate (N.length - (pre.length + 1 + post.length)) none) (L2.start N (vpre ++ v :: vpost)) H G where
  gh := e
  g0 := Ex.refl G
  h0 := fun _ _ _ h => h
  fr := fun _ _ _ _ h => h
  io := fun a h => ro.there a h
  len := by unfold L2.start; simp [r1.length, r2.length]; omega
  sh := fun i d h => by
    rcases get_mid h with ⟨d', hd, e⟩ | ⟨_, e⟩ | ⟨d', j, rfl, hd, e⟩
    · cases e
      obtain ⟨u, ev, rv⟩ := r1.get hd
      exact ⟨u, start_get (by rw [List.getElem?_append_left (List.getElem?_eq_some_iff.mp ev).1]; exact ev), rv⟩
    · cases e
    · cases e
      obtain ⟨u, ev, rv⟩ := r2.get hd
      exact ⟨u, start_get (by rw [List.getElem?_append_right (by rw [← r1.length]; omega), ← r1.length, show pre.length + 1 + j - pre.length = j + 1 by omega]; simpa using ev), rv⟩
  own := ⟨fun b => some pre.length, fun i f o' h => by
    rcases get_mid h with ⟨d', hd, e⟩ | ⟨rfl, e⟩ | ⟨d', j, rfl, hd, e⟩
    · cases e
    · cases e
      exact ⟨v, fp, start_get (by rw [r1.length, List.getElem?_append_right (Nat.le_refl _), Nat.sub_self]; rfl), ro, fun b hb => ⟨rfl, hn b hb, hb⟩⟩
    · cases e⟩
theorem one_same {G G' H H' : Hp} {o o' : O} {v v' : V} {fp fp' : List Addr} (ho : o.one = true) (ho' : o'.one = true) (r : OwnOk T G H o v fp) (r' : OwnOk T G' H' o' v' fp') (h : ∀ b ∈ fp', b ∈ fp) : v' = v := by
  obtain ⟨a, rfl, rfl⟩ : ∃ a, v = .ref a ∧ fp = [a] := by
    cases o with
    | lst _ => obtain ⟨a, _, e1, e2, _⟩ := r; exact ⟨a, e1, e2⟩
    | dT _ => obtain ⟨a, _, e1, e2, _⟩ := r; exact ⟨a, e1, e2⟩
    | dK _ => obtain ⟨a, _, e1, e2, _⟩ := r; exact ⟨a, e1, e2⟩
    | ll _ => cases ho
  obtain ⟨a', rfl, rfl⟩ : ∃ a, v' = .ref a ∧ fp' = [a] := by
    cases o' with
    | lst _ => obtain ⟨a, _, e1, e2, _⟩ := r'; exact ⟨a, e1, e2⟩
    | dT _ => obtain ⟨a, _, e1, e2, _⟩ := r'; exact ⟨a, e1, e2⟩
    | dK _ => obtain ⟨a, _, e1, e2, _⟩ := r'; exact ⟨a, e1, e2⟩
    | ll _ => cases ho'
  have := h a' (by simp)
  rw [show a' = a by simpa using this]
theorem outI_inv {o o' : O} {j : Nat} {out : Out} {r : Slot} (h : outI o j (some out) = some (r, o')) : ∃ ρ, ρ[j]? = some (some (.own false o')) ∧ o.one = true ∧ o'.one = true ∧ (out = .rt r ρ ∨ (out = .nx ρ ∧ r = .sh .non)) := by
  cases out with
  | bk ρ => cases h
  | ct ρ => cases h
  | nx ρ =>
    unfold outI at h
    dsimp only at h
    split at h
    · rename_i o2 e
      split at h
      · rename_i q
        rw [Bool.and_eq_true] at q
        cases h
        exact ⟨ρ, e, q.1, q.2, .inr ⟨rfl, rfl⟩⟩
      · cases h
    · cases h
  | rt s ρ =>
    unfold outI at h
    dsimp only at h
    split at h
    · rename_i o2 e
      split at h
      · rename_i q
        rw [Bool.and_eq_true] at q
        cases h
        exact ⟨ρ, e, q.1, q.2, .inl rfl⟩
      · cases h
    · cases h
theorem ok_I {x qual : Str} {st : Stmt} {f : Addr} {fd : FuncData} {N ps : List Str} {k : Nat} {fb : FS} (F : Fun K x qual st f fd) (S : FnScope N ps (defScope st))
    (hb : ∀ (cdv : Value) (A : Around) (outer : List Env) (s : Shared) (H : Hp) (E : XK), Room k (A.deeper (envOfC qual (defScope st) s.heap.objs.size f cdv)) → PSsf (cxOf CX0 P w K mg base N qual (defScope st) f cdv A outer s H E).nox T (defBody st) fb) :
    FnOk P w K mg base CX0 (k + 1) f fd ps (spI T ps.length (fnI fb N.length)) := by
  refine F.ok S (fun vs H Q E h => h.1) fun cdv A outer s H vs Q E hr h => ?_
  obtain ⟨hl, G, pre, o, post, vpre, v, vpost, fp, r, o', rfl, eg, r1, r2, ro, hn, hf, q⟩ := h
  refine ⟨_, (hb cdv A outer s H E hr).ps, ?_⟩
  have hpl : ps.length ≤ N.length := by have := congrArg List.length S.pre; rw [List.length_take] at this; omega
  have S0 := sta_startI (N := N) eg r1 r2 ro hn (by omega)
  unfold fnI at hf
  cases ho : fb (pre.map (fun d => some (.sh d)) ++ some (Slot.own false o) :: post.map (fun d => some (.sh d)) ++ List.replicate (N.length - (pre.length + 1 + post.length)) none) with
  | none => rw [ho] at hf; cases hf
  | some out =>
    rw [ho] at hf
    refine ⟨_, _, G, out, S0, ho, ?_⟩
    obtain ⟨ρ, hρ, q1, q2, hout⟩ := outI_inv hf
    have fin : ∀ {σ' H' G' w}, Sta T ⟨H, G, fp⟩ ρ σ' H' G' → RetOk T G' H H' r w → Q w H' := fun {σ' H' G' w} S' rw' => by
      obtain ⟨ow, hw⟩ := S'.own
      obtain ⟨v', fp', e1, e2, e3⟩ := hw pre.length false o' hρ
      have sub : ∀ b ∈ fp', b ∈ fp := fun b hb => (e3 b hb).2.2
      have ev := one_same q1 q2 ro e2 sub
      subst ev
      refine q w H' G' fp' (fun b u hb e => S'.h0 b u hb e) (fun b u e t => ?_) S'.g0 S'.gh S'.fr e2 sub rw'
      by_cases z : b ∈ fp
      · exact S'.io b z
      · exact ⟨u, S'.h0 b u z e, t⟩
    rcases hout with rfl | ⟨rfl, rfl⟩
    · cases r with
      | sh d => exact fun v σ' H' G' S' e' rv => fin S' rv
      | own g o2 => exact fun v σ' H' G' S' e' => fin S'.pop S'.last
    · exact fun σ' H' G' S' e' => fin S' .non
end

/-! ### calls -/
@[simp] def shO : Slot → Option D
  | .sh d => some d
  | _ => none
@[simp] def owO : Slot → Option O
  | .own true o => some o
  | _ => none
@[simp] def fCall (F : List D → Option Slot) (dd : List D) (a : FA) : FE := fun ρ => (a ρ).bind fun x => (F (x.1 ++ dd)).bind fun s => (shO s).map fun d => (d, x.2)
@[simp] def fCallO (F : List D → Option Slot) (dd : List D) (a : FA) : FO := fun ρ => (a ρ).bind fun x => (F (x.1 ++ dd)).bind fun s => (owO s).map fun d => (d, x.2)
section
variable {X : Cx} {T : Tab} {pu pa pb : Bool} {k : Nat} {f : Addr} {fd : FuncData} {ps : List Str} {e : Expr} {es : List Expr} {x : Str} {p pos : Pos} {fs : FA} {m : Nat} {F : List D → Option Slot}
/-- a def of the program as a call wants it -/
structure Cal (X : Cx) (T : Tab) (x : Str) (sp : Sp) (dvs : List V) : Prop where
  ex : ∃ (k : Nat) (f : Addr) (fd : FuncData) (ps : List Str) (ds : List Value), FnOk X.prog X.w X.K X.mg X.base CX0 k f fd ps sp ∧ Room k X.A ∧ X.mg x = some (.ref f) ∧ PySem.W.keepIn X.K (.ref f) = true ∧ Binds X.K fd ps ds ∧ Vals dvs ds
theorem RetOk.own_push {C : C0} {ρ : Fenv} {σ : L2.St} {H1 G1 H2 G2 : Hp} {o : O} {v : V} {g : Bool} (S : Sta T C ρ σ H1 G1) (st : Stp H1 G1 H2 G2) (r : RetOk T G2 H1 H2 (.own g o) v) : Sta T C (ρ ++ [some (.own true o)]) (σ ++ [some v]) H2 G2 := by
  obtain ⟨fp, r1, r2⟩ := r
  refine (S.stp st).push r1 fun b hb => ⟨(r2 b hb).1, S.freeH0 (r2 b hb).2, fun i f o' v' fp' q1 q2 q3 hb' => ?_⟩
  obtain ⟨ow, q⟩ := S.own
  obtain ⟨w, fp2, e1, e2, e3⟩ := q i f o' q1
  rw [q2] at e1
  cases e1
  rw [q3.fpEq (e2.mono st.gg fun a _ u hu => st.hh a u hu)] at hb'
  obtain ⟨u, eu, _⟩ := e2.there b hb'
  rw [(r2 b hb).2] at eu
  cases eu
theorem call_same {dd : List D} (h : Same1 pa fs) : Same1 pa (fCall F dd fs) := fun hp ρ z ρ' hh => by
  obtain ⟨⟨dx, ρ1⟩, e1, hh⟩ := Option.bind_eq_some_iff.mp hh
  obtain ⟨s, e2, hh⟩ := Option.bind_eq_some_iff.mp hh
  obtain ⟨z', e3, hh⟩ := Option.map_eq_some_iff.mp hh
  cases hh
  exact h hp _ _ _ e1
theorem callO_same {dd : List D} (h : Same1 pa fs) : Same1 pa (fCallO F dd fs) := fun hp ρ z ρ' hh => by
  obtain ⟨⟨dx, ρ1⟩, e1, hh⟩ := Option.bind_eq_some_iff.mp hh
  obtain ⟨s, e2, hh⟩ := Option.bind_eq_some_iff.mp hh
  obtain ⟨z', e3, hh⟩ := Option.map_eq_some_iff.mp hh
  cases hh
  exact h hp _ _ _ e1
theorem call_sem {dd : List D} {dvs : List V} {sp : Sp} (hc : Cal X T x sp dvs) {t : TA} (ha : PA X (e :: es) t) (hg : Gl X x := by rfl) (hdb : (x == ("__debug__" : Str)) = false := by decide)
    (he : starEach (e :: es) X.env = (false, eval e X.env) :: starEach es X.env := by rfl) (hpl : (backTo pos (starEach es X.env)).any (·.1) = false := by rfl) : PE X (.Call (.Name x p) (e :: es) [] pos) (tCall sp dvs E0 t) := by
  obtain ⟨k, f, fd, ps, ds, F, hr, hm, hk, hb, hd⟩ := hc.ex
  exact pe_call F hr hg hm hk hb hd pass0 ha hdb he hpl
theorem pef_call (dd : List D) {dvs : List V} (hc : Cal X T x (spD T m F) dvs) (ha : PAf X T pa (e :: es) fs) (hdd : ∀ G, Reps T G dd dvs := by exact fun _ => .nil) (hm : ∀ ρ ds ρ', fs ρ = some (ds, ρ') → (ds ++ dd).length = m) (hg : Gl X x := by rfl) (hdb : (x == ("__debug__" : Str)) = false := by decide)
    (he : starEach (e :: es) X.env = (false, eval e X.env) :: starEach es X.env := by rfl) (hpl : (backTo pos (starEach es X.env)).any (·.1) = false := by rfl) : PEf X T pa (.Call (.Name x p) (e :: es) [] pos) (fCall F dd fs) where
  pe := (call_sem (dd := dd) hc ha.pa hg hdb he hpl).imp fun σ H Q ⟨C, ρ, G, d, ρ', S, hh, kk⟩ => by
    obtain ⟨⟨dx, ρ1⟩, e1, hh⟩ := Option.bind_eq_some_iff.mp hh
    obtain ⟨s, e2, hh⟩ := Option.bind_eq_some_iff.mp hh
    obtain ⟨z', e3, hh⟩ := Option.map_eq_some_iff.mp hh
    cases hh
    refine ⟨C, ρ, G, dx, ρ1, S, e1, fun xs H1 G1 n1 r1 => ?_⟩
    have rr := r1.append (hdd G1)
    refine ⟨by rw [← rr.length]; exact hm ρ _ _ e1, G1, _, s, n1.st.gh, rr, e2, fun v H' G' st ro => ?_⟩
    cases s with
    | sh d => cases e3; exact kk v H' G' (n1.stp st) ro
    | own _ _ => cases e3
  same := call_same ha.same
theorem peo_call (dd : List D) {dvs : List V} (hc : Cal X T x (spD T m F) dvs) (ha : PAf X T pa (e :: es) fs) (hdd : ∀ G, Reps T G dd dvs := by exact fun _ => .nil) (hm : ∀ ρ ds ρ', fs ρ = some (ds, ρ') → (ds ++ dd).length = m) (hg : Gl X x := by rfl) (hdb : (x == ("__debug__" : Str)) = false := by decide)
    (he : starEach (e :: es) X.env = (false, eval e X.env) :: starEach es X.env := by rfl) (hpl : (backTo pos (starEach es X.env)).any (·.1) = false := by rfl) : PEo X T pa (.Call (.Name x p) (e :: es) [] pos) (fCallO F dd fs) where
  pe := (call_sem (dd := dd) hc ha.pa hg hdb he hpl).imp fun σ H Q ⟨C, ρ, G, d, ρ', S, hh, kk⟩ => by
    obtain ⟨⟨dx, ρ1⟩, e1, hh⟩ := Option.bind_eq_some_iff.mp hh
    obtain ⟨s, e2, hh⟩ := Option.bind_eq_some_iff.mp hh
    obtain ⟨z', e3, hh⟩ := Option.map_eq_some_iff.mp hh
    cases hh
    refine ⟨C, ρ, G, dx, ρ1, S, e1, fun xs H1 G1 n1 r1 => ?_⟩
    have rr := r1.append (hdd G1)
    refine ⟨by rw [← rr.length]; exact hm ρ _ _ e1, G1, _, s, n1.st.gh, rr, e2, fun v H' G' st ro => ?_⟩
    cases s with
    | sh d => cases e3
    | own g o =>
      cases g with
      | true => cases e3; exact kk v H' G' ⟨RetOk.own_push n1.st st ro, n1.ex.trans st.gg, fun hp => (n1.pu hp).trans st.hh⟩
      | false => cases e3
  same := callO_same ha.same
/-- lengths of argument readings -/
def LenA (fs : FA) (m : Nat) : Prop := ∀ ρ ds ρ', fs ρ = some (ds, ρ') → ds.length = m
theorem len_nil : LenA fNil 0 := fun ρ ds ρ' h => by cases h; rfl
theorem len_cons {a : FE} (h : LenA fs m) : LenA (fCons a fs) (m + 1) := fun ρ ds ρ' hh => by
  obtain ⟨⟨dx, ρ1⟩, e1, hh⟩ := Option.bind_eq_some_iff.mp hh
  obtain ⟨⟨dy, ρ2⟩, e2, hh⟩ := Option.bind_eq_some_iff.mp hh
  cases hh
  simp [h _ _ _ e2]

/-! ### .. that change an argument -/
abbrev FAI := Fenv → Option ((List D × List D) × Fenv)
def tAI (T : Tab) (pu : Bool) (i : Nat) (f : FAI) : TA := fun σ H Q => ∃ C ρ G ds ρ', Sta T C ρ σ H G ∧ f ρ = some (ds, ρ') ∧ ∀ vpre v vpost H' G', Nxt T C ρ' σ pu H G H' G' → Reps T G' ds.1 vpre → σ[i]? = some (some v) → Reps T G' ds.2 vpost → Q (vpre ++ v :: vpost) H'
structure PAI (X : Cx) (T : Tab) (pu : Bool) (i : Nat) (es : List Expr) (f : FAI) : Prop where
  pa : PA X es (tAI T pu i f)
@[simp] def fHere (i : Nat) (fs : FA) : FAI := fun ρ => match ρ[i]? with
  | some (some (.own _ _)) => (fs ρ).bind fun x => some (([], x.1), x.2)
  | _ => none
@[simp] def fConsI (a : FE) (fs : FAI) : FAI := fun ρ => (a ρ).bind fun x => (fs x.2).bind fun y => some ((x.1 :: y.1.1, y.1.2), y.2)
theorem pai_here {i : Nat} {y : Str} {np : Pos} (ha : PAf X T pa es fs) (hN : X.N[i]? = some y := by rfl) (hv : Vis X.env.scope y := by first | exact Or.inl rfl | exact Or.inr (Or.inl rfl) | exact Or.inr (Or.inr rfl)) (hd : (y == ("__debug__" : Str)) = false := by decide) (hcd : (y == ("__classdict__" : Str)) = false := by decide)
    (hs : starEach (.Name y np :: es) X.env = (false, eval (.Name y np) X.env) :: starEach es X.env := by rfl) : PAI X T pa i (.Name y np :: es) (fHere i fs) where
  pa := (pa_cons (pe_var hN hv hd hcd) ha.pa hs).imp fun σ H Q ⟨C, ρ, G, d, ρ', S, hh, kk⟩ => by
    unfold fHere at hh
    split at hh
    · rename_i g o hi
      obtain ⟨⟨dx, ρ1⟩, e1, hh⟩ := Option.bind_eq_some_iff.mp hh
      cases hh
      obtain ⟨ow, h⟩ := S.own
      obtain ⟨v, fp, q1, q2, q3⟩ := h i g o hi
      exact ⟨v, q1, C, ρ, G, dx, ρ1, S, e1, fun vs H1 G1 n1 r1 => kk [] v vs H1 G1 n1 .nil q1 r1⟩
    · cases hh
theorem pai_cons {i : Nat} {a : Expr} {fa : FE} {fi : FAI} (ha : PEf X T pa a fa) (hr : PAI X T pb i es fi) (hs : starEach (a :: es) X.env = (false, eval a X.env) :: starEach es X.env := by rfl) : PAI X T (pa && pb) i (a :: es) (fConsI fa fi) where
  pa := (pa_cons ha.pe hr.pa hs).imp fun σ H Q ⟨C, ρ, G, d, ρ', S, hh, kk⟩ => by
    obtain ⟨⟨dx, ρ1⟩, e1, hh⟩ := Option.bind_eq_some_iff.mp hh
    obtain ⟨⟨dy, ρ2⟩, e2, hh⟩ := Option.bind_eq_some_iff.mp hh
    cases hh
    refine ⟨C, ρ, G, dx, ρ1, S, e1, fun x H1 G1 n1 r1 => ⟨C, ρ1, G1, dy, ρ2, n1.st, e2, fun vpre v vpost H2 G2 n2 rp ev rq => ?_⟩⟩
    exact kk (x :: vpre) v vpost H2 G2 (n1.trans n2) (.cons (r1.mono n2.ex) rp) ev rq
theorem Sta.callI {C : C0} {ρ : Fenv} {σ : L2.St} {H G H' G' : Hp} {i : Nat} {g : Bool} {o o' : O} {v : V} {fp fp' : List Addr} (S : Sta T C ρ σ H G) (h1 : ρ[i]? = some (some (.own g o))) (hi : σ[i]? = some (some v)) (old : OwnOk T G H o v fp)
    (ch : ∀ b u, b ∉ fp → H b = some u → H' b = some u) (th : ∀ b u, H b = some u → (∀ xs, u ≠ .tup xs) → ∃ u', H' b = some u' ∧ ∀ xs, u' ≠ .tup xs) (gg : Ex G G') (gh : Ex G' H') (fr : ∀ a u, H a = some u → (∀ xs, u ≠ .tup xs) → G a = none → G' a = none)
    (new : OwnOk T G' H' o' v fp') (sub : ∀ b ∈ fp', b ∈ fp) : Sta T C (ρ.set i (some (.own g o'))) σ H' G' := by
  obtain ⟨ow, h⟩ := S.own
  obtain ⟨w, fp2, q1, q2, q3⟩ := h i g o h1
  rw [hi] at q1; cases q1
  have hfp : fp = fp2 := old.fpEq q2
  subst hfp
  have hi' : i < ρ.length := (List.getElem?_eq_some_iff.mp h1).1
  refine ⟨gh, S.g0.trans gg, fun a u hn e => ?_, fun a u e t g0 => ?_, fun a ha => let ⟨u, e, t⟩ := S.io a ha; th a u e t, by simp [S.len], fun j d e => ?_, ?_⟩
  · refine ch a u (fun z => ?_) (S.h0 a u hn e)
    rcases C0.mine_or (q3 a z).2.2 with y | y
    · rw [y] at e; cases e
    · exact hn y
  · by_cases z : a ∈ C.io
    · obtain ⟨u', e', t'⟩ := S.io a z
      exact fr a u' e' t' (S.fr a u e t g0)
    · exact fr a u (S.h0 a u z e) t (S.fr a u e t g0)
  · by_cases q : i = j
    · subst q
      rw [List.getElem?_set_self hi'] at e
      cases e
    · rw [List.getElem?_set_ne q] at e
      obtain ⟨v', e1, r⟩ := S.sh j d e
      exact ⟨v', e1, r.mono gg⟩
  · refine ⟨ow, fun j f o2 e => ?_⟩
    by_cases q : i = j
    · subst q
      rw [List.getElem?_set_self hi'] at e
      cases e
      refine ⟨v, fp', hi, new, fun b hb => ?_⟩
      obtain ⟨u, eu, tu⟩ := old.there b (sub b hb)
      exact ⟨(q3 b (sub b hb)).1, fr b u eu tu (q3 b (sub b hb)).2.1, (q3 b (sub b hb)).2.2⟩
    · rw [List.getElem?_set_ne q] at e
      obtain ⟨w2, fp2, e1, e2, e3⟩ := h j f o2 e
      have nb : ∀ b ∈ fp2, b ∉ fp := fun b hb z => by
        have y1 := (e3 b hb).1
        rw [(q3 b z).1] at y1
        exact q (Option.some.inj y1)
      refine ⟨w2, fp2, e1, e2.mono gg fun b hb u hu => ch b u (nb b hb) hu, fun b hb => ?_⟩
      obtain ⟨u, eu, tu⟩ := e2.there b hb
      exact ⟨(e3 b hb).1, fr b u eu tu (e3 b hb).2.1, (e3 b hb).2.2⟩
@[simp] def fCallI (i : Nat) (F : FI) (a : FAI) : FE := fun ρ => (a ρ).bind fun x => match x.2[i]? with
  | some (some (.own g o)) => (F x.1.1 o x.1.2).bind fun r => (shO r.1).map fun d => (d, x.2.set i (some (.own g r.2)))
  | _ => none
@[simp] def fCallIO (i : Nat) (F : FI) (a : FAI) : FO := fun ρ => (a ρ).bind fun x => match x.2[i]? with
  | some (some (.own g o)) => (F x.1.1 o x.1.2).bind fun r => (owO r.1).map fun d => (d, x.2.set i (some (.own g r.2)))
  | _ => none
def LenI (fs : FAI) (m : Nat) : Prop := ∀ ρ ds ρ', fs ρ = some (ds, ρ') → ds.1.length + 1 + ds.2.length = m
theorem len_here {i : Nat} (h : LenA fs m) : LenI (fHere i fs) (m + 1) := fun ρ ds ρ' hh => by
  unfold fHere at hh
  split at hh
  · obtain ⟨⟨dx, ρ1⟩, e1, hh⟩ := Option.bind_eq_some_iff.mp hh
    cases hh
    have := h _ _ _ e1
    simp [this]; omega
  · cases hh
theorem len_consI {a : FE} {fi : FAI} (h : LenI fi m) : LenI (fConsI a fi) (m + 1) := fun ρ ds ρ' hh => by
  obtain ⟨⟨dx, ρ1⟩, e1, hh⟩ := Option.bind_eq_some_iff.mp hh
  obtain ⟨⟨dy, ρ2⟩, e2, hh⟩ := Option.bind_eq_some_iff.mp hh
  cases hh
  have := h _ _ _ e2
  simp; omega
theorem pef_callI {i : Nat} {FF : FI} {fi : FAI} (hc : Cal X T x (spI T m FF) []) (ha : PAI X T pa i (e :: es) fi) (hm : LenI fi m) (hg : Gl X x := by rfl) (hdb : (x == ("__debug__" : Str)) = false := by decide)
    (he : starEach (e :: es) X.env = (false, eval e X.env) :: starEach es X.env := by rfl) (hpl : (backTo pos (starEach es X.env)).any (·.1) = false := by rfl) : PEf X T false (.Call (.Name x p) (e :: es) [] pos) (fCallI i FF fi) where
  pe := (call_sem (dd := []) hc ha.pa hg hdb he hpl).imp fun σ H Q ⟨C, ρ, G, d, ρ', S, hh, kk⟩ => by
    obtain ⟨⟨ds, ρ1⟩, e1, hh⟩ := Option.bind_eq_some_iff.mp hh
    dsimp only at hh
    split at hh
    · rename_i g o hi
      obtain ⟨⟨s, o'⟩, e2, hh⟩ := Option.bind_eq_some_iff.mp hh
      obtain ⟨z', e3, hh⟩ := Option.map_eq_some_iff.mp hh
      cases hh
      refine ⟨C, ρ, G, ds, ρ1, S, e1, fun vpre v vpost H1 G1 n1 rp ev rq => ?_⟩
      obtain ⟨ow, h⟩ := n1.st.own
      obtain ⟨v2, fp, q1, q2, q3⟩ := h i g o hi
      rw [ev] at q1; cases q1
      refine ⟨?_, G1, ds.1, o, ds.2, vpre, v, vpost, fp, s, o', by simp, n1.st.gh, rp, rq, q2, fun b hb => (q3 b hb).2.1, e2, fun w H' G' fp' ch th gg gh fr new sub ro => ?_⟩
      · have := hm _ _ _ e1
        simp [← rp.length, ← rq.length]; omega
      · cases s with
        | sh d => cases e3; exact kk w H' G' ⟨n1.st.callI hi ev q2 ch th gg gh fr new sub, n1.ex.trans gg, fun hp => nomatch hp⟩ ro
        | own _ _ => cases e3
    · cases hh
  same := fun h => nomatch h
theorem peo_callI {i : Nat} {FF : FI} {fi : FAI} (hc : Cal X T x (spI T m FF) []) (ha : PAI X T pa i (e :: es) fi) (hm : LenI fi m) (hg : Gl X x := by rfl) (hdb : (x == ("__debug__" : Str)) = false := by decide)
    (he : starEach (e :: es) X.env = (false, eval e X.env) :: starEach es X.env := by rfl) (hpl : (backTo pos (starEach es X.env)).any (·.1) = false := by rfl) : PEo X T false (.Call (.Name x p) (e :: es) [] pos) (fCallIO i FF fi) where
  pe := (call_sem (dd := []) hc ha.pa hg hdb he hpl).imp fun σ H Q ⟨C, ρ, G, d, ρ', S, hh, kk⟩ => by
    obtain ⟨⟨ds, ρ1⟩, e1, hh⟩ := Option.bind_eq_some_iff.mp hh
    dsimp only at hh
    split at hh
    · rename_i g o hi
      obtain ⟨⟨s, o'⟩, e2, hh⟩ := Option.bind_eq_some_iff.mp hh
      obtain ⟨z', e3, hh⟩ := Option.map_eq_some_iff.mp hh
      cases hh
      refine ⟨C, ρ, G, ds, ρ1, S, e1, fun vpre v vpost H1 G1 n1 rp ev rq => ?_⟩
      obtain ⟨ow, h⟩ := n1.st.own
      obtain ⟨v2, fp, q1, q2, q3⟩ := h i g o hi
      rw [ev] at q1; cases q1
      refine ⟨?_, G1, ds.1, o, ds.2, vpre, v, vpost, fp, s, o', by simp, n1.st.gh, rp, rq, q2, fun b hb => (q3 b hb).2.1, e2, fun w H' G' fp' ch th gg gh fr new sub ro => ?_⟩
      · have := hm _ _ _ e1
        simp [← rp.length, ← rq.length]; omega
      · cases s with
        | sh d => cases e3
        | own g2 o2 =>
          cases g2 with
          | false => cases e3
          | true =>
            cases e3
            have S1 := n1.st.callI hi ev q2 ch th gg gh fr new sub
            obtain ⟨fpr, t1, t2⟩ := ro
            refine kk w H' G' ⟨S1.push t1 fun b hb => ⟨(t2 b hb).1, n1.st.freeH0 (t2 b hb).2, fun j f o3 v' fp3 y1 y2 y3 hb' => ?_⟩, n1.ex.trans gg, fun hp => nomatch hp⟩
            have hH1 := (t2 b hb).2
            by_cases z : i = j
            · subst z
              rw [List.getElem?_set_self (List.getElem?_eq_some_iff.mp hi).1] at y1
              cases y1
              rw [ev] at y2
              cases y2
              rw [y3.fpEq new] at hb'
              obtain ⟨u, eu, _⟩ := q2.there b (sub b hb')
              rw [hH1] at eu
              cases eu
            · rw [List.getElem?_set_ne z] at y1
              obtain ⟨w2, fp4, x1, x2, x3⟩ := h j f o3 y1
              rw [y2] at x1
              cases x1
              have nb : ∀ b ∈ fp4, b ∉ fp := fun b hb z' => by
                have y1 := (x3 b hb).1
                rw [(q3 b z').1] at y1
                exact z (Option.some.inj y1)
              rw [y3.fpEq (x2.mono gg fun a ha u hu => ch a u (nb a ha) hu)] at hb'
              obtain ⟨u, eu, _⟩ := x2.there b hb'
              rw [hH1] at eu
              cases eu
    · cases hh
  same := fun h => nomatch h
end
end Fl
end

section
set_option Elab.async false
set_option linter.all false
set_option autoImplicit false
set_option maxRecDepth 100000
set_option maxHeartbeats 2000000

namespace HT
open PySem PySem.W PySem.Calls PyProof.Rows PyProof.V PySem.Spec
section
variable {prog : Program} {w : World} {A : Around} {E : Value → Shared → Prop} {s : Shared}
theorem fl_adjust (n : Nat) : Builtin.Slice.sliceAdjust none none (-1) (n : Int) = ((n : Int) - 1, -1) := by
  unfold Builtin.Slice.sliceAdjust
  simp
theorem fl_places (n : Nat) : Builtin.Slice.slicePlaces ((n : Int) - 1) (-1) (-1) = n := by
  unfold Builtin.Slice.slicePlaces
  simp
  omega
theorem fl_fm {α β : Type} {f g : α → Option β} : ∀ {l : List α}, (∀ a ∈ l, f a = g a) → l.filterMap f = l.filterMap g
  | [], _ => rfl
  | a :: l, h => by rw [List.filterMap_cons, List.filterMap_cons, h a (by simp), fl_fm fun b hb => h b (by simp [hb])]
theorem fl_pick (xs : Array Value) : ((List.range xs.size).filterMap fun (m : Nat) => xs[((xs.size : Int) - 1 + (m : Int) * (-1)).toNat]?).toArray = xs.toList.reverse.toArray := by
  have e : (List.range xs.size).filterMap (fun (m : Nat) => xs[((xs.size : Int) - 1 + (m : Int) * (-1)).toNat]?) = ((List.range xs.size).map fun k => xs.size - 1 - k).filterMap (xs[·]?) := by
    rw [List.filterMap_map]
    refine fl_fm fun k hk => ?_
    have := List.mem_range.mp hk
    show xs[((xs.size : Int) - 1 + (k : Int) * (-1)).toNat]? = xs[xs.size - 1 - k]?
    rw [show ((xs.size : Int) - 1 + (k : Int) * (-1)).toNat = xs.size - 1 - k by omega]
  rw [e, PySem.W.krv_range, List.filterMap_reverse, PySem.W.krv_all]
theorem fl_applied {sl : Addr} {vl vu vs : Value} {n : Nat} {Q : Int × Int × Nat → Shared → Prop} (hs : s.heap.IsSliceOf sl vl vu vs) (pl : IsPart vl none) (pu : IsPart vu none) (ps : IsPart vs (some (-1)))
    (h : Q ((n : Int) - 1, -1, n) s) : wpAny (model prog w) A (Builtin.Slice.sliceApplied (.ref sl) (pure (n : Int))) Q E s := by
  obtain ⟨os, hos, hcs, hds⟩ := id hs
  unfold Builtin.Slice.sliceApplied Builtin.Slice.sliceFields
  refine wpAny_bind (wpAny_bind (wpAny_field hos hds (x := vl) rfl (wpAny_bind (wpAny_field hos hds (x := vu) rfl (wpAny_bind (wpAny_field hos hds (x := vs) rfl (wpAny_pure ?_)))))))
  refine wpAny_bind (slicePart_ ps ?_)
  show wpAny _ _ (if ((-1 : Int) == 0) = true then _ else _) _ _ s
  rw [if_neg (by decide)]
  refine wpAny_bind (slicePart_ pl (wpAny_bind (slicePart_ pu (wpAny_bind (wpAny_pure ?_)))))
  show wpAny _ _ (match Builtin.Slice.sliceAdjust none none (-1) (n : Int) with | (lo, hi) => pure (lo, (-1 : Int), Builtin.Slice.slicePlaces lo hi (-1))) _ _ s
  rw [fl_adjust n]
  show wpAny _ _ (pure ((n : Int) - 1, (-1 : Int), Builtin.Slice.slicePlaces ((n : Int) - 1) (-1) (-1))) _ _ s
  rw [fl_places]
  exact wpAny_pure h
theorem fl_tuple_rev {t sl : Addr} {items : Array Value} {vl vu vs : Value} {Q : Value → Shared → Prop} (ht : IsTup s.heap t items) (hs : s.heap.IsSliceOf sl vl vu vs) (pl : IsPart vl none) (pu : IsPart vu none) (ps : IsPart vs (some (-1)))
    (h : Q (.ref s.heap.objs.size) { s with heap := s.heap.push { cls := .type "tuple", data := .seq items.toList.reverse.toArray } })
    (hsz : items.size ≤ sizeLine) : wpAny (model prog w) A (getItem (.ref t) (.ref sl)) Q E s := by
  have htake : sizeOk (.seq items.toList.reverse.toArray) := by
    show items.toList.reverse.toArray.size ≤ sizeLine
    rw [List.size_toArray, List.length_reverse, Array.length_toList]
    exact hsz
  obtain ⟨os, hos, hcs, hds⟩ := id hs
  have hTs : s.TypeIs (.ref sl) "slice" := ⟨os, hos, hcs⟩
  unfold getItem
  try with_reducible refine wpAny_holding ?_
  first | refine wpAny_bind (wpAny_pure ?_) | skip
  refine wpAny_bind (wpAny_sequenceKey ht.typeIs (by decide) ?_)
  refine wpAny_bind (wpAny_callSpecial?_slot (name := Str.ofString "__getitem__") ht.typeIs PyProof.Rows.slot_tuple_getitem
    (wpAny_call_entry PyProof.Rows.slot_tuple_getitem ht.typeIs entry_tuple_getitem ?_ (args_tuple_getitem _ _)))
  show wpAny _ _ (Builtin.Tuple.tupleItemsOf (.ref t) >>= _) _ _ s
  refine wpAny_bind (tupleItemsOf_ ht ?_)
  refine wpAny_bind (wpAny_typeOf hTs ?_)
  rw [if_pos (by decide)]
  refine wpAny_bind (fl_applied hs pl pu ps ?_)
  show wpAny _ _ (if ((((items.size : Nat) : Int) - 1) == 0 && (-1 : Int) == 1 && items.size == items.size) = true then _ else _) _ _ s
  rw [if_neg (by simp), fl_pick]
  first
    | exact wpAny_bind (m := Builtin.Tuple.tupleExact _) (wpAny_newObj_type (wpAny_pure ⟨_, rfl, wpAny_pure h⟩) htake)
    | exact wpAny_bind (m := Builtin.Tuple.tupleExact _) (wpAny_newObj_type (wpAny_bind (wpAny_pure (wpAny_pure ⟨_, rfl, wpAny_pure h⟩))) htake)
    | exact wpAny_bind (wpAny_bind (m := Builtin.Tuple.tupleExact _) (wpAny_newObj_type (wpAny_pure (wpAny_pure ⟨_, rfl, wpAny_pure h⟩)) htake))
    | exact wpAny_bind (wpAny_bind (m := Builtin.Tuple.tupleExact _) (wpAny_newObj_type (wpAny_pure ⟨_, rfl, wpAny_pure h⟩) htake))
end
end HT

namespace Fl
open PySem PySem.Spec PyProof.Rows L2

/-! ### t[::-1] -/
def tRevT (K : PySem.W.Frag) (te : TE) : TE := fun σ H Q => te σ H fun x H1 => ∃ a xs, x = .ref a ∧ SqT K H1 a xs ∧ ∀ p, H1 p = none → Q (.ref p) (upd H1 p (.tup xs.reverse))
theorem pe_revT {X : Cx} {e : Expr} {te : TE} {k : Nat} {p1 p2 p3 pos : Pos} (he : PE X e te) : PE X (.Subscript e (.Slice none none (some (.UnaryOp .USub (.Constant (.int 1) k p1) p2)) p3) pos) (tRevT X.K te) := by
  refine ⟨fun pins s σ H Q I h => ?_⟩
  refine Subscript_ (thn (he.run pins s σ H _ I h) fun v s1 ⟨x, H1, I1, r1, q1⟩ => ?_)
  obtain ⟨a, xs, ex, hx, q⟩ := q1
  subst ex
  cases r1
  have hst : PO X (some (.UnaryOp .USub (.Constant (.int 1) k p1) p2)) (tPart (tUn (rU fun i => .int (-i)) (tC (.int 1)))) := po_some (pe_un un_neg pe_int)
  refine wpAny_Slice (thn (po_none.run pins s1 σ H1 (fun o H2 => o = none ∧ H2 = H1) I1 ⟨rfl, rfl⟩) fun vl s2 ⟨l, H2, I2, pl, el, e2⟩ => ?_)
  subst el e2
  refine thn (po_none.run pins s2 σ H2 (fun o H3 => o = none ∧ H3 = H2) I2 ⟨rfl, rfl⟩) fun vu s3 ⟨u, H3, I3, pu, eu, e3⟩ => ?_
  subst eu e3
  refine thn (hst.run pins s3 σ H3 (fun o H4 => o = some (-1) ∧ H4 = H3) I3 ⟨1, rfl, -1, rfl, rfl, rfl⟩) fun vs s4 ⟨o, H4, I4, ps, eo, e4⟩ => ?_
  subst eo e4
  have I5 : Inv X pins σ H4 { s4 with heap := s4.heap.push { cls := .type "slice", data := .fields #[vl, vu, vs] } } := I4.kept (t' := s4.toks) fun b ob q => Heap.get?_push_of_some _ q
  obtain ⟨its, r, ht, hz⟩ := I5.tuple hx
  have hlen := r.length
  show wpAny (model X.prog X.w) X.A (subscriptTail e (.Slice none none (some (.UnaryOp .USub (.Constant (.int 1) k p1) p2)) p3) (.ref a) (.ref s4.heap.objs.size)) (EP X pins σ Q) X.xe { s4 with heap := s4.heap.push { cls := .type "slice", data := .fields #[vl, vu, vs] } }
  refine tail_any (ops := [.ref a, .ref s4.heap.objs.size]) ht.typeIs PyProof.Rows.slot_tuple_getitem.lookup ?_ (by with_unfolding_all rfl)
  refine HT.fl_tuple_rev ht (Heap.IsSliceOf.new _ vl vu vs) pl pu ps ?_ (by rw [List.size_toArray]; omega)
  refine ⟨.ref _, _, I5.laid (t' := s4.toks) (o := .tup xs.reverse) (fun b ob q => Heap.get?_push_of_some _ q) (Nat.le_refl _) ?_, rfl, q _ (I5.hok.fresh (Nat.le_refl _))⟩
  exact ⟨by rw [List.length_reverse]; exact hz, its.reverse, r.reverse, ⟨_, Heap.get?_push_size _ rfl, rfl, _, rfl⟩⟩
section
variable {X : Cx} {T : Tab} {pu pa pb pc : Bool} {a b c e : Expr} {es : List Expr} {fa fb : FE} {ft : FT} {p p1 p2 p3 pos : Pos}
@[simp] def dRevT : D → Option D
  | .tup l => some (.tup l.reverse)
  | .tp l => some (.tup l.reverse)
  | _ => none
@[simp] def dRevL : D → Option (List D)
  | .lst l => some l.reverse
  | _ => none
theorem pef_revT {k : Nat} (h : PEf X T pa e fa) : PEf X T pa (.Subscript e (.Slice none none (some (.UnaryOp .USub (.Constant (.int 1) k p1) p2)) p3) pos) (fUn dRevT fa) where
  pe := (pe_revT h.pe).imp fun σ H Q ⟨C, ρ, G, d, ρ', S, hh, kk⟩ => by
    obtain ⟨⟨dx, ρ1⟩, e1, hh⟩ := Option.bind_eq_some_iff.mp hh
    obtain ⟨z', e3, hh⟩ := Option.map_eq_some_iff.mp hh
    cases hh
    refine ⟨C, ρ, G, dx, ρ1, S, e1, fun x H1 G1 n1 r1 => ?_⟩
    cases r1 with
    | tup hg rr =>
      cases e3
      exact ⟨_, _, rfl, .inl (.inl (n1.st.gh _ _ hg)), fun q hq => kk _ _ _ (n1.stp (Stp.new n1.st.gh hq)) (.tup upd_same (rr.reverse.mono (Ex.new (n1.st.gh.free hq))))⟩
    | tp hg _ rr =>
      cases e3
      exact ⟨_, _, rfl, .inl (.inr ⟨_, n1.st.gh _ _ hg⟩), fun q hq => kk _ _ _ (n1.stp (Stp.new n1.st.gh hq)) (.tup upd_same (rr.reverse.mono (Ex.new (n1.st.gh.free hq))))⟩
    | _ => cases e3
  same := un_same h.same
theorem peo_revL {k : Nat} (h : PEf X T pa e fa) : PEo X T pa (.Subscript e (.Slice none none (some (.UnaryOp .USub (.Constant (.int 1) k p1) p2)) p3) pos) (fLst (fUn dRevL fa)) where
  pe := (pe_revL h.pe).imp fun σ H Q ⟨C, ρ, G, d, ρ', S, hh, kk⟩ => by
    obtain ⟨⟨l', ρ2⟩, h2, e0⟩ := Option.bind_eq_some_iff.mp hh
    cases e0
    obtain ⟨⟨dx, ρ1⟩, e1, h2⟩ := Option.bind_eq_some_iff.mp h2
    obtain ⟨z', e3, h2⟩ := Option.map_eq_some_iff.mp h2
    cases h2
    refine ⟨C, ρ, G, dx, ρ1, S, e1, fun x H1 G1 n1 r1 => ?_⟩
    cases r1 with
    | lst hg rr =>
      cases e3
      exact ⟨_, _, rfl, .inl (.inl (n1.st.gh _ _ hg)), fun q hq => kk _ _ _ (n1.push hq rr.reverse)⟩
    | _ => cases e3
  same := fun hp ρ z ρ' hh => by
    obtain ⟨⟨l', ρ2⟩, h2, e0⟩ := Option.bind_eq_some_iff.mp hh
    cases e0
    exact un_same h.same hp _ _ _ h2

/-! ### truth -/
@[simp] def dTruth : D → Option Bool
  | .non => some false
  | .bl b => some b
  | .int i => some (i != 0)
  | .lst l => some (!l.isEmpty)
  | .tup l => some (!l.isEmpty)
  | .tp l => some (!l.isEmpty)
  | _ => none
theorem reps_empty {G : Hp} {l : List D} {xs : List V} (r : Reps T G l xs) : l.isEmpty = xs.isEmpty := by
  cases r <;> rfl
theorem tru_of {K : PySem.W.Frag} {G H : Hp} {d : D} {x : V} {t : Bool} (e : Ex G H) (r : Rep T G d x) (h : dTruth d = some t) : TruV K x H t := by
  cases r with
  | non => cases h; rfl
  | bl b => cases h; rfl
  | int i => cases h; rfl
  | lst hg rr => cases h; rw [reps_empty rr]; exact .inl ⟨_, .inl (.inl (e _ _ hg)), rfl⟩
  | tup hg rr => cases h; rw [reps_empty rr]; exact .inr (.inl ⟨_, .inl (.inl (e _ _ hg)), rfl⟩)
  | tp hg _ rr => cases h; rw [reps_empty rr]; exact .inr (.inl ⟨_, .inl (.inr ⟨_, e _ _ hg⟩), rfl⟩)
  | _ => cases h
theorem l_truth {K : PySem.W.Frag} : LiftT T (fun x H Q => ∃ k, TruV K x H k ∧ Q k H) dTruth := fun H G dx x b e r h Q q => ⟨b, tru_of e r h, q⟩
/-- if e: by truth -/
theorem ptf_tru (h : PEf X T pa e fa) (he : ∀ whole, isTrue e X.env whole = (do let v ← whole; standAt e.pos; holding [v] (truthy v)) := by intro _; rfl) : PTf X T pa e (fUn dTruth fa) := ptf_truth l_truth h he
@[simp] def dNotT (d : D) : Option D := (dTruth d).map fun b => .bl (!b)
theorem pef_notT (h : PEf X T pa a fa) : PEf X T pa (.UnaryOp .Not a pos) (fUn dNotT fa) where
  pe := (pe_notT h.pe).imp fun σ H Q ⟨C, ρ, G, d, ρ', S, hh, kk⟩ => by
    obtain ⟨⟨dx, ρ1⟩, e1, hh⟩ := Option.bind_eq_some_iff.mp hh
    obtain ⟨z', e3, hh⟩ := Option.map_eq_some_iff.mp hh
    cases hh
    refine ⟨C, ρ, G, dx, ρ1, S, e1, fun x H1 G1 n1 r1 => ?_⟩
    obtain ⟨b, e4, e5⟩ := Option.map_eq_some_iff.mp e3
    subst e5
    exact ⟨b, tru_of n1.st.gh r1 e4, kk _ H1 G1 n1 (.bl _)⟩
  same := un_same h.same

/-! ### a, b = e -/
theorem psf_tgt {tg : Expr} {js : List Nat} {g : FG} (he : PEf X T pa e fa) (hg : PGf X T tg js g) (hs : swapsWithSole [tg] e pos.line X.env = pure false := by rfl) (hw : swappedStores [tg] e X.env = pure none := by rfl)
    (h1 : (assignEach [tg] X.env).map (·.2) = [assign tg X.env] := by rfl) : PSf X T (.Assign [tg] e pos) (fTo g fa) := psf_to (ps := ps_asg he.pe hg.pg hs hw h1)

/-! ### lists of lists that the def owns -/
@[simp] def fLc0 (it : FA) (g : FG) (vs : List Nat) : FO := fun ρ => (it ρ).bind fun x => if x.1.length < many && noOwn x.2 vs && x.1.all (fun d => (g d (wipeF x.2 vs)).isSome) then some (.ll (x.1.map fun _ => []), x.2) else none
theorem lls_new {G H : Hp} {n : Nat} {as : List Addr} (hl : as.length = n) (h : ∀ a ∈ as, H a = some (.lst [])) : LLs T G H (List.replicate n []) as := by
  induction as generalizing n with
  | nil => subst hl; exact .nil
  | cons a as ih =>
    subst hl
    exact .cons ⟨[], h a (by simp), .nil⟩ (ih rfl fun b hb => h b (by simp [hb]))
theorem lc0_run {σ : L2.St} {H : Hp} {Q : VK} {fi : FA} {g : FG} {js vs : List Nat} (hs : ∀ j ∈ js, j ∈ vs) (hg : Keeps js g) (h : tOw T pa (fLc0 fi g vs) σ H Q) : tLc (tIt T pa fi) (tG T js g) tYes (tLst tNil) vs σ H Q := by
  obtain ⟨C, ρ, G, o, ρ', S, hh, k⟩ := h
  obtain ⟨⟨ds, ρ1⟩, e1, hh⟩ := Option.bind_eq_some_iff.mp hh
  dsimp only at hh
  split at hh
  case isFalse => cases hh
  rename_i hc
  cases hh
  rw [Bool.and_eq_true, Bool.and_eq_true] at hc
  obtain ⟨⟨hlen, hno⟩, hall⟩ := hc
  have hlen := of_decide_eq_true hlen
  refine ⟨C, ρ, G, ds, _, S, e1, fun J H1 G1 n1 ⟨Y, W, wy⟩ D hD => ?_⟩
  have gD : G1 D = none := n1.st.gh.free hD
  refine ⟨fun i m H' => m = ds.length - i ∧ i ≤ ds.length ∧ ∃ (G2 : Hp) (as : List Addr), Stp H1 G1 H' G2 ∧ H' D = some (.lst (as.map .ref)) ∧ G2 D = none ∧ as.length = i ∧ (∀ a ∈ as, H1 a = none ∧ H' a = some (.lst []) ∧ G2 a = none ∧ a ≠ D) ∧ as.Nodup,
    ⟨_, rfl, Nat.zero_le _, G1, [], Stp.grow n1.st.gh hD, upd_same, gD, rfl, by simp, List.nodup_nil⟩, ?_⟩
  rintro i m H2 ⟨rfl, hi, G2, as, st, hDs, gD2, hal, has, hnd⟩
  by_cases hlt : i < ds.length
  · refine .inr ⟨W.goes i H2 hlt (st.gg.trans st.gh), fun H' => ∃ (G2 : Hp) (as : List Addr), Stp H1 G1 H' G2 ∧ H' D = some (.lst (as.map .ref)) ∧ G2 D = none ∧ as.length = i + 1 ∧ (∀ a ∈ as, H1 a = none ∧ H' a = some (.lst []) ∧ G2 a = none ∧ a ≠ D) ∧ as.Nodup, fun H' q => ⟨ds.length - (i + 1), by omega, rfl, hlt, q⟩, fun x H' y => ?_⟩
    have yy := W.yields i H2 x H' hlt (st.gg.trans st.gh) y
    obtain ⟨d, G3, hd, st3, rd⟩ := wy i H2 x H' G2 st.gg st.gh yy
    have hd' : d ∈ ds := List.mem_of_getElem? hd
    have hso := List.all_eq_true.mp hall d hd'
    obtain ⟨ρ3, e3⟩ := Option.isSome_iff_exists.mp hso
    have st13 := st.trans st3
    have S3 := (n1.st.stp st13).wiped vs
    refine ⟨C, _, G3, d, ρ3, S3, rd, e3, fun σ2 S4 hl3 k3 => ⟨wipe_eq (by rw [hl3, wipe_length]) hs k3, ?_⟩⟩
    unfold tYes; dsimp only
    rw [if_pos rfl]
    refine ⟨Nat.zero_le _, fun q hq => ?_⟩
    have hDs3 := st3.hh _ _ hDs
    have qD : q ≠ D := fun z => by rw [z, hDs3] at hq; cases hq
    have gq : G3 q = none := st3.gh.free hq
    have gD3 : G3 D = none := st3.fr D _ hDs (fun _ z => nomatch z) gD2
    refine ⟨as.map .ref, by rw [upd_ne (Ne.symm qD)]; exact hDs3, Nat.lt_of_lt_of_le (by simp; omega) many_le, G3, as ++ [q], ⟨?_, st13.gg, ?_, fun a u ha t ga => st13.fr a u ha t ga⟩, by rw [upd_same]; simp, gD3, by simp [hal], fun a ha => ?_, List.nodup_append.mpr ⟨hnd, List.nodup_cons.mpr ⟨by simp, List.nodup_nil⟩, fun a ha b hb z => ?_⟩⟩
    · intro a u ha
      have n1' : a ≠ q := fun z => by rw [z, st13.hh.free hq] at ha; cases ha
      have n2' : a ≠ D := fun z => by rw [z, hD] at ha; cases ha
      rw [upd_ne n2', upd_ne n1']
      exact st13.hh a u ha
    · intro a u ha
      have n1' : a ≠ q := fun z => by rw [z, gq] at ha; cases ha
      have n2' : a ≠ D := fun z => by rw [z, gD3] at ha; cases ha
      rw [upd_ne n2', upd_ne n1']
      exact st13.gh a u ha
    · rcases List.mem_append.mp ha with ha | ha
      · obtain ⟨h1, h2, h3, h4⟩ := has a ha
        have h2' := st3.hh _ _ h2
        have n1' : a ≠ q := fun z => by rw [z, hq] at h2'; cases h2'
        exact ⟨h1, by rw [upd_ne h4, upd_ne n1']; exact h2', st3.fr a _ h2 (fun _ z => nomatch z) h3, h4⟩
      · have ha : a = q := by simpa using ha
        subst ha
        exact ⟨st13.hh.free hq, by rw [upd_ne qD, upd_same], gq, qD⟩
    · have hb : b = q := by simpa using hb
      have h2 := st3.hh _ _ (has a ha).2.1
      rw [z, hb, hq] at h2
      cases h2
  · have e : i = ds.length := by omega
    subst e
    refine .inl ⟨W.stops H2 (st.gg.trans st.gh), k _ H2 G2 ⟨?_, n1.ex.trans st.gg, fun hp => (n1.pu hp).trans st.hh⟩⟩
    refine (n1.st.stp st).push (fp := D :: as) ⟨D, as, rfl, rfl, hDs, ?_, List.nodup_cons.mpr ⟨fun z => (has D z).2.2.2 rfl, hnd⟩⟩ fun b hb => ?_
    · have e4 : (ds.map fun _ => ([] : List Fl.D)) = List.replicate ds.length [] := List.map_const'
      rw [e4]
      exact lls_new hal fun a ha => (has a ha).2.1
    · have hb1 : H1 b = none ∧ G2 b = none := by
        rcases List.mem_cons.mp hb with z | z
        · subst z; exact ⟨hD, gD2⟩
        · exact ⟨(has b z).1, (has b z).2.2.1⟩
      refine ⟨hb1.2, n1.st.freeH0 hb1.1, fun j f o' v' fp' q1 q2 q3 hb' => ?_⟩
      obtain ⟨ow, q⟩ := n1.st.own
      obtain ⟨w, fp2, y1, y2, y3⟩ := q j f o' q1
      rw [q2] at y1
      cases y1
      rw [q3.fpEq (y2.mono st.gg fun a _ u hu => st.hh a u hu)] at hb'
      obtain ⟨u, eu, _⟩ := y2.there b hb'
      rw [hb1.1] at eu
      cases eu
theorem lc0_same {fi : FA} {g : FG} {vs : List Nat} (h : Same1 pa fi) : Same1 pa (fLc0 fi g vs) := fun hp ρ z ρ' hh => by
  obtain ⟨⟨ds, ρ1⟩, e1, hh⟩ := Option.bind_eq_some_iff.mp hh
  dsimp only at hh
  split at hh
  · cases hh; exact h hp _ _ _ e1
  · cases hh
theorem peo_lc0 {tg iter : Expr} {fi : FA} {g : FG} {js : List Nat} {scope : Scope} {own : List (Str × Nat)} {pl : Pos} (hc : X.calm = true) (hN : X.N.Nodup) (ok : BlkOk X.N X.env.scope scope own) (hi : PIf X T pa tg iter fi)
    (hg : ∀ (s : Shared) (H : Hp) (C : Addr) (cl : List (Str × Addr)) (fp : List Addr), PGf (X.blk s H scope (compEnvC scope cl C X.env) fp) T tg js g) (hsub : ∀ j ∈ js, j ∈ own.map (·.2) := by decide) (hs : ∀ x, foldedSetIterable iter X.env x = pure x := by intro _; rfl) :
    PEo X T pa (.ListComp (.List [] pl) [⟨tg, iter, [], 0⟩] scope pos) (fLc0 fi g (own.map (·.2))) where
  pe := (pe_lc hc hN hi.pi ok (fun s H C cl fp => (hg s H C cl fp).pg) (fun s H C cl fp => pts_nil) (fun s H C cl fp => pe_lst pa_nil) hs).imp fun σ H Q h => lc0_run hsub (hg X.s_0 (fun _ => none) 0 [] []).keep h
  same := lc0_same hi.same
theorem psf_setLc0 {i : Nat} {y : Str} {py : Pos} {tg iter : Expr} {fi : FA} {g : FG} {js : List Nat} {scope : Scope} {own : List (Str × Nat)} {pl spos : Pos} (hc : X.calm = true) (hN : X.N.Nodup) (ok : BlkOk X.N X.env.scope scope own) (hi : PIf X T pa tg iter fi)
    (hg : ∀ (s : Shared) (H : Hp) (C : Addr) (cl : List (Str × Addr)) (fp : List Addr), PGf (X.blk s H scope (compEnvC scope cl C X.env) fp) T tg js g) (hsub : ∀ j ∈ js, j ∈ own.map (·.2) := by decide) (hs : ∀ x, foldedSetIterable iter X.env x = pure x := by intro _; rfl)
    (hy : X.N[i]? = some y := by rfl) (hyl : X.env.scope.names.lookup y = some .local := by rfl) (hsw : swapsWith (.ListComp (.List [] pl) [⟨tg, iter, [], 0⟩] scope pos) (some (.Name y py)) spos.line X.env = pure true := by exact sw_true rfl rfl rfl rfl) :
    PSf X T (.Assign [.Name y py] (.ListComp (.List [] pl) [⟨tg, iter, [], 0⟩] scope pos) spos) (fSetO i (fLc0 fi g (own.map (·.2)))) :=
  ⟨(ps_setLc hc hN hy hyl hsw hi.pi ok (fun s H C cl fp => (hg s H C cl fp).pg) (fun s H C cl fp => pts_nil) (fun s H C cl fp => pe_lst pa_nil) hs).imp fun D σ H ⟨C, ρ, G, out, S, hh, k⟩ => by
    obtain ⟨⟨d, ρ1⟩, e1, hh⟩ := Option.bind_eq_some_iff.mp hh
    cases hh
    exact lc0_run hsub (hg X.s_0 (fun _ => none) 0 [] []).keep ⟨C, ρ, G, d, ρ1, S, e1, fun v H1 G1 n1 => k _ H1 G1 n1.st.assignOwn n1.ex⟩⟩
end
end Fl
end

section
set_option Elab.async false
set_option linter.all false
set_option autoImplicit false
set_option maxRecDepth 100000
set_option maxHeartbeats 2000000
namespace Fl
open PySem PySem.Spec PyProof.Rows L2

/-! ### x[n].append(e), x a list of lists that the def owns -/
theorem LLs.get {T : Tab} {G H : Hp} {dss : List (List D)} {as : List Addr} {k : Nat} {ds : List D} (r : LLs T G H dss as) (h : dss[k]? = some ds) : ∃ b xs, as[k]? = some b ∧ H b = some (.lst xs) ∧ Reps T G ds xs := by
  unfold LLs at r
  induction r generalizing k with
  | nil => simp at h
  | cons r1 r2 ih =>
    cases k with
    | zero => simp at h; subst h; obtain ⟨xs, e1, e2⟩ := r1; exact ⟨_, xs, rfl, e1, e2⟩
    | succ k => simp at h; obtain ⟨b, xs, e, q⟩ := ih h; exact ⟨b, xs, by simpa using e, q⟩
theorem LLs.length {T : Tab} {G H : Hp} {dss : List (List D)} {as : List Addr} (r : LLs T G H dss as) : dss.length = as.length := Paired.length r
theorem LLs.set {T : Tab} {G H : Hp} {dss : List (List D)} {as : List Addr} {k : Nat} {b : Addr} {es : List D} {ys : List V} (r : LLs T G H dss as) (h : as[k]? = some b) (nd : as.Nodup) (q : Reps T G es ys) : LLs T G (upd H b (.lst ys)) (dss.set k es) as := by
  unfold LLs at *
  induction r generalizing k with
  | nil => simp at h
  | @cons d1 a1 l1 l2 r1 r2 ih =>
    have nd' := List.nodup_cons.mp nd
    cases k with
    | zero =>
      simp at h
      subst h
      refine .cons ⟨ys, upd_same, q⟩ ?_
      clear ih nd
      have : ∀ (l1 : List (List D)) (l2 : List Addr), a1 ∉ l2 → Paired (fun (ds : List D) (a : Addr) => ∃ xs, H a = some (.lst xs) ∧ Reps T G ds xs) l1 l2 → Paired (fun (ds : List D) (a : Addr) => ∃ xs, upd H a1 (.lst ys) a = some (.lst xs) ∧ Reps T G ds xs) l1 l2 := by
        intro l1 l2 hn r
        induction r with
        | nil => exact .nil
        | cons r1 r2 ih =>
          obtain ⟨xs, e1, e2⟩ := r1
          exact .cons ⟨xs, by rw [upd_ne (by intro z; exact hn (by simp [z]))]; exact e1, e2⟩ (ih fun z => hn (by simp [z]))
      exact this l1 l2 nd'.1 r2
    | succ k =>
      simp at h
      obtain ⟨xs, e1, e2⟩ := r1
      have : a1 ≠ b := fun z => nd'.1 (by rw [z]; exact List.mem_of_getElem? h)
      exact .cons ⟨xs, by rw [upd_ne this]; exact e1, e2⟩ (ih h nd'.2)
section
variable {X : Cx} {T : Tab} {pu pa pb : Bool} {a b c e : Expr} {es : List Expr} {f fa fb fc : FE} {fs : FA} {p pos pos' : Pos}
@[simp] def fAppL (i : Nat) (fn f : FE) : FS := fun ρ => (fn ρ).bind fun n => (f n.2).bind fun x => match ρ[i]?, n.1 with
  | some (some (.own g (.ll l))), .int j => match ixN l.length j with
    | some k => match l[k]? with
      | some ds => if ds.length < many then some (.nx (ρ.set i (some (.own g (.ll (l.set k (ds ++ [x.1]))))))) else none
      | none => none
    | none => none
  | _, _ => none
theorem ixN_atI {α : Type} {l : List α} {j : Int} {k : Nat} (h : ixN l.length j = some k) : atI l j = l[k]? := by
  unfold atI
  rw [h]
  rfl
theorem psf_appL {i : Nat} {x : Str} {apos cpos np sp : Pos} (hn : PEf X T true a fa) (he : PEf X T true e f) (hN : X.N[i]? = some x := by rfl) (hv : Vis X.env.scope x := by first | exact Or.inl rfl | exact Or.inr (Or.inl rfl) | exact Or.inr (Or.inr rfl)) (hd : (x == ("__debug__" : Str)) = false := by decide) (hcd : (x == ("__classdict__" : Str)) = false := by decide)
    (hpx : PlainIx a := by exact fun _ _ => rfl)
    (hpl : ∀ {ta tb : TE}, PE X (.Subscript (.Name x np) a sp) ta → PE X e tb → PE X (.Call (.Attribute (.Subscript (.Name x np) a sp) "append" apos) [e] [] cpos) (tBM X.K "list" rAppend ta (tCons tb tNil)) := by
      exact fun h1 h2 => pe_bm PySem.F.plainAttrs_list PySem.F.slot_list_append PySem.F.type_list_append mt_append h1 (pa_cons h2 pa_nil))
    (hs : swapsWith (.Call (.Attribute (.Subscript (.Name x np) a sp) "append" apos) [e] [] cpos) none pos.line X.env = pure false := by rfl) :
    PSf X T (.Expr (.Call (.Attribute (.Subscript (.Name x np) a sp) "append" apos) [e] [] cpos) pos) (fAppL i fa f) :=
  ⟨(ps_expr (hpl (pe_ix ix_list (pe_var hN hv hd hcd) hn.pe hpx) he.pe) hs).imp fun D σ H ⟨C, ρ, G, out, S, hh, k⟩ => by
    obtain ⟨⟨dn, ρ1⟩, e1, hh⟩ := Option.bind_eq_some_iff.mp hh
    obtain ⟨⟨dx, ρ2⟩, e2, hh⟩ := Option.bind_eq_some_iff.mp hh
    have q1 : ρ1 = ρ := hn.same rfl _ _ _ e1
    subst q1
    have q2 : ρ2 = ρ1 := he.same rfl _ _ _ e2
    subst q2
    dsimp only at hh
    split at hh
    · rename_i g l j hi _
      split at hh
      · rename_i kk hk
        split at hh
        · rename_i ds hds
          split at hh
          · rename_i hl
            cases hh
            obtain ⟨ow, hw⟩ := S.own
            obtain ⟨v, fp, y1, ⟨a0, as, rfl, rfl, h1, h2, nd⟩, y3⟩ := hw i g _ hi
            obtain ⟨b0, xs, hb1, hb2, hb3⟩ := h2.get hds
            refine ⟨.ref a0, y1, C, _, G, _, _, S, e1, fun z H1 G1 n1 r1 => ?_⟩
            cases r1
            have hA := n1.pu rfl _ _ h1
            have hB := n1.pu rfl _ _ hb2
            have hat : atI (as.map V.ref) j = some (.ref b0) := by
              have hk' : ixN (as.map V.ref).length j = some kk := by rw [List.length_map, ← h2.length]; exact hk
              rw [ixN_atI hk', List.getElem?_map, hb1]
              rfl
            refine ⟨a0, as.map .ref, j, .ref b0, rfl, rfl, SqL.of hA, hat, .inl ⟨rfl, xs, SqL.of hB⟩, C, _, G1, dx, _, n1.st, e2, fun y H2 G2 n2 r2 => ?_⟩
            have hA2 := n2.pu rfl _ _ hA
            have hB2 := n2.pu rfl _ _ hB
            refine ⟨b0, xs, y, rfl, rfl, hB2, Nat.lt_of_lt_of_le (by rw [← hb3.length]; exact hl) many_le, ?_⟩
            have x12 := n1.ex.trans n2.ex
            have nab : a0 ≠ b0 := fun z => (List.nodup_cons.mp nd).1 (by rw [z]; exact List.mem_of_getElem? hb1)
            have old : OwnOk T G2 H2 (.ll l) (.ref a0) (a0 :: as) := OwnOk.mono (o := .ll l) x12 (fun b _ u hu => n2.pu rfl _ _ (n1.pu rfl _ _ hu)) ⟨a0, as, rfl, rfl, h1, h2, nd⟩
            obtain ⟨a9, as9, z1, z2, o1, o2, o3⟩ := id old
            cases z1
            have z2 := (List.cons.inj z2).2
            subst z2
            refine k _ _ G2 (n2.st.updOwn hi (fun b u hb hu => ?_) (fun b u hb tb => ?_) y1 old (fp' := a0 :: as) ⟨a0, as, rfl, rfl, by rw [upd_ne nab]; exact hA2, o2.set hb1 (List.nodup_cons.mp nd).2 ((hb3.mono x12).append (.cons r2 .nil)), nd⟩ fun b hb => .inl hb) x12
            · rw [upd_ne (by intro z; exact hb (by rw [z]; exact List.mem_cons_of_mem _ (List.mem_of_getElem? hb1)))]
              exact hu
            · by_cases z : b = b0
              · subst z; exact ⟨_, upd_same, fun _ w => nomatch w⟩
              · exact ⟨u, by rw [upd_ne z]; exact hb, tb⟩
          · cases hh
        · cases hh
      · cases hh
    · cases hh⟩

/-! ### classes of the program -/
structure ClsOk (K : PySem.W.Frag) (C : Addr) : Prop where
  cls : Cls K C
  ha : PySem.W.findIn K (.ref C) "__class__" = some (some (.builtin "object.__class__"))
  hn : PySem.W.specialIn K (.builtin "object.__class__") "__get__" = some (some (.builtin "getset_descriptor.__get__"))
  htk : PySem.W.takesIn K (.builtin "object.__class__") = some true
  hm : PySem.W.mroIn K C (.type "object") = some true
  n1 : PySem.W.kitOne K (.type "NoneType") (.ref C) = some false
  n2 : PySem.W.kitOne K (.type "bool") (.ref C) = some false
  n3 : PySem.W.kitOne K (.type "int") (.ref C) = some false
  n4 : PySem.W.kitOne K (.type "str") (.ref C) = some false
  n5 : PySem.W.kitOne K (.type "tuple") (.ref C) = some false
  n6 : PySem.W.kitOne K (.type "list") (.ref C) = some false
theorem upd_upd {H : Hp} {x : Addr} {a b : HO} : upd (upd H x a) x b = upd H x b := by
  funext c
  by_cases h : c = x
  · subst h; rw [upd_same, upd_same]
  · rw [upd_ne h, upd_ne h, upd_ne h]
/-- what __init__ does that stores its arguments -/
def spMk (C : Addr) (ns : List Str) : Sp := fun vs H Q _ => vs.length = ns.length + 1 ∧ ∃ x dx us, vs = .ref x :: us ∧ H x = some (.ins C dx []) ∧ Q .non (upd H x (.ins C dx (ns.zip us)))
@[simp] def dMake (c n : Nat) : List D → Option D := fun ds => if ds.length = n then some (.obj c ds) else none
structure MkC (X : Cx) (T : Tab) (x : Str) (c : Nat) (ns : List Str) : Prop where
  ex : ∃ (C : Addr) (k : Nat) (f : Addr) (fd : FuncData) (ps : List Str), Mk X.K C f ∧ FnOk X.prog X.w X.K X.mg X.base CX0 k f fd ps (spMk C ns) ∧ Room (k + 1) X.A ∧ X.mg x = some (.ref C) ∧ Binds X.K fd ps [] ∧ T.cls c = some (C, ns)
theorem pef_make {x : Str} {c : Nat} {ns : List Str} (M : MkC X T x c ns) (ha : PAf X T pa (e :: es) fs) (hg : Gl X x := by rfl) (hdb : (x == ("__debug__" : Str)) = false := by decide)
    (he : starEach (e :: es) X.env = (false, eval e X.env) :: starEach es X.env := by rfl) (hpl : (backTo pos (starEach es X.env)).any (·.1) = false := by rfl) : PEf X T pa (.Call (.Name x p) (e :: es) [] pos) (fArgs (dMake c ns.length) fs) := by
  obtain ⟨C, k, f, fd, ps, mk, F, hr, hm, hb, ht⟩ := M.ex
  refine ⟨(pe_make mk F hr hg hm hb .nil pass0 ha.pa hdb he hpl).imp fun σ H Q ⟨C0, ρ, G, d, ρ', S, hh, kk⟩ => ?_, args_same ha.same⟩
  obtain ⟨⟨dx, ρ1⟩, e1, hh⟩ := Option.bind_eq_some_iff.mp hh
  obtain ⟨z', e3, hh⟩ := Option.map_eq_some_iff.mp hh
  cases hh
  refine ⟨C0, ρ, G, dx, ρ1, S, e1, fun xs H1 G1 n1 r1 => fun q dq hq hdq nq => ?_⟩
  simp only [dMake] at e3
  split at e3
  · rename_i hl
    cases e3
    have hq' : upd H1 dq (.own q) q = none := by rw [upd_ne (Ne.symm nq)]; exact hq
    have st1 : Stp H1 G1 (upd H1 dq (.own q)) (upd G1 dq (.own q)) := Stp.new n1.st.gh hdq
    refine ⟨by rw [List.length_cons, List.length_append, ← r1.length]; simp [hl], q, dq, xs, by simp, upd_same, rfl, ?_⟩
    rw [upd_upd]
    have st2 := st1.trans (Stp.new (o := .ins C dq (ns.zip xs)) st1.gh hq')
    refine kk _ _ _ (n1.stp st2) (.obj ht upd_same (by rw [← r1.length]; exact hl.symm) (r1.mono st2.gg))
  · cases e3
theorem lookup_zip {ns : List Str} {xs : List V} {i : Nat} {n : Str} {v : V} (nd : ns.Nodup) (h1 : ns[i]? = some n) (h2 : xs[i]? = some v) : (ns.zip xs).lookup n = some v := by
  induction ns generalizing xs i with
  | nil => simp at h1
  | cons m ns ih =>
    cases xs with
    | nil => simp at h2
    | cons w xs =>
      cases i with
      | zero => simp at h1 h2; subst h1 h2; simp [List.lookup]
      | succ i =>
        simp at h1 h2
        have hn : n ≠ m := fun z => (List.nodup_cons.mp nd).1 (by rw [← z]; exact List.mem_of_getElem? h1)
        rw [List.zip_cons_cons, List.lookup_cons, show (n == m) = false by simpa using hn]
        exact ih (List.nodup_cons.mp nd).2 h1 h2
@[simp] def dFld (c i : Nat) : D → Option D
  | .obj c' l => if c' = c then l[i]? else none
  | _ => none
structure FldC (K : PySem.W.Frag) (T : Tab) (c i : Nat) (at_ : Str) : Prop where
  ex : ∃ C ns, T.cls c = some (C, ns) ∧ ns.Nodup ∧ ns[i]? = some at_ ∧ Cls K C ∧ NoAttr K C at_
theorem pef_fld {c i : Nat} {at_ : Str} (F : FldC X.K T c i at_) (h : PEf X T pa e fa) (hb : attributeBase e at_ X.env (eval e X.env) = eval e X.env := by rfl) : PEf X T pa (.Attribute e at_ pos) (fUn (dFld c i) fa) where
  pe := (pe_fld h.pe hb).imp fun σ H Q ⟨C0, ρ, G, d, ρ', S, hh, kk⟩ => by
    obtain ⟨⟨dx, ρ1⟩, e1, hh⟩ := Option.bind_eq_some_iff.mp hh
    obtain ⟨z', e3, hh⟩ := Option.map_eq_some_iff.mp hh
    cases hh
    refine ⟨C0, ρ, G, dx, ρ1, S, e1, fun x H1 G1 n1 r1 => ?_⟩
    obtain ⟨C, ns, t1, t2, t3, t4, t5⟩ := F.ex
    cases r1 with
    | obj ht hg hl rr =>
      simp only [dFld] at e3
      split at e3
      · rename_i hc
        subst hc
        rw [t1] at ht
        cases ht
        obtain ⟨v, ev, rv⟩ := rr.get e3
        exact ⟨_, C, _, _, v, rfl, n1.st.gh _ _ hg, t4, t5, lookup_zip t2 t3 ev, kk v H1 G1 n1 rv⟩
      · cases e3
    | _ => cases e3
  same := un_same h.same
@[simp] def dIsiC (c : Nat) : D → Option D
  | .obj c' _ => if c' = c then some (.bl true) else none
  | .fn _ => none
  | _ => some (.bl false)
theorem kit_self {K : PySem.W.Frag} {C : Addr} : PySem.W.kitOne K (.ref C) (.ref C) = some true := by
  unfold PySem.W.kitOne
  rw [if_pos (by simp)]
structure IsiC (X : Cx) (T : Tab) (x : Str) (c : Nat) : Prop where
  ex : ∃ C ns, T.cls c = some (C, ns) ∧ X.mg x = some (.ref C) ∧ ClsOk X.K C
theorem pef_isiC {x : Str} {c : Nat} {np : Pos} (I : IsiC X T x c) (hm : X.mg "isinstance" = none) (ha : PEf X T pa a fa) (hg : Gl X "isinstance" := by rfl) (hgx : Gl X x := by rfl) (hdx : (x == ("__debug__" : Str)) = false := by decide)
    (he : starEach [a, .Name x np] X.env = (false, eval a X.env) :: starEach [.Name x np] X.env := by rfl) (he2 : starEach [.Name x np] X.env = (false, eval (.Name x np) X.env) :: starEach [] X.env := by rfl)
    (hpl : (backTo pos (starEach [.Name x np] X.env)).any (·.1) = false := by rfl) : PEf X T pa (.Call (.Name "isinstance" p) [a, .Name x np] [] pos) (fUn (dIsiC c) fa) := by
  obtain ⟨C, ns, t1, t2, t3⟩ := I.ex
  have hb : PE X (.Name x np) (tC (.ref C)) := pe_glob hgx t2 rfl hdx
  refine ⟨(pe_callB (call_isi (X := X)) hg hm (by decide +kernel) (pa_cons ha.pe (pa_cons hb pa_nil he2) he) (by decide) (by decide) he hpl).imp fun σ H Q ⟨C0, ρ, G, d, ρ', S, hh, k⟩ => ?_, un_same ha.same⟩
  obtain ⟨⟨dx, ρ1⟩, e1, hh⟩ := Option.bind_eq_some_iff.mp hh
  obtain ⟨z', e3, hh⟩ := Option.map_eq_some_iff.mp hh
  cases hh
  refine ⟨C0, ρ, G, dx, ρ1, S, e1, fun x H1 G1 n1 r1 => ?_⟩
  have fin : ∀ {n : String}, TyX X.K H1 x (.type n) → PySem.W.kitOne X.K (.type n) (.ref C) = some false → some (D.bl false) = some d → rIsi X.K (x :: V.ref C :: []) H1 Q := fun {n} ty hk hd => by
    cases hd
    exact ⟨x, .ref C, _, _, false, rfl, .own C, ty, hk, k _ H1 G1 n1 (.bl _)⟩
  cases r1 with
  | non => exact fin (.base .non) t3.n1 e3
  | bl b => exact fin (.base (.bl b)) t3.n2 e3
  | int i => exact fin (.base (.int i)) t3.n3 e3
  | str i => exact fin (.base (.str i)) t3.n4 e3
  | tup q _ => exact fin (.base (.tup (n1.st.gh _ _ q))) t3.n5 e3
  | tp q _ _ => exact fin (.fTuple (n1.st.gh _ _ q)) t3.n5 e3
  | lst q _ =>
    exact fin (.base (.lst (n1.st.gh _ _ q))) t3.n6 e3
  | obj ht hg hl rr =>
    simp only [dIsiC] at e3
    split at e3
    · rename_i hc
      subst hc
      rw [t1] at ht
      cases ht
      cases e3
      exact ⟨_, .ref C, _, _, true, rfl, .own C, .base (.ins (n1.st.gh _ _ hg) t3.cls t3.ha t3.hn t3.htk t3.hm), kit_self, k _ H1 G1 n1 (.bl _)⟩
    · cases e3
  | fn _ => cases e3

/-! ### defs with defaults -/
theorem ok_DD {K : PySem.W.Frag} {P : Program} {w : World} {mg : Str → Option Value} {base : Heap} {x qual : Str} {st : Stmt} {f : Addr} {fd : FuncData} {N ps : List Str} {k : Nat} {fb : FS} {dvs : List V} {kws : List (Str × V)} (F : FunD K x qual (defArgs st) (defBody st) (defScope st) dvs kws f fd) (S : FnScope N ps (defScope st))
    (hb : ∀ (cdv : Value) (A : Around) (outer : List Env) (s : Shared) (H : Hp) (E : XK), Room k (A.deeper (envOfC qual (defScope st) s.heap.objs.size f cdv)) → PSsf (cxOf CX0 P w K mg base N qual (defScope st) f cdv A outer s H E).nox T (defBody st) fb) :
    FnOk P w K mg base CX0 (k + 1) f fd ps (spD T ps.length (fnD fb N.length)) := by
  refine F.ok S (fun vs H Q E h => h.1) fun cdv A outer s H vs Q E hr h => ?_
  obtain ⟨hl, G, ds, r, eg, rd, hf, q⟩ := h
  refine ⟨_, (hb cdv A outer s H E hr).ps.nox, ?_⟩
  have hpl : ps.length ≤ N.length := by have := congrArg List.length S.pre; rw [List.length_take] at this; omega
  have S0 := sta_start (N := N) eg rd (by omega)
  unfold fnD at hf
  cases ho : fb (ds.map (fun d => some (.sh d)) ++ List.replicate (N.length - ds.length) none) with
  | none => rw [ho] at hf; cases hf
  | some out =>
    rw [ho] at hf
    refine ⟨_, _, G, out, S0, ho, ?_⟩
    cases out with
    | nx ρ => cases hf; exact fun σ' H' G' S' e' => q .non H' G' S'.toStp .non
    | rt s ρ =>
      cases hf
      cases r with
      | sh d => exact fun v σ' H' G' S' e' rv => q v H' G' S'.toStp rv
      | own g o => exact fun v σ' H' G' S' e' => q v H' G' S'.pop.toStp S'.last
    | bk ρ => cases hf
    | ct ρ => cases hf
end
end Fl
end

section
set_option Elab.async false
set_option linter.all false
set_option autoImplicit false
set_option maxRecDepth 100000
set_option maxHeartbeats 2000000
namespace Fl
open PySem PySem.Spec PyProof.Rows L2

/-! ### x in t, t a list or a tuple of data -/
def rInA (K : PySem.W.Frag) (no : Bool) : R2 := fun x y H Q => ∃ d ds, Dp K H x d ∧ (Dp K H y (.list ds) ∨ Dp K H y (.tuple ds)) ∧ SeqAt.shaped d = true ∧ SeqAt.shaped (.list ds) = true ∧ Q (.bl (xor no (ds.any fun z => PyData.eqv z d))) H
theorem op_inA {X : Cx} (hu : X.A.units + 65 < cLine) : OpR X (compareOp .In) (rInA X.K false) := by
  intro pins s σ H x y v u Q I rx ry h
  obtain ⟨d, ds, hd, he, sd, se, q⟩ := h
  rw [Bool.false_xor] at q
  obtain ⟨as, r1⟩ := Dp.reads I d x v hd rx
  rcases he with he | he
  · obtain ⟨bs, r2⟩ := Dp.reads I (.list ds) y u he ry
    exact SeqAt.in_list_reads r2 r1 (SeqAt.canLay_of_shaped se) (SeqAt.canLay_of_shaped sd) (room_in_shaped sd hu) ⟨.bl _, H, I, rfl, q⟩
  · obtain ⟨bs, r2⟩ := Dp.reads I (.tuple ds) y u he ry
    exact SeqAt.in_tuple_reads r2 r1 (SeqAt.canLay_of_shaped se) (SeqAt.canLay_of_shaped sd) (room_in_shaped sd hu) ⟨.bl _, H, I, rfl, q⟩
theorem op_notInA {X : Cx} (hu : X.A.units + 65 < cLine) : OpR X (compareOp .NotIn) (rInA X.K true) := by
  intro pins s σ H x y v u Q I rx ry h
  obtain ⟨d, ds, hd, he, sd, se, q⟩ := h
  rw [Bool.true_xor] at q
  obtain ⟨as, r1⟩ := Dp.reads I d x v hd rx
  rcases he with he | he
  · obtain ⟨bs, r2⟩ := Dp.reads I (.list ds) y u he ry
    exact SeqAt.notIn_list_reads r2 r1 (SeqAt.canLay_of_shaped se) (SeqAt.canLay_of_shaped sd) (room_in_shaped sd hu) ⟨.bl _, H, I, rfl, q⟩
  · obtain ⟨bs, r2⟩ := Dp.reads I (.tuple ds) y u he ry
    exact SeqAt.notIn_tuple_reads r2 r1 (SeqAt.canLay_of_shaped se) (SeqAt.canLay_of_shaped sd) (room_in_shaped sd hu) ⟨.bl _, H, I, rfl, q⟩
@[simp] def dInS (no : Bool) (d : D) (c : D) : Option D := (dSeq c).bind fun l => if fit 8 d && fits 7 l then some (.bl (xor no (l.any fun z => eqD z d))) else none
theorem fit_lst {l : List D} (h : fits 7 l = true) : fit 8 (.lst l) = true := by simpa [fit] using h
theorem l_inA {T : Tab} {K : PySem.W.Frag} {no : Bool} : Lift2 T (rInA K no) (dInS no) := by
  intro H G dx dy x y dz e rx ry h Q k
  obtain ⟨l, el, h⟩ := Option.bind_eq_some_iff.mp h
  split at h
  · rename_i hf
    rw [Bool.and_eq_true] at hf
    cases h
    have hn := fit_no 8 dx hf.1
    have hns := fits_no 7 l hf.2
    have hsh := fit_shaped (fit_lst hf.2)
    refine ⟨dx.py, D.pys l, rx.dp e hn, ?_, fit_shaped hf.1, hsh, ?_⟩
    · cases dy with
      | lst l' => cases el; exact .inl (ry.dp e (by simpa [noObj] using hns))
      | tup l' => cases el; exact .inr (ry.dp e (by simpa [noObj] using hns))
      | tp l' => cases el; exact .inr (ry.dp e (by simpa [noObj] using hns))
      | _ => cases el
    · rw [any_py dx hn l hns]
      exact k _ H G (stp0 e) (.bl _)
  · cases h
theorem c_in {X : Cx} {T : Tab} {k : Nat} (hr : Room k X.A) : Cmp X T .In (dInS false) := ⟨_, op_inA (Nat.lt_of_le_of_lt (by omega) hr.un), l_inA⟩
theorem c_notin {X : Cx} {T : Tab} {k : Nat} (hr : Room k X.A) : Cmp X T .NotIn (dInS true) := ⟨_, op_notInA (Nat.lt_of_le_of_lt (by omega) hr.un), l_inA⟩

/-! ### = [..] on one line, frozen -/
section
variable {X : Cx} {T : Tab} {pu pa pb pc : Bool} {tg iter elt : Expr} {ifs : List Expr} {fi : FA} {g : FG} {tt : FT} {te : FE} {js vs : List Nat}
theorem psf_setLcF {i : Nat} {y : Str} {py : Pos} {scope : Scope} {own : List (Str × Nat)} {pos spos : Pos} (hc : X.calm = true) (hN : X.N.Nodup) (ok : BlkOk X.N X.env.scope scope own) (hi : PIf X T pa tg iter fi)
    (hg : ∀ (s : Shared) (H : Hp) (C : Addr) (cl : List (Str × Addr)) (fp : List Addr), PGf (X.blk s H scope (compEnvC scope cl C X.env) fp) T tg js g) (ht : ∀ (s : Shared) (H : Hp) (C : Addr) (cl : List (Str × Addr)) (fp : List Addr), PTsf (X.blk s H scope (compEnvC scope cl C X.env) fp) T pb ifs tt)
    (he : ∀ (s : Shared) (H : Hp) (C : Addr) (cl : List (Str × Addr)) (fp : List Addr), PEf (X.blk s H scope (compEnvC scope cl C X.env) fp) T pc elt te) (hsub : ∀ j ∈ js, j ∈ own.map (·.2) := by decide) (hs : ∀ x, foldedSetIterable iter X.env x = pure x := by intro _; rfl)
    (hy : X.N[i]? = some y := by rfl) (hyl : X.env.scope.names.lookup y = some .local := by rfl) (hsw : swapsWith (.ListComp elt [⟨tg, iter, ifs, 0⟩] scope pos) (some (.Name y py)) spos.line X.env = pure true := by exact sw_true rfl rfl rfl rfl) :
    PSf X T (.Assign [.Name y py] (.ListComp elt [⟨tg, iter, ifs, 0⟩] scope pos) spos) (fSet i (fFrz (fLst (fLc fi g tt te (own.map (·.2)))))) :=
  ⟨(ps_setLc hc hN hy hyl hsw hi.pi ok (fun s H C cl fp => (hg s H C cl fp).pg) (fun s H C cl fp => (ht s H C cl fp).pt) (fun s H C cl fp => (he s H C cl fp).pe) hs).imp fun D σ H ⟨C, ρ, G, out, S, hh, k⟩ => by
    obtain ⟨⟨d, ρ1⟩, e1, hh⟩ := Option.bind_eq_some_iff.mp hh
    cases hh
    obtain ⟨⟨o, ρ2⟩, e2, e1⟩ := Option.bind_eq_some_iff.mp e1
    dsimp only at e1
    split at e1
    · rename_i hf
      cases e1
      refine lc_run hsub (hg X.s_0 (fun _ => none) 0 [] []).keep ⟨C, ρ, G, o, _, S, e2, fun v H1 G1 n1 => ?_⟩
      obtain ⟨G2, S2, e3, r2⟩ := n1.st.freezeLast hf
      exact k _ H1 G2 (S2.assignSh r2) (n1.ex.trans e3)
    · cases e1⟩
theorem len_dd {fs : FA} {n m : Nat} {dd : List D} (h : LenA fs n) (e : n + dd.length = m := by rfl) : ∀ ρ ds ρ', fs ρ = some (ds, ρ') → (ds ++ dd).length = m := fun ρ ds ρ' q => by
  rw [List.length_append, h _ _ _ q]
  exact e
end

/-! ### a program's defs -/
structure Df (P : Program) (w : World) (K : PySem.W.Frag) (mg : Str → Option Value) (base : Heap) (T : Tab) (x : Str) (k : Nat) (sp : Sp) (dvs : List V) : Prop where
  ex : ∃ (f : Addr) (fd : FuncData) (ps : List Str) (ds : List Value), FnOk P w K mg base CX0 k f fd ps sp ∧ mg x = some (.ref f) ∧ PySem.W.keepIn K (.ref f) = true ∧ Binds K fd ps ds ∧ Vals dvs ds
theorem Df.cal {X : Cx} {T : Tab} {x : Str} {k k' : Nat} {sp : Sp} {dvs : List V} (h : Df X.prog X.w X.K X.mg X.base T x k sp dvs) (hr : Room k' X.A) (hk : k ≤ k' := by decide) : Cal X T x sp dvs := by
  obtain ⟨f, fd, ps, ds, F, hm, hkp, hb, hd⟩ := h.ex
  exact ⟨k, f, fd, ps, ds, F, hr.mono hk, hm, hkp, hb, hd⟩
/-- a def as the top has left it -/
def Lies (K : PySem.W.Frag) (mg : Str → Option Value) (x : Str) (st : Stmt) : Prop := ∃ f fd, Fun K x x st f fd ∧ mg x = some (.ref f)
section
variable {P : Program} {w : World} {K : PySem.W.Frag} {mg : Str → Option Value} {base : Heap} {T : Tab}
abbrev Body (P : Program) (w : World) (K : PySem.W.Frag) (mg : Str → Option Value) (base : Heap) (T : Tab) (x : Str) (st : Stmt) (N : List Str) (k : Nat) (fb : FS) : Prop :=
  ∀ (f : Addr) (cdv : Value) (A : Around) (outer : List Env) (s : Shared) (H : Hp) (E : XK), Room k (A.deeper (envOfC x (defScope st) s.heap.objs.size f cdv)) → PSsf (cxOf CX0 P w K mg base N x (defScope st) f cdv A outer s H E).nox T (defBody st) fb
theorem Df.mkD {x : Str} {st : Stmt} {N ps : List Str} {k : Nat} {fb : FS} (h : Lies K mg x st) (S : FnScope N ps (defScope st)) (hb : Body P w K mg base T x st N k fb)
    (hbind : ∀ (kV doc pm : Value) (an : Option Addr) (cdv ct : Value) (us : List Value), us.length = ps.length → bindArgs (PySem.W.fnOf x x (defArgs st) (defBody st) (defScope st) .none kV doc pm an cdv ct) ⟨us, []⟩ = pure (ps.zip us)) :
    Df P w K mg base T x (k + 1) (spD T ps.length (fnD fb N.length)) [] := by
  obtain ⟨f, fd, F, hm⟩ := h
  exact ⟨f, fd, ps, [], ok_D F S (fun cdv A outer s H E hr => hb f cdv A outer s H E hr), hm, F.kp, F.binds hbind, .nil⟩
theorem Df.mkI {x : Str} {st : Stmt} {N ps : List Str} {k : Nat} {fb : FS} (h : Lies K mg x st) (S : FnScope N ps (defScope st)) (hb : Body P w K mg base T x st N k fb)
    (hbind : ∀ (kV doc pm : Value) (an : Option Addr) (cdv ct : Value) (us : List Value), us.length = ps.length → bindArgs (PySem.W.fnOf x x (defArgs st) (defBody st) (defScope st) .none kV doc pm an cdv ct) ⟨us, []⟩ = pure (ps.zip us)) :
    Df P w K mg base T x (k + 1) (spI T ps.length (fnI fb N.length)) [] := by
  obtain ⟨f, fd, F, hm⟩ := h
  exact ⟨f, fd, ps, [], ok_I F S (fun cdv A outer s H E hr => hb f cdv A outer s H E hr), hm, F.kp, F.binds hbind, .nil⟩
/-- with defaults -/
def LiesD (K : PySem.W.Frag) (mg : Str → Option Value) (x : Str) (st : Stmt) (dvs : List V) : Prop := ∃ f fd, FunD K x x (defArgs st) (defBody st) (defScope st) dvs [] f fd ∧ mg x = some (.ref f)
theorem Df.mkDD {x : Str} {st : Stmt} {N ps : List Str} {k n j : Nat} {fb : FS} {dvs dd : List V} (h : LiesD K mg x st dvs) (S : FnScope N ps (defScope st)) (hb : Body P w K mg base T x st N k fb) (hd : dvs ≠ []) (hn : n + (dvs.length - j) = ps.length) (hdd : dvs.drop j = dd)
    (hbind : ∀ (T : Addr) (kV doc pm : Value) (an : Option Addr) (cdv ct : Value) (us its : List Value), us.length = n → its.length = dvs.length →
      ∃ k, bindArgs (PySem.W.fnOf x x (defArgs st) (defBody st) (defScope st) (.ref T) kV doc pm an cdv ct) ⟨us, []⟩ = seqItems? (.ref T) >>= k ∧ k (some its.toArray) = pure (ps.zip (us ++ its.drop j))) :
    Df P w K mg base T x (k + 1) (spD T ps.length (fnD fb N.length)) dd := by
  obtain ⟨f, fd, F, hm⟩ := h
  obtain ⟨ds, r, b⟩ := F.binds1 n j hd hn hbind
  subst hdd
  exact ⟨f, fd, ps, ds, ok_DD F S (fun cdv A outer s H E hr => hb f cdv A outer s H E hr), hm, F.kp, b, r⟩
/-- a class of the program -/
def LiesC (K : PySem.W.Frag) (mg : Str → Option Value) (T : Tab) (x : Str) (c : Nat) (ns : List Str) (qual : Str) (st : Stmt) : Prop :=
  ∃ C f fd, mg x = some (.ref C) ∧ ClsOk K C ∧ T.cls c = some (C, ns) ∧ (∀ n ∈ ns, NoAttr K C n) ∧ Mk K C f ∧ Fun K "__init__" qual st f fd
theorem LiesC.fld {x : Str} {c i : Nat} {ns : List Str} {n qual : Str} {st : Stmt} (h : LiesC K mg T x c ns qual st) (hi : ns[i]? = some n) (nd : ns.Nodup := by decide) : FldC K T c i n := by
  obtain ⟨C, f, fd, h1, h2, h3, h4, h5, h6⟩ := h
  exact ⟨C, ns, h3, nd, hi, h2.cls, h4 n (List.mem_of_getElem? hi)⟩
theorem LiesC.isi {X : Cx} {x : Str} {c : Nat} {ns : List Str} {qual : Str} {st : Stmt} (h : LiesC X.K X.mg T x c ns qual st) : IsiC X T x c := by
  obtain ⟨C, f, fd, h1, h2, h3, h4, h5, h6⟩ := h
  exact ⟨C, ns, h3, h1, h2⟩
/-- __init__ stores the arguments in their order -/
def InitOk (st : Stmt) (qual : Str) (ns : List Str) : Prop := ∀ (P : Program) (w : World) (K : PySem.W.Frag) (mg : Str → Option Value) (base : Heap) (C f : Addr) (fd : FuncData), Cls K C → (∀ n ∈ ns, NoAttr K C n) → Fun K "__init__" qual st f fd →
  ∃ ps, FnOk P w K mg base CX0 1 f fd ps (spMk C ns) ∧ Binds K fd ps []
theorem LiesC.mk {X : Cx} {x : Str} {c k : Nat} {ns : List Str} {qual : Str} {st : Stmt} (h : LiesC X.K X.mg T x c ns qual st) (hi : InitOk st qual ns) (hr : Room k X.A) (hk : 2 ≤ k := by decide) : MkC X T x c ns := by
  obtain ⟨C, f, fd, h1, h2, h3, h4, h5, h6⟩ := h
  obtain ⟨ps, F, b⟩ := hi X.prog X.w X.K X.mg X.base C f fd h2.cls h4 h6
  exact ⟨C, 1, f, fd, ps, h5, F, hr.mono hk, h1, b, h3⟩
end
end Fl
end

section
set_option Elab.async false
set_option linter.all false
set_option autoImplicit false
set_option maxRecDepth 100000
set_option maxHeartbeats 2000000
namespace Fl
open PySem PySem.Spec PyProof.Rows L2
section
variable {X : Cx} {T : Tab} {pu pa pb pc : Bool} {a b c e : Expr} {es : List Expr} {fa fb : FE} {pos : Pos}
@[simp] def dCatL : D → D → Option (List D)
  | .lst l, .lst m => if l.length + m.length ≤ many then some (l ++ m) else none
  | _, _ => none
theorem l_catL {T : Tab} : Lift2O T rCat dCatL := by
  intro H G dx dy x y l e rx ry h Q k
  cases rx with
  | lst h1 r1 =>
    cases ry with
    | lst h2 r2 =>
      simp only [dCatL] at h
      split at h
      · rename_i hl
        cases h
        exact ⟨_, _, _, _, rfl, rfl, e _ _ h1, e _ _ h2, Nat.le_trans (by rw [← r1.length, ← r2.length]; exact hl) many_le, fun p hp => k p _ hp (r1.append r2)⟩
      · cases h
    | _ => cases h
  | _ => cases h
theorem peo_addL (ha : PEf X T pa a fa) (hb : PEf X T pb b fb) : PEo X T (pa && pb) (.BinOp a .Add b pos) (fLst (fBin dCatL fa fb)) := peo_bin (fun h1 h2 => pe_op op_cat h1 h2) l_catL ha hb
theorem pef_globE {x : Str} {i : Int} (h : ∃ t, X.mg x = some (.int i t)) (hg : Gl X x := by rfl) (hd : (x == ("__debug__" : Str)) = false := by decide) : PEf X T true (.Name x pos) (fC (.int i)) := by
  obtain ⟨t, h⟩ := h
  exact pef_globI hg h hd
end
end Fl
end

section
set_option Elab.async false
set_option linter.all false
set_option autoImplicit false
set_option maxRecDepth 100000
set_option maxHeartbeats 2000000
namespace Fl
open PySem PySem.Spec PyProof.Rows L2

/-! ### the law's hand -/
def handTot : Int → Nat → List Int → Int
  | t, _, [] => t
  | t, k, c :: r => handTot ((t * 31 + c * ((k : Nat) + 7)) % 2147483629) (k + 1) r
def absI (i : Int) : Int := if i < 0 then -i else i
def spHand (K : PySem.W.Frag) : Sp := fun vs H Q _ => ∃ (a : Addr) (ns : List Int), vs = [.ref a] ∧ SqL K H a (ns.map V.int) ∧ ns.length ≤ 1000 ∧
  ∀ H' p q, Same H H' → H p = none → H q = none → p ≠ q → H' q = some (.lst (ns.map fun n => .int (absI n))) → H' p = some (.lst [.ref q, .int 0, .int 0, .int (handTot 0 0 ns)]) → Q (.ref p) H'
/-- the hand as the law's defs see it -/
def handO (ns : List Int) : O := .lst [.lst (ns.map fun n => .int (absI n)), .int 0, .int 0, .int (handTot 0 0 ns)]
theorem reps_abs {T : Tab} {G : Hp} : ∀ ns : List Int, Reps T G (ns.map fun n => .int (absI n)) (ns.map fun n => .int (absI n))
  | [] => .nil
  | n :: r => .cons (.int _) (reps_abs r)
theorem sta_hand {T : Tab} {H H' : Hp} {σ : L2.St} {p q : Addr} {ns : List Int} {n : Nat} {x0 : Option V} (hS : Same H H') (hp : H p = none) (hq : H q = none) (ne : p ≠ q) (h1 : H' q = some (.lst (ns.map fun n => .int (absI n)))) (h2 : H' p = some (.lst [.ref q, .int 0, .int 0, .int (handTot 0 0 ns)]))
    (hσ : σ = x0 :: some (.ref p) :: List.replicate n none) :
    Sta T ⟨H, fun _ => none, []⟩ (none :: some (.own true (handO ns)) :: List.replicate n none) σ H' (fun b => if b = q then H' q else none) := by
  subst hσ
  refine ⟨fun a o e => ?_, fun a o e => (nomatch e), fun a o _ e => hS a o e, fun a u e t g => ?_, fun a h => (List.not_mem_nil h).elim, (by simp only [List.length_cons, List.length_replicate]), fun i d e => ?_, fun _ => some 1, fun i f o e => ?_⟩
  · split at e
    · rename_i z; subst z; exact e
    · cases e
  · rw [if_neg fun z => by rw [z] at e; rw [show H q = some u from e] at hq; cases hq]
  · match i with
    | 0 => simp at e
    | 1 => simp at e
    | i + 2 =>
      rw [List.getElem?_cons_succ, List.getElem?_cons_succ, List.getElem?_replicate] at e
      split at e <;> cases e
  · match i with
    | 0 => simp at e
    | 1 =>
      simp at e
      obtain ⟨rfl, rfl⟩ := e
      refine ⟨.ref p, [p], rfl, ⟨p, _, rfl, rfl, h2, .cons (.lst (by rw [if_pos rfl]; exact h1) (reps_abs ns)) (.cons (.int _) (.cons (.int _) (.cons (.int _) .nil)))⟩, fun b hb => ?_⟩
      have : b = p := by simpa using hb
      subst this
      exact ⟨rfl, by rw [if_neg ne], hp⟩
    | i + 2 =>
      rw [List.getElem?_cons_succ, List.getElem?_cons_succ, List.getElem?_replicate] at e
      split at e <;> cases e
/-- what the law promises -/
def spLaw (K : PySem.W.Frag) : Sp := fun vs H Q _ => ∃ (a : Addr) (ns : List Int), vs = [.ref a] ∧ SqL K H a (ns.map V.int) ∧ ns.length ≤ 63 ∧ ∀ H', Q (.bl true) H'
/-- .. and what is to be shown of its reading -/
def LawTrue (f : FS) (n : Nat) : Prop := ∀ ns : List Int, ns.length ≤ 63 → ∃ ρ, f (none :: some (.own true (handO ns)) :: List.replicate n none) = some (.rt (.sh (.bl true)) ρ)
theorem law_run {T : Tab} {H H' : Hp} {D : Ends} {σ : L2.St} {p q : Addr} {ns : List Int} {n : Nat} {x0 : Option V} {f : FS} (hf : LawTrue f n) (hl : ns.length ≤ 63) (hS : Same H H') (hp : H p = none) (hq : H q = none) (ne : p ≠ q) (h1 : H' q = some (.lst (ns.map fun n => .int (absI n)))) (h2 : H' p = some (.lst [.ref q, .int 0, .int 0, .int (handTot 0 0 ns)]))
    (hσ : σ = x0 :: some (.ref p) :: List.replicate n none) (hQ : ∀ H', D.rt (.bl true) H') : tS T f D σ H' := by
  obtain ⟨ρ, e⟩ := hf ns hl
  exact ⟨_, _, _, _, sta_hand hS hp hq ne h1 h2 hσ, e, fun v σ' H2 G2 S ex r => by cases r; exact hQ H2⟩

/-! ### facts, from what the top left -/
section
variable {K : PySem.W.Frag} {h : Heap} {mg : Str → Option Value} {T : Tab}
theorem lies_mk {x : Str} {st : Stmt} {f : Addr} {oc : Value} {od an : Option Addr} {osl : Array (Option Value)} {kV doc pm cdv ct : Value} (X : K.In h) (G : h.Ns mainGlobals mg) (a : PySem.W.nsIn K mainGlobals x = some (some (.ref f)))
    (l : K.lookup f = some ⟨oc, od, .func (PySem.W.fnOf x x (defArgs st) (defBody st) (defScope st) .none kV doc pm an cdv ct), osl⟩) (c : PySem.W.codeIn K cdv x = true) (k : PySem.W.keepIn K (.ref f) = true) : Lies K mg x st :=
  ⟨f, _, fun_mk l c k, PySem.W.mg_of X G a⟩
theorem liesD_mk {x : Str} {st : Stmt} {f Ta : Addr} {oc : Value} {od an : Option Addr} {osl : Array (Option Value)} {kV doc pm cdv ct : Value} {o : Obj} {its : List Value} {n : Nat} {dvs : List V} (X : K.In h) (G : h.Ns mainGlobals mg) (a : PySem.W.nsIn K mainGlobals x = some (some (.ref f)))
    (l : K.lookup f = some ⟨oc, od, .func (PySem.W.fnOf x x (defArgs st) (defBody st) (defScope st) (.ref Ta) kV doc pm an cdv ct), osl⟩) (c : PySem.W.codeIn K cdv x = true) (k : PySem.W.keepIn K (.ref f) = true) (lT : K.lookup Ta = some o) (oT : o.data = .seq its.toArray n) (r : Vals dvs its) (hd : dvs ≠ []) : LiesD K mg x st dvs :=
  ⟨f, _, ⟨⟨oc, od, .ref Ta, kV, doc, pm, an, cdv, ct, osl, rfl, l, c, .inr ⟨hd, Ta, o, its, n, rfl, lT, oT, r⟩, .inl rfl⟩, k⟩, PySem.W.mg_of X G a⟩
theorem const_mk {x : Str} {i : Int} {t : Tok} (X : K.In h) (G : h.Ns mainGlobals mg) (a : PySem.W.nsIn K mainGlobals x = some (some (.int i t))) : ∃ t, mg x = some (.int i t) := ⟨t, PySem.W.mg_of X G a⟩
theorem liesC_mk {x qual : Str} {c : Nat} {ns : List Str} {st : Stmt} {C f : Addr} {oc : Value} {od an : Option Addr} {osl : Array (Option Value)} {kV doc pm cdv ct : Value} (X : K.In h) (G : h.Ns mainGlobals mg) (a : PySem.W.nsIn K mainGlobals x = some (some (.ref C))) (ok : ClsOk K C) (ht : T.cls c = some (C, ns)) (na : ∀ n ∈ ns, NoAttr K C n)
    (m1 : PySem.W.makesIn K C = true) (m2 : PySem.W.findIn K (.ref C) "__init__" = some (some (.ref f))) (m3 : PySem.W.isFn K (.ref f) = true) (m4 : PySem.W.keepIn K (.ref C) = true)
    (l : K.lookup f = some ⟨oc, od, .func (PySem.W.fnOf "__init__" qual (defArgs st) (defBody st) (defScope st) .none kV doc pm an cdv ct), osl⟩) (cc : PySem.W.codeIn K cdv qual = true) (k : PySem.W.keepIn K (.ref f) = true) : LiesC K mg T x c ns qual st :=
  ⟨C, f, _, PySem.W.mg_of X G a, ok, ht, na, ⟨m1, m2, m3, m4⟩, fun_mk l cc k⟩
end
end Fl
namespace Fl
open PySem PySem.Spec PyProof.Rows L2
theorem kit_no {K : PySem.W.Frag} {C : Addr} {T : String} (ic : PySem.W.isClsIn K C = true) (ty : PySem.W.typeIn K (.ref C) = some (.type "type")) (hT : ((PySem.fastBuiltinMro T).map fun l => l.contains (Value.ref C)) = some false) : PySem.W.kitOne K (.type T) (.ref C) = some false := by
  unfold PySem.W.kitOne
  rw [if_neg (by simp)]
  unfold PySem.W.kitCls
  have h1 : (PySem.W.clsIn K C).isSome = true := by
    unfold PySem.W.isClsIn at ic
    exact ic
  dsimp only
  rw [h1, ty, if_pos (by decide)]
  exact hT
theorem clsOk_mk {K : PySem.W.Frag} {C : Addr} (c : Cls K C) (ha : PySem.W.findIn K (.ref C) "__class__" = some (some (.builtin "object.__class__"))) (hn : PySem.W.specialIn K (.builtin "object.__class__") "__get__" = some (some (.builtin "getset_descriptor.__get__")))
    (ht : PySem.W.takesIn K (.builtin "object.__class__") = some true) (hm : PySem.W.mroIn K C (.type "object") = some true) (ic : PySem.W.isClsIn K C = true) (ty : PySem.W.typeIn K (.ref C) = some (.type "type")) : ClsOk K C :=
  ⟨c, ha, hn, ht, hm, kit_no ic ty (by with_unfolding_all rfl), kit_no ic ty (by with_unfolding_all rfl), kit_no ic ty (by with_unfolding_all rfl), kit_no ic ty (by with_unfolding_all rfl), kit_no ic ty (by with_unfolding_all rfl), kit_no ic ty (by with_unfolding_all rfl)⟩
end Fl
end

section
set_option Elab.async false
set_option linter.all false
set_option autoImplicit false
set_option maxRecDepth 100000
set_option maxHeartbeats 2000000
namespace Fl
open PySem PySem.Spec PyProof.Rows L2

/-! ### truth values alone -/
def asB : List D → Option (List Bool)
  | [] => some []
  | d :: r => match d with
    | .bl b => (asB r).map (b :: ·)
    | _ => none
@[simp] theorem asB_map (bs : List Bool) : asB (bs.map D.bl) = some bs := by
  induction bs with
  | nil => rfl
  | cons b r ih => simp [asB, ih]
theorem asB_of : ∀ {l : List D} {bs : List Bool}, asB l = some bs → l = bs.map D.bl
  | [], bs, h => by simp [asB] at h; subst h; rfl
  | d :: r, bs, h => by
    cases d with
    | bl b =>
      simp only [asB] at h
      obtain ⟨m, e1, e2⟩ := Option.map_eq_some_iff.mp h
      rw [← e2, asB_of e1]; rfl
    | _ => simp [asB] at h
theorem Reps.bls {T : Tab} {G : Hp} {bs : List Bool} {vs : List V} (r : Reps T G (bs.map D.bl) vs) : vs = bs.map V.bl := by
  induction bs generalizing vs with
  | nil => cases r; rfl
  | cons b bs ih => cases r with | cons h r => cases h; rw [ih r]; rfl
@[simp] def dAll : D → Option D
  | .lst l => (asB l).map fun bs => .bl (bs.all id)
  | _ => none
@[simp] def dAny : D → Option D
  | .lst l => (asB l).map fun bs => .bl (bs.any id)
  | _ => none
section
variable {T : Tab} {K : PySem.W.Frag}
theorem l_all : LiftN T (rAll K) (d1 dAll) := by
  intro H G ds xs dz e r h Q k
  obtain ⟨d, rfl, h⟩ := d1_inv h
  obtain ⟨v, rfl, hd⟩ := r.one
  cases d with
  | lst m =>
    obtain ⟨bs, e1, e2⟩ := Option.map_eq_some_iff.mp (show (asB m).map _ = _ from h)
    subst e2
    have em := asB_of e1
    subst em
    obtain ⟨a, ys, rfl, hx, r1⟩ := hd.sqL (K := K) e
    rw [r1.bls] at hx
    exact ⟨a, bs, rfl, hx, k _ H G (stp0 e) (.bl _)⟩
  | _ => cases h
theorem l_any : LiftN T (rAny K) (d1 dAny) := by
  intro H G ds xs dz e r h Q k
  obtain ⟨d, rfl, h⟩ := d1_inv h
  obtain ⟨v, rfl, hd⟩ := r.one
  cases d with
  | lst m =>
    obtain ⟨bs, e1, e2⟩ := Option.map_eq_some_iff.mp (show (asB m).map _ = _ from h)
    subst e2
    have em := asB_of e1
    subst em
    obtain ⟨a, ys, rfl, hx, r1⟩ := hd.sqL (K := K) e
    rw [r1.bls] at hx
    exact ⟨a, bs, rfl, hx, k _ H G (stp0 e) (.bl _)⟩
  | _ => cases h
end
theorem b_all {X : Cx} {T : Tab} (hc : X.calm = true := by rfl) : Bl X T (.builtin "all") (d1 dAll) := ⟨_, cr_all hc, l_all⟩
theorem b_any {X : Cx} {T : Tab} (hc : X.calm = true := by rfl) : Bl X T (.builtin "any") (d1 dAny) := ⟨_, cr_any hc, l_any⟩

/-! ### the greatest of a tuple -/
theorem alike_ints (ns : List Int) : PySem.W.AlikeAll (ns.map PyData.int) := by
  refine ⟨fun x hx y hy => ?_, fun x hx => ?_⟩
  · obtain ⟨i, _, rfl⟩ := List.mem_map.mp hx
    obtain ⟨j, _, rfl⟩ := List.mem_map.mp hy
    rfl
  · obtain ⟨i, _, rfl⟩ := List.mem_map.mp hx
    exact fun z => nomatch z
theorem reads_ints {h : Heap} : ∀ {vs : List Value} {ns : List Int}, IntsAre vs ns → ReadsAll h vs (ns.map PyData.int) []
  | _, _, .nil => .nil
  | _, _, .cons n t r => .cons (.int n t) (reads_ints r)
theorem depth_ints : ∀ ns : List Int, PyData.depthAll (ns.map PyData.int) = 0
  | [] => rfl
  | n :: r => by simp [PyData.depthAll, PyData.depth, depth_ints r]
theorem foldl_max_eq : ∀ (r : List Int) (x : Int), r.foldl max x = r.foldl (fun a b => if b > a then b else a) x
  | [], _ => rfl
  | b :: r, x => by
    rw [List.foldl_cons, List.foldl_cons, foldl_max_eq r]
    congr 1
    split <;> omega
theorem foldl_min_eq : ∀ (r : List Int) (x : Int), r.foldl min x = r.foldl (fun a b => if b < a then b else a) x
  | [], _ => rfl
  | b :: r, x => by
    rw [List.foldl_cons, List.foldl_cons, foldl_min_eq r]
    congr 1
    split <;> omega
def rMaxT (K : PySem.W.Frag) : List V → Hp → VK → Prop := fun vs H Q => ∃ (a : Addr) (ns : List Int), vs = [V.ref a] ∧ SqT K H a (ns.map V.int) ∧ 0 < ns.length ∧ Q (.int (maxI ns)) H
def rMinT (K : PySem.W.Frag) : List V → Hp → VK → Prop := fun vs H Q => ∃ (a : Addr) (ns : List Int), vs = [V.ref a] ∧ SqT K H a (ns.map V.int) ∧ 0 < ns.length ∧ Q (.int (minI ns)) H
section
variable {X : Cx}
theorem cr_maxT (hc : X.calm = true) (hu : X.A.units + 65 < cLine) : CallR X (.builtin "max") (rMaxT X.K) := by
  intro pins s σ H vs us Q I r h
  obtain ⟨a, ns, rfl, hs, hne, q⟩ := h
  obtain ⟨its, rv, hl, _⟩ := I.tuple hs
  rw [Vals.ref1 r]
  cases ns with
  | nil => simp at hne
  | cons n ns =>
    have hr := reads_ints (h := s.heap) rv.ints
    refine PySem.W.max_tuple_data (x := .int n) (xs := ns.map .int) (as := []) (I.ok.hd hc) (show s.heap.IsTuple a its.toArray from hl) (by simpa using hr) (alike_ints (n :: ns)) ?_ fun i v h' tk bs hv hrd hk => ?_
    · have := depth_ints (n :: ns)
      simp only [List.map_cons] at this
      rw [this]
      omega
    · rw [PySem.W.maxD_ints, foldl_max_eq] at hrd
      cases hrd with
      | int i t => exact ⟨.int _, H, I.kept hk, ⟨_, rfl⟩, q⟩
theorem cr_minT (hc : X.calm = true) (hu : X.A.units + 65 < cLine) : CallR X (.builtin "min") (rMinT X.K) := by
  intro pins s σ H vs us Q I r h
  obtain ⟨a, ns, rfl, hs, hne, q⟩ := h
  obtain ⟨its, rv, hl, _⟩ := I.tuple hs
  rw [Vals.ref1 r]
  cases ns with
  | nil => simp at hne
  | cons n ns =>
    have hr := reads_ints (h := s.heap) rv.ints
    refine PySem.W.min_tuple_data (x := .int n) (xs := ns.map .int) (as := []) (I.ok.hd hc) (show s.heap.IsTuple a its.toArray from hl) (by simpa using hr) (alike_ints (n :: ns)) ?_ fun i v h' tk bs hv hrd hk => ?_
    · have := depth_ints (n :: ns)
      simp only [List.map_cons] at this
      rw [this]
      omega
    · rw [PySem.W.minD_ints, foldl_min_eq] at hrd
      cases hrd with
      | int i t => exact ⟨.int _, H, I.kept hk, ⟨_, rfl⟩, q⟩
end
@[simp] def dMaxS : D → Option D
  | .lst l => (asI l).bind fun ns => if ns.length = 0 then none else some (.int (maxI ns))
  | .tup l => (asI l).bind fun ns => if ns.length = 0 then none else some (.int (maxI ns))
  | .tp l => (asI l).bind fun ns => if ns.length = 0 then none else some (.int (maxI ns))
  | _ => none
@[simp] def dMinS : D → Option D
  | .lst l => (asI l).bind fun ns => if ns.length = 0 then none else some (.int (minI ns))
  | .tup l => (asI l).bind fun ns => if ns.length = 0 then none else some (.int (minI ns))
  | .tp l => (asI l).bind fun ns => if ns.length = 0 then none else some (.int (minI ns))
  | _ => none
theorem l_maxS {T : Tab} {K : PySem.W.Frag} : LiftN T (fun vs H Q => rMax K vs H Q ∨ rMaxT K vs H Q) (d1 dMaxS) := by
  intro H G ds xs dz e r h Q k
  obtain ⟨d, rfl, h⟩ := d1_inv h
  cases d with
  | lst m => exact .inl (l_maxL H G _ xs dz e r h Q k)
  | tup m =>
    obtain ⟨v, rfl, hd⟩ := r.one
    obtain ⟨ns, e1, e2⟩ := Option.bind_eq_some_iff.mp (show (asI m).bind _ = _ from h)
    split at e2
    · cases e2
    · rename_i hn
      cases e2
      have em := asI_of e1
      subst em
      obtain ⟨a, ys, rfl, hx, r1⟩ := hd.sqT (K := K) e
      rw [r1.ints] at hx
      exact .inr ⟨a, ns, rfl, hx, by omega, k _ H G (stp0 e) (.int _)⟩
  | tp m =>
    obtain ⟨v, rfl, hd⟩ := r.one
    obtain ⟨ns, e1, e2⟩ := Option.bind_eq_some_iff.mp (show (asI m).bind _ = _ from h)
    split at e2
    · cases e2
    · rename_i hn
      cases e2
      have em := asI_of e1
      subst em
      obtain ⟨a, ys, rfl, hx, r1⟩ := hd.sqTp (K := K) e
      rw [r1.ints] at hx
      exact .inr ⟨a, ns, rfl, hx, by omega, k _ H G (stp0 e) (.int _)⟩
  | _ => cases h
theorem l_minS {T : Tab} {K : PySem.W.Frag} : LiftN T (fun vs H Q => rMin K vs H Q ∨ rMinT K vs H Q) (d1 dMinS) := by
  intro H G ds xs dz e r h Q k
  obtain ⟨d, rfl, h⟩ := d1_inv h
  cases d with
  | lst m => exact .inl (l_minL H G _ xs dz e r h Q k)
  | tup m =>
    obtain ⟨v, rfl, hd⟩ := r.one
    obtain ⟨ns, e1, e2⟩ := Option.bind_eq_some_iff.mp (show (asI m).bind _ = _ from h)
    split at e2
    · cases e2
    · rename_i hn
      cases e2
      have em := asI_of e1
      subst em
      obtain ⟨a, ys, rfl, hx, r1⟩ := hd.sqT (K := K) e
      rw [r1.ints] at hx
      exact .inr ⟨a, ns, rfl, hx, by omega, k _ H G (stp0 e) (.int _)⟩
  | tp m =>
    obtain ⟨v, rfl, hd⟩ := r.one
    obtain ⟨ns, e1, e2⟩ := Option.bind_eq_some_iff.mp (show (asI m).bind _ = _ from h)
    split at e2
    · cases e2
    · rename_i hn
      cases e2
      have em := asI_of e1
      subst em
      obtain ⟨a, ys, rfl, hx, r1⟩ := hd.sqTp (K := K) e
      rw [r1.ints] at hx
      exact .inr ⟨a, ns, rfl, hx, by omega, k _ H G (stp0 e) (.int _)⟩
  | _ => cases h
theorem hu65 {X : Cx} {k : Nat} (hr : Room k X.A) : X.A.units + 65 < cLine := Nat.lt_of_le_of_lt (by omega) hr.un
theorem b_maxS {X : Cx} {T : Tab} {k : Nat} (hr : Room k X.A) (hc : X.calm = true := by rfl) : Bl X T (.builtin "max") (d1 dMaxS) := ⟨_, (cr_max hc).or (cr_maxT hc (hu65 hr)), l_maxS⟩
theorem b_minS {X : Cx} {T : Tab} {k : Nat} (hr : Room k X.A) (hc : X.calm = true := by rfl) : Bl X T (.builtin "min") (d1 dMinS) := ⟨_, (cr_min hc).or (cr_minT hc (hu65 hr)), l_minS⟩
end Fl
end

section
set_option Elab.async false
set_option linter.all false
set_option autoImplicit false
set_option maxRecDepth 100000
set_option maxHeartbeats 2000000
namespace Fl
open PySem PySem.Spec PyProof.Rows L2

/-! ### tuple(x), known by its object -/
theorem call_tuple_tp {X : Cx} : CallR X (.type "tuple") (fun xs H Q => ∃ p ys, xs = [.ref p] ∧ SqL X.K H p ys ∧ ∀ l o, H l = none → o.dict = none → Q (.ref l) (upd H l (.frz o (.tup ys)))) := by
  intro pins s σ H xs us Q I r h
  obtain ⟨p, ys, rfl, hq, q⟩ := h
  obtain ⟨u, rfl, rx⟩ := vals1 r
  cases rx
  obtain ⟨its, r', pl, hz⟩ := I.list hq
  have hn := r'.length
  refine call_tuple_list pl.isList (fun h' kp => ?_) (by simp only [List.size_toArray]; omega)
  have J : Inv X pins σ H { s with heap := h' } := I.kept (t' := s.toks) kp
  refine ⟨.ref h'.objs.size, _, J.laid (t' := s.toks) (o := .frz { cls := .type "tuple", data := .seq its.toArray } (.tup ys)) (fun b o e => Heap.get?_push_of_some _ e) (Nat.le_refl _) ?_, rfl, q _ _ (J.hok.fresh (Nat.le_refl _)) rfl⟩
  exact ⟨Heap.get?_push_size _ rfl, hz, its, r', IsTup.new _ _⟩
@[simp] def dTupF : D → Option D
  | .lst l => some (.tp l)
  | _ => none
theorem l_tupF {T : Tab} {K : PySem.W.Frag} : LiftN T (fun xs H Q => ∃ p ys, xs = [V.ref p] ∧ SqL K H p ys ∧ ∀ l o, H l = none → o.dict = none → Q (.ref l) (upd H l (.frz o (.tup ys)))) (d1 dTupF) := by
  intro H G ds xs dz e r h Q k
  obtain ⟨d, rfl, h⟩ := d1_inv h
  obtain ⟨v, rfl, hd⟩ := r.one
  cases d with
  | lst m =>
    cases h
    obtain ⟨a, ys, rfl, hx, r1⟩ := hd.sqL (K := K) e
    exact ⟨a, ys, rfl, hx, fun l o hl ho => k _ _ _ (Stp.new e hl) (.tp upd_same ho (r1.mono (Ex.new (e.free hl))))⟩
  | _ => cases h
theorem b_tupF {X : Cx} {T : Tab} : Bl X T (.type "tuple") (d1 dTupF) := ⟨_, call_tuple_tp, l_tupF⟩

/-! ### a tuple's methods -/
section
variable {X : Cx} {T : Tab} {pu pa pb : Bool} {o e a b : Expr} {es : List Expr} {fa fb : FE} {to : TE} {t : TA} {apos cpos : Pos} {id : String} {name : Str} {r : V → List V → Hp → VK → Prop}
def TpAt (H : Hp) (x : V) : Prop := ∃ a ob xs, x = .ref a ∧ H a = some (.frz ob (.tup xs)) ∧ ob.dict = none
theorem pe_tm (pl : PlainAttrs "tuple") (slot : PySem.Slot "tuple" name id) (ht : typeOf (.builtin id) = pure (.type "method_descriptor")) (hm : MtR X id r) (h1 : PE X o to) (h2 : PA X [e] t)
    (q1 : attributeBase o name X.env (eval o X.env) = eval o X.env := by rfl)
    (q2 : ((backTo cpos (starEach [e] X.env)).all (fun x => !x.1) && (backToKw cpos (keywordEach [] X.env)).all (fun x => x.1.isSome) && decide ([e].length + ([] : List Keyword).length + (if ([] : List Keyword).isEmpty then 0 else 1) < 30)) = true := by rfl)
    (q3 : (apos.endLine == cpos.line) = true := by rfl) (q4 : starEach [e] X.env = (false, eval e X.env) :: starEach [] X.env := by rfl) (q5 : (backTo cpos (starEach [] X.env)).any (·.1) = false := by rfl) :
    PE X (.Call (.Attribute o name apos) [e] [] cpos) (fun σ H Q => to σ H fun x H1 => TpAt H1 x ∧ t σ H1 fun vs H2 => r x vs H2 Q) := by
  constructor
  intro pins s σ H Q I hh
  refine wpAny_Call_method_late q1 q2 q3 rfl (thn (h1.run pins s σ H _ I hh) ?_)
  rintro v s1 ⟨x, H1, I1, rx, ⟨a, ob, xs, rfl, hx, hd⟩, hq⟩
  cases rx
  obtain ⟨e1, hz, its, rr, o2, e2, c2, n, d2⟩ := I1.hok a _ hx
  rw [e1] at e2
  cases e2
  refine ⟨"tuple", id, pl, slot, ht, ⟨ob, e1, c2⟩, fun b hb => by cases hb; exact ⟨ob, e1, hd⟩, ?_⟩
  have hA := h2.run cpos pins s1 σ H1 _ I1 hq
  rw [q4] at hA ⊢
  refine Calls.callWith_builtin (by show (false || (backTo cpos (starEach [] X.env)).any (·.1)) = false; rw [q5]; rfl) (Calls.evalArgs_plain ?_)
  exact thn hA fun us s2 ⟨vs, H2, I2, r2, q⟩ => hm pins s2 σ H2 (.ref a) vs (.ref a) us Q I2 rfl r2 q
def rCntT (K : PySem.W.Frag) : V → List V → Hp → VK → Prop := fun x xs H Q => ∃ (p : Addr) (ns : List Int) (k : Int), x = .ref p ∧ xs = [.int k] ∧ SqT K H p (ns.map V.int) ∧ Q (.int (ns.count k : Nat)) H
theorem countP_ints (k : Int) : ∀ ns : List Int, (ns.map PyData.int).countP (fun y => PyData.eqv y (.int k)) = ns.count k
  | [] => rfl
  | n :: r => by
    rw [List.map_cons, List.countP_cons, List.count_cons, countP_ints k r]
    congr 1
theorem plain_ints : ∀ ns : List Int, PyData.plainAll (ns.map PyData.int) = true
  | [] => rfl
  | n :: r => by simp [PyData.plainAll, PyData.plain, plain_ints r]
theorem mt_tcount (hu : X.A.units + 65 < cLine) : MtR X "tuple.count" (rCntT X.K) := by
  intro pins s σ H x xs v us Q I rx rxs h
  obtain ⟨p, ns, k, rfl, rfl, hs, q⟩ := h
  cases rx
  obtain ⟨u, rfl, ru⟩ := rxs.one
  obtain ⟨t, rfl⟩ := ru
  obtain ⟨its, rv, hl, hz⟩ := I.tuple hs
  refine PySem.SeqAt.count_tuple_data (xs := ns.map PyData.int) (d := .int k) (as := []) (bs := []) (show s.heap.IsTuple p its.toArray from hl) (by simpa using reads_ints rv.ints) (.int k t) (plain_ints ns) rfl ?_ ?_
  · have := depth_ints ns
    rw [this]
    omega
  · rw [countP_ints]
    exact ⟨.int _, H, I.tok _, ⟨_, rfl⟩, q⟩
def rIdxT (K : PySem.W.Frag) : V → List V → Hp → VK → Prop := fun x xs H Q => ∃ (p : Addr) (ns : List Int) (k : Int), x = .ref p ∧ xs = [.int k] ∧ SqT K H p (ns.map V.int) ∧ k ∈ ns ∧ Q (.int (ns.idxOf k : Nat)) H
theorem mt_tindex : MtR X "tuple.index" (rIdxT X.K) := by
  intro pins s σ H x xs v us Q I rx rxs h
  obtain ⟨p, ns, k, rfl, rfl, hs, hk, q⟩ := h
  cases rx
  obtain ⟨u, rfl, ru⟩ := rxs.one
  obtain ⟨t, rfl⟩ := ru
  obtain ⟨its, rv, hl, hz⟩ := I.tuple hs
  refine PySem.SeqAt.tuple_index_ints (show s.heap.IsTuple p its.toArray from hl) rv.ints hk ?_
  exact ⟨.int _, H, I.tok _, ⟨_, rfl⟩, q⟩
def rIdxL (K : PySem.W.Frag) : V → List V → Hp → VK → Prop := fun x xs H Q => ∃ (p : Addr) (ns : List Int) (k : Int), x = .ref p ∧ xs = [.int k] ∧ SqL K H p (ns.map V.int) ∧ k ∈ ns ∧ Q (.int (ns.idxOf k : Nat)) H
theorem mt_lindex : MtR X "list.index" (rIdxL X.K) := by
  intro pins s σ H x xs v us Q I rx rxs h
  obtain ⟨p, ns, k, rfl, rfl, hs, hk, q⟩ := h
  cases rx
  obtain ⟨u, rfl, ru⟩ := rxs.one
  obtain ⟨t, rfl⟩ := ru
  obtain ⟨its, rv, hl, hz⟩ := I.list hs
  refine PySem.SeqAt.list_index_ints hl.isList rv.ints (by simpa using hz) hk ?_
  exact ⟨.int _, H, I.tok _, ⟨_, rfl⟩, q⟩
/-! the readings -/
@[simp] def dCnt : D → D → Option D
  | .tp l, .int k => (asI l).map fun ns => .int (ns.count k : Nat)
  | _, _ => none
@[simp] def dCntL : D → D → Option D
  | .lst l, .int k => (asI l).map fun ns => .int (ns.count k : Nat)
  | _, _ => none
@[simp] def dIdx : D → D → Option D
  | .tp l, .int k => (asI l).bind fun ns => if k ∈ ns then some (.int (ns.idxOf k : Nat)) else none
  | _, _ => none
@[simp] def dIdxL : D → D → Option D
  | .lst l, .int k => (asI l).bind fun ns => if k ∈ ns then some (.int (ns.idxOf k : Nat)) else none
  | _, _ => none
theorem tm_run {g : D → D → Option D} {C : C0} {ρ ρ' : Fenv} {σ : L2.St} {H G : Hp} {z : D} {Q : VK} (S : Sta T C ρ σ H G) (h : fBin g fa fb ρ = some (z, ρ')) (ok : ∀ dx dy z, g dx dy = some z → ∃ l, dx = .tp l)
    (k : ∀ dx dy x y H' G', Nxt T C ρ' σ (pa && pb) H G H' G' → Rep T G' dx x → Rep T G' dy y → g dx dy = some z → r x [y] H' Q) : (fun σ H Q => tD T pa fa σ H fun x H1 => TpAt H1 x ∧ tCons (tD T pb fb) tNil σ H1 fun vs H2 => r x vs H2 Q) σ H Q := by
  obtain ⟨⟨dx, ρ1⟩, e1, h⟩ := Option.bind_eq_some_iff.mp h
  obtain ⟨⟨dy, ρ2⟩, e2, h⟩ := Option.bind_eq_some_iff.mp h
  obtain ⟨z', e3, h⟩ := Option.map_eq_some_iff.mp h
  cases h
  refine ⟨C, ρ, G, dx, ρ1, S, e1, fun x H1 G1 n1 r1 => ⟨?_, C, ρ1, G1, dy, ρ2, n1.st, e2, fun y H2 G2 n2 r2 => ?_⟩⟩
  · obtain ⟨l, rfl⟩ := ok _ _ _ e3
    cases r1 with
    | tp hg hd rr => exact ⟨_, _, _, rfl, n1.st.gh _ _ hg, hd⟩
  · exact k dx dy x y H2 G2 (n1.trans n2) (r1.mono n2.ex) r2 e3
theorem pef_tm {g : D → D → Option D} (mk : ∀ {ta tb : TE}, PE X a ta → PE X b tb → PE X e (fun σ H Q => ta σ H fun x H1 => TpAt H1 x ∧ tCons tb tNil σ H1 fun vs H2 => r x vs H2 Q)) (ok : ∀ dx dy z, g dx dy = some z → ∃ l, dx = .tp l)
    (l : ∀ (H G : Hp) (dx dy : D) (x y : V) (dz : D), Ex G H → Rep T G dx x → Rep T G dy y → g dx dy = some dz → ∀ Q : VK, (∀ v H' G', Stp H G H' G' → Rep T G' dz v → Q v H') → r x [y] H Q) (ha : PEf X T pa a fa) (hb : PEf X T pb b fb) : PEf X T (pa && pb) e (fBin g fa fb) where
  pe := (mk ha.pe hb.pe).imp fun σ H Q ⟨C, ρ, G, d, ρ', S, h, k⟩ => tm_run S h ok fun dx dy x y H' G' n rx ry hz =>
    l H' G' dx dy x y d n.st.gh rx ry hz Q fun v H2 G2 q r => k v H2 G2 (n.stp q) r
  same := bin_same ha.same hb.same
theorem l_cnt {K : PySem.W.Frag} (H G : Hp) (dx dy : D) (x y : V) (dz : D) (e : Ex G H) (rx : Rep T G dx x) (ry : Rep T G dy y) (h : dCnt dx dy = some dz) (Q : VK) (k : ∀ v H' G', Stp H G H' G' → Rep T G' dz v → Q v H') : rCntT K x [y] H Q := by
  cases dx with
  | tp l =>
    cases dy with
    | int i =>
      cases ry
      obtain ⟨ns, e1, rfl⟩ := Option.map_eq_some_iff.mp (show (asI l).map _ = _ from h)
      have em := asI_of e1
      subst em
      obtain ⟨p, xs, rfl, hx, r1⟩ := rx.sqTp (K := K) e
      rw [r1.ints] at hx
      exact ⟨p, ns, i, rfl, rfl, hx, k _ H G (stp0 e) (.int _)⟩
    | _ => cases h
  | _ => cases h
theorem l_idx {K : PySem.W.Frag} (H G : Hp) (dx dy : D) (x y : V) (dz : D) (e : Ex G H) (rx : Rep T G dx x) (ry : Rep T G dy y) (h : dIdx dx dy = some dz) (Q : VK) (k : ∀ v H' G', Stp H G H' G' → Rep T G' dz v → Q v H') : rIdxT K x [y] H Q := by
  cases dx with
  | tp l =>
    cases dy with
    | int i =>
      cases ry
      obtain ⟨ns, e1, h⟩ := Option.bind_eq_some_iff.mp (show (asI l).bind _ = _ from h)
      split at h
      · rename_i hk
        cases h
        have em := asI_of e1
        subst em
        obtain ⟨p, xs, rfl, hx, r1⟩ := rx.sqTp (K := K) e
        rw [r1.ints] at hx
        exact ⟨p, ns, i, rfl, rfl, hx, hk, k _ H G (stp0 e) (.int _)⟩
      · cases h
    | _ => cases h
  | _ => cases h
/-- t.count(e), t.index(e) -/
theorem pef_tcount {k : Nat} (hr : Room k X.A) (ha : PEf X T pa a fa) (hb : PEf X T pb b fb) (hp : ∀ {ta tb : TE}, PE X a ta → PE X b tb → PE X (.Call (.Attribute a "count" apos) [b] [] cpos) (fun σ H Q => ta σ H fun x H1 => TpAt H1 x ∧ tCons tb tNil σ H1 fun vs H2 => rCntT X.K x vs H2 Q) := by
      exact fun h1 h2 => pe_tm PySem.F.plainAttrs_tuple PySem.F.slot_tuple_count PySem.F.type_tuple_count (mt_tcount (hu65 hr)) h1 (pa_cons h2 pa_nil)) : PEf X T (pa && pb) (.Call (.Attribute a "count" apos) [b] [] cpos) (fBin dCnt fa fb) :=
  pef_tm hp (fun dx dy z h => by cases dx <;> first | exact ⟨_, rfl⟩ | cases h) l_cnt ha hb
theorem pef_tindex (ha : PEf X T pa a fa) (hb : PEf X T pb b fb) (hp : ∀ {ta tb : TE}, PE X a ta → PE X b tb → PE X (.Call (.Attribute a "index" apos) [b] [] cpos) (fun σ H Q => ta σ H fun x H1 => TpAt H1 x ∧ tCons tb tNil σ H1 fun vs H2 => rIdxT X.K x vs H2 Q) := by
      exact fun h1 h2 => pe_tm PySem.F.plainAttrs_tuple PySem.F.slot_tuple_index PySem.F.type_tuple_index mt_tindex h1 (pa_cons h2 pa_nil)) : PEf X T (pa && pb) (.Call (.Attribute a "index" apos) [b] [] cpos) (fBin dIdx fa fb) :=
  pef_tm hp (fun dx dy z h => by cases dx <;> first | exact ⟨_, rfl⟩ | cases h) l_idx ha hb
end
end Fl
end

section
set_option Elab.async false
set_option linter.all false
set_option autoImplicit false
set_option maxRecDepth 100000
set_option maxHeartbeats 2000000
namespace Fl
open PySem PySem.Spec PyProof.Rows L2

/-! ### a list's methods -/
section
variable {X : Cx} {T : Tab} {pu pa pb : Bool} {o e a b : Expr} {es : List Expr} {f fa fb : FE} {fs : FA} {apos cpos p pos : Pos} {r : V → List V → Hp → VK → Prop}
theorem lm_run {g : D → D → Option D} {C : C0} {ρ ρ' : Fenv} {σ : L2.St} {H G : Hp} {z : D} {Q : VK} (S : Sta T C ρ σ H G) (h : fBin g fa fb ρ = some (z, ρ')) (ok : ∀ dx dy z, g dx dy = some z → ∃ l, dx = .lst l)
    (k : ∀ dx dy x y H' G', Nxt T C ρ' σ (pa && pb) H G H' G' → Rep T G' dx x → Rep T G' dy y → g dx dy = some z → r x [y] H' Q) : tBM X.K "list" r (tD T pa fa) (tCons (tD T pb fb) tNil) σ H Q := by
  obtain ⟨⟨dx, ρ1⟩, e1, h⟩ := Option.bind_eq_some_iff.mp h
  obtain ⟨⟨dy, ρ2⟩, e2, h⟩ := Option.bind_eq_some_iff.mp h
  obtain ⟨z', e3, h⟩ := Option.map_eq_some_iff.mp h
  cases h
  refine ⟨C, ρ, G, dx, ρ1, S, e1, fun x H1 G1 n1 r1 => ⟨?_, C, ρ1, G1, dy, ρ2, n1.st, e2, fun y H2 G2 n2 r2 => ?_⟩⟩
  · obtain ⟨l, rfl⟩ := ok _ _ _ e3
    obtain ⟨p, xs, rfl, hx, _⟩ := r1.sqL (K := X.K) n1.st.gh
    exact .inl ⟨rfl, xs, hx⟩
  · exact k dx dy x y H2 G2 (n1.trans n2) (r1.mono n2.ex) r2 e3
theorem pef_lm {g : D → D → Option D} (mk : ∀ {ta tb : TE}, PE X a ta → PE X b tb → PE X e (tBM X.K "list" r ta (tCons tb tNil))) (ok : ∀ dx dy z, g dx dy = some z → ∃ l, dx = .lst l)
    (l : ∀ (H G : Hp) (dx dy : D) (x y : V) (dz : D), Ex G H → Rep T G dx x → Rep T G dy y → g dx dy = some dz → ∀ Q : VK, (∀ v H' G', Stp H G H' G' → Rep T G' dz v → Q v H') → r x [y] H Q) (ha : PEf X T pa a fa) (hb : PEf X T pb b fb) : PEf X T (pa && pb) e (fBin g fa fb) where
  pe := (mk ha.pe hb.pe).imp fun σ H Q ⟨C, ρ, G, d, ρ', S, h, k⟩ => lm_run S h ok fun dx dy x y H' G' n rx ry hz =>
    l H' G' dx dy x y d n.st.gh rx ry hz Q fun v H2 G2 q r => k v H2 G2 (n.stp q) r
  same := bin_same ha.same hb.same
theorem l_cntL {K : PySem.W.Frag} (H G : Hp) (dx dy : D) (x y : V) (dz : D) (e : Ex G H) (rx : Rep T G dx x) (ry : Rep T G dy y) (h : dCntL dx dy = some dz) (Q : VK) (k : ∀ v H' G', Stp H G H' G' → Rep T G' dz v → Q v H') : rCntI K x [y] H Q := by
  cases dx with
  | lst l =>
    cases dy with
    | int i =>
      cases ry
      obtain ⟨ns, e1, rfl⟩ := Option.map_eq_some_iff.mp (show (asI l).map _ = _ from h)
      have em := asI_of e1
      subst em
      obtain ⟨p, xs, rfl, hx, r1⟩ := rx.sqL (K := K) e
      rw [r1.ints] at hx
      exact ⟨p, ns, i, rfl, rfl, hx, k _ H G (stp0 e) (.int _)⟩
    | _ => cases h
  | _ => cases h
theorem l_idxL {K : PySem.W.Frag} (H G : Hp) (dx dy : D) (x y : V) (dz : D) (e : Ex G H) (rx : Rep T G dx x) (ry : Rep T G dy y) (h : dIdxL dx dy = some dz) (Q : VK) (k : ∀ v H' G', Stp H G H' G' → Rep T G' dz v → Q v H') : rIdxL K x [y] H Q := by
  cases dx with
  | lst l =>
    cases dy with
    | int i =>
      cases ry
      obtain ⟨ns, e1, h⟩ := Option.bind_eq_some_iff.mp (show (asI l).bind _ = _ from h)
      split at h
      · rename_i hk
        cases h
        have em := asI_of e1
        subst em
        obtain ⟨p, xs, rfl, hx, r1⟩ := rx.sqL (K := K) e
        rw [r1.ints] at hx
        exact ⟨p, ns, i, rfl, rfl, hx, hk, k _ H G (stp0 e) (.int _)⟩
      · cases h
    | _ => cases h
  | _ => cases h
theorem pef_lcount (ha : PEf X T pa a fa) (hb : PEf X T pb b fb) (hp : ∀ {ta tb : TE}, PE X a ta → PE X b tb → PE X (.Call (.Attribute a "count" apos) [b] [] cpos) (tBM X.K "list" (rCntI X.K) ta (tCons tb tNil)) := by
      exact fun h1 h2 => pe_bm PySem.F.plainAttrs_list PySem.F.slot_list_count PySem.F.type_list_count mt_lcount h1 (pa_cons h2 pa_nil)) : PEf X T (pa && pb) (.Call (.Attribute a "count" apos) [b] [] cpos) (fBin dCntL fa fb) :=
  pef_lm hp (fun dx dy z h => by cases dx <;> first | exact ⟨_, rfl⟩ | cases h) l_cntL ha hb
theorem pef_lindex (ha : PEf X T pa a fa) (hb : PEf X T pb b fb) (hp : ∀ {ta tb : TE}, PE X a ta → PE X b tb → PE X (.Call (.Attribute a "index" apos) [b] [] cpos) (tBM X.K "list" (rIdxL X.K) ta (tCons tb tNil)) := by
      exact fun h1 h2 => pe_bm PySem.F.plainAttrs_list PySem.F.slot_list_index PySem.F.type_list_index mt_lindex h1 (pa_cons h2 pa_nil)) : PEf X T (pa && pb) (.Call (.Attribute a "index" apos) [b] [] cpos) (fBin dIdxL fa fb) :=
  pef_lm hp (fun dx dy z h => by cases dx <;> first | exact ⟨_, rfl⟩ | cases h) l_idxL ha hb
/-- x.remove(e), whole numbers -/
@[simp] def fRem (i : Nat) (f : FE) : FS := fun ρ => if isOwnL ρ[i]? then (f ρ).bind fun x => match x.2[i]?, x.1 with
  | some (some (.own g (.lst l))), .int k => (asI l).bind fun ns => if k ∈ ns then some (.nx (x.2.set i (some (.own g (.lst ((ns.erase k).map .int)))))) else none
  | _, _ => none
  else none
theorem psf_rem {i : Nat} {x : Str} {np : Pos} (he : PEf X T pu e f) (hN : X.N[i]? = some x := by rfl) (hv : Vis X.env.scope x := by first | exact Or.inl rfl | exact Or.inr (Or.inl rfl) | exact Or.inr (Or.inr rfl)) (hd : (x == ("__debug__" : Str)) = false := by decide) (hcd : (x == ("__classdict__" : Str)) = false := by decide)
    (hpl : ∀ {ta tb : TE}, PE X (.Name x np) ta → PE X e tb → PE X (.Call (.Attribute (.Name x np) "remove" apos) [e] [] cpos) (tBM X.K "list" rRemI ta (tCons tb tNil)) := by
      exact fun h1 h2 => pe_bm PySem.F.plainAttrs_list PySem.F.slot_list_remove PySem.F.type_list_remove mt_remove h1 (pa_cons h2 pa_nil))
    (hs : swapsWith (.Call (.Attribute (.Name x np) "remove" apos) [e] [] cpos) none pos.line X.env = pure false := by rfl) : PSf X T (.Expr (.Call (.Attribute (.Name x np) "remove" apos) [e] [] cpos) pos) (fRem i f) :=
  ⟨(ps_expr (hpl (pe_var hN hv hd hcd) he.pe) hs).imp fun D σ H ⟨C, ρ, G, out, S, hh, k⟩ => by
    unfold fRem at hh
    split at hh
    · rename_i hown
      obtain ⟨q, xs0, e2, h0⟩ := own_var S hown
      obtain ⟨⟨d, ρ1⟩, e1, hh⟩ := Option.bind_eq_some_iff.mp hh
      dsimp only at hh
      split at hh
      · rename_i _ g l kk hi
        obtain ⟨ns, ea, hh⟩ := Option.bind_eq_some_iff.mp hh
        split at hh
        · rename_i hmem
          cases hh
          have em := asI_of ea
          subst em
          refine ⟨.ref q, e2, .inl ⟨rfl, xs0, SqL.of h0⟩, C, ρ, G, .int kk, ρ1, S, e1, fun y H1 G1 n1 r1 => ?_⟩
          cases r1
          obtain ⟨p', xs, e3, h1, r2, fin⟩ := n1.st.ownAt hi
          rw [e2] at e3
          cases e3
          have exs := r2.ints
          subst exs
          obtain ⟨j, _, hj2, hj3, hj4⟩ := first_at hmem
          refine ⟨q, ns, kk, j, rfl, rfl, h1, hj2, hj3, ?_⟩
          rw [hj4]
          exact k _ _ G1 (fin _ _ (Reps.of_ints _)) n1.ex
        · cases hh
      · cases hh
    · cases hh⟩
/-- x.pop(e), an item's place -/
@[simp] def fPop (i : Nat) (f : FE) : FE := fun ρ => if isOwnL ρ[i]? then (f ρ).bind fun x => match x.2[i]?, x.1 with
  | some (some (.own g (.lst l))), .int j => if 0 ≤ j ∧ l.length < many then (l[j.toNat]?).map fun d => (d, x.2.set i (some (.own g (.lst (l.eraseIdx j.toNat))))) else none
  | _, _ => none
  else none
theorem reps_erase {G : Hp} : ∀ {l : List D} {xs : List V} (j : Nat), Reps T G l xs → Reps T G (l.eraseIdx j) (xs.eraseIdx j)
  | [], _, j, .nil => .nil
  | d :: l, _, 0, .cons h r => by simpa using r
  | d :: l, _, j + 1, .cons h r => by simpa using Reps.cons h (reps_erase j r)
theorem pef_pop {i : Nat} {x : Str} {np : Pos} (he : PEf X T pu e f) (hN : X.N[i]? = some x := by rfl) (hv : Vis X.env.scope x := by first | exact Or.inl rfl | exact Or.inr (Or.inl rfl) | exact Or.inr (Or.inr rfl)) (hd : (x == ("__debug__" : Str)) = false := by decide) (hcd : (x == ("__classdict__" : Str)) = false := by decide)
    (hpl : ∀ {ta tb : TE}, PE X (.Name x np) ta → PE X e tb → PE X (.Call (.Attribute (.Name x np) "pop" apos) [e] [] cpos) (tBM X.K "list" rPopAt ta (tCons tb tNil)) := by
      exact fun h1 h2 => pe_bm PySem.F.plainAttrs_list PySem.F.slot_list_pop PySem.F.type_list_pop mt_popAt h1 (pa_cons h2 pa_nil)) : PEf X T false (.Call (.Attribute (.Name x np) "pop" apos) [e] [] cpos) (fPop i f) where
  pe := (hpl (pe_var hN hv hd hcd) he.pe).imp fun σ H Q ⟨C, ρ, G, z, ρ', S, hh, k⟩ => by
    unfold fPop at hh
    split at hh
    · rename_i hown
      obtain ⟨q, xs0, e2, h0⟩ := own_var S hown
      obtain ⟨⟨d, ρ1⟩, e1, hh⟩ := Option.bind_eq_some_iff.mp hh
      dsimp only at hh
      split at hh
      · rename_i _ g l j hi
        split at hh
        · rename_i hc
          obtain ⟨d0, ed, hh⟩ := Option.map_eq_some_iff.mp hh
          cases hh
          refine ⟨.ref q, e2, .inl ⟨rfl, xs0, SqL.of h0⟩, C, ρ, G, .int j, ρ1, S, e1, fun y H1 G1 n1 r1 => ?_⟩
          cases r1
          obtain ⟨p', xs, e3, h1, r2, fin⟩ := n1.st.ownAt hi
          rw [e2] at e3
          cases e3
          obtain ⟨v, ev, rv⟩ := r2.get ed
          have hjl : j.toNat < xs.length := (List.getElem?_eq_some_iff.mp ev).1
          have hlen := r2.length
          have hmany : many = 1000000 := rfl
          refine ⟨q, xs, j, j.toNat, v, rfl, rfl, h1, by omega, by omega, seqIndex_of hc.1 (by omega), ev, k v _ G1 ⟨fin _ _ (reps_erase _ r2), n1.ex, fun hp => nomatch hp⟩ rv⟩
        · cases hh
      · cases hh
    · cases hh
  same := fun h => nomatch h

/-! ### a def as a value -/
theorem pef_fn {x : Str} {c : Nat} (hm : ∃ g, X.mg x = some (.ref g) ∧ T.fns c = some g) (hg : Gl X x := by rfl) (hd : (x == ("__debug__" : Str)) = false := by decide) : PEf X T true (.Name x pos) (fC (.fn c)) :=
  let ⟨_, h1, h2⟩ := hm
  pef_c (v := .ref _) (pe_glob hg h1 rfl hd) fun _ => .fn h2
@[simp] def fCallV (i : Nat) (FF : Nat → Option (List D → Option Slot)) (a : FA) : FE := fun ρ => match ρ[i]? with
  | some (some (.sh (.fn c))) => (FF c).bind fun F => (a ρ).bind fun x => (F x.1).bind fun s => (shO s).map fun d => (d, x.2)
  | _ => none
structure CalV (X : Cx) (T : Tab) (m : Nat) (FF : Nat → Option (List D → Option Slot)) : Prop where
  ex : ∀ c F g, FF c = some F → T.fns c = some g → ∃ (k : Nat) (fd : FuncData) (ps : List Str), FnOk X.prog X.w X.K X.mg X.base CX0 k g fd ps (spD T m F) ∧ Room k X.A ∧ PySem.W.keepIn X.K (.ref g) = true ∧ Binds X.K fd ps []
theorem pef_callV {i m : Nat} {x : Str} {FF : Nat → Option (List D → Option Slot)} (hc : CalV X T m FF) (ha : PAf X T pa (e :: es) fs) (hm : ∀ ρ ds ρ', fs ρ = some (ds, ρ') → ds.length = m) (hN : X.N[i]? = some x := by rfl) (hv : Vis X.env.scope x := by first | exact Or.inl rfl | exact Or.inr (Or.inl rfl) | exact Or.inr (Or.inr rfl))
    (hdb : (x == ("__debug__" : Str)) = false := by decide) (hcd : (x == ("__classdict__" : Str)) = false := by decide)
    (he : starEach (e :: es) X.env = (false, eval e X.env) :: starEach es X.env := by rfl) (hpl : (backTo pos (starEach es X.env)).any (·.1) = false := by rfl) : PEf X T pa (.Call (.Name x p) (e :: es) [] pos) (fCallV i FF fs) where
  pe := ⟨fun pins s σ H Q I h => by
    obtain ⟨C, ρ, G, d, ρ', S, hh, kk⟩ := h
    unfold fCallV at hh
    split at hh
    · rename_i c hi
      obtain ⟨F, e0, hh⟩ := Option.bind_eq_some_iff.mp hh
      obtain ⟨⟨dx, ρ1⟩, e1, hh⟩ := Option.bind_eq_some_iff.mp hh
      obtain ⟨sl, e2, hh⟩ := Option.bind_eq_some_iff.mp hh
      obtain ⟨z', e3, hh⟩ := Option.map_eq_some_iff.mp hh
      cases hh
      obtain ⟨v, ev, rv⟩ := S.sh i _ hi
      cases rv with
      | fn hg =>
        rename_i g
        obtain ⟨k, fd, ps, Fn, hr, hk, hb⟩ := hc.ex c F g e0 hg
        refine (pe_callL (i := i) (f := g) (sp := spD T m F) (dvs := []) (E := E0) Fn hr hN hv hk hb .nil pass0 ha.pa hdb hcd he hpl).run pins s σ H Q I ⟨ev, C, ρ, G, dx, ρ1, S, e1, fun xs H1 G1 n1 r1 => ?_⟩
        show spD T m F (xs ++ []) H1 Q E0
        rw [List.append_nil]
        refine ⟨by rw [← r1.length]; exact hm ρ _ _ e1, G1, _, sl, n1.st.gh, r1, e2, fun v H' G' st ro => ?_⟩
        cases sl with
        | sh d => cases e3; exact kk v H' G' (n1.stp st) ro
        | own _ _ => cases e3
    · cases hh⟩
  same := fun hp ρ z ρ' hh => by
    unfold fCallV at hh
    split at hh
    · obtain ⟨F, e0, hh⟩ := Option.bind_eq_some_iff.mp hh
      obtain ⟨⟨dx, ρ1⟩, e1, hh⟩ := Option.bind_eq_some_iff.mp hh
      obtain ⟨sl, e2, hh⟩ := Option.bind_eq_some_iff.mp hh
      obtain ⟨z', e3, hh⟩ := Option.map_eq_some_iff.mp hh
      cases hh
      exact ha.same hp _ _ _ e1
    · cases hh
end

/-! ### try, nothing raised -/
section
variable {X : Cx} {T : Tab} {body : List Stmt} {h₀ : ExceptHandler} {hs : List ExceptHandler} {pos : Pos} {fb : FS}
theorem psf_try (hn : ∀ e s, ¬ X.xe e s) (hb : PSsf X T body fb) : PSf X T (.Try body (h₀ :: hs) [] [] pos) fb := ⟨(ps_try_never hn hb.ps pss_nil).imp fun D σ H h => h⟩
end
end Fl
end

section
set_option Elab.async false
set_option linter.all false
set_option autoImplicit false
set_option maxRecDepth 100000
set_option maxHeartbeats 2000000
namespace Fl
open PySem PySem.Spec PyProof.Rows L2

/-! ### name = {x: b for x in iter}, the items tuples of whole numbers and texts -/
section
variable {X : Cx} {pins : List (Addr × Obj)} {σ : L2.St} {H : Hp} {s : Shared}
theorem d_setT {E : Value → Shared → Prop} {D b : Addr} {kvs : List (List Key × V)} {k : List Key} {v : V} {r : Value} {Q : Unit → Shared → Prop} (hu : X.A.units + 1 < cLine) (I : Inv X pins σ H s) (hD : H D = some (.dT kvs)) (eb : H b = some (.tup (k.map kV))) (hz : kvs.length < sizeLine) (rv : RelV v r)
    (h : ∀ s', Inv X pins σ (upd H D (.dT (putK kvs k v))) s' → Q () s') : wpAny (model X.prog X.w) X.A (dictSet D (.ref b) r) Q E s := by
  obtain ⟨z, hd, xs, rel, dd⟩ := dt_of I.hok hD
  have hzv : xs.length ≤ sizeLine := by rw [← Paired.length rel]; exact z
  have hl : (putK kvs k v).length ≤ sizeLine := by have := length_putK kvs k v; omega
  refine wpAny_dictSet_heap (hsz := hzv) (show X.A.units < cLine from Nat.lt_of_succ_lt hu) (key_of I.hok eb) dd fun h' dd' hs => h _ ?_
  obtain ⟨q, es, ep, hq, h2, h3, h4, _, h5⟩ := dd'
  refine d_write I (by rw [hD]; exact True.intro) hs ⟨q, hq⟩ ⟨hl, hd, _, (rel.put k eb rv).keeps fun c ys ec => ?_, q, es, ep, hq, h2, h3, h4, h5⟩
  rw [upd_ne (ne_of ec hD (fun z => nomatch z))]
  exact ec
end
section
variable {X : Cx}
/-- {k: v for target in iter}, keys tuples: D the new dict -/
def tDcT (wi : TI) (g : TG) (tk tv : TE) (vs : List Nat) : TE := fun σ H Q => wi σ H fun J H1 => ∀ D, H1 D = none → ∃ W : Nat → Nat → Hp → Prop, (∃ m, W 0 m (upd H1 D (.dT []))) ∧ ∀ i m H, W i m H →
  (J.stop i H ∧ Q (.ref D) H) ∨ (J.go i H ∧ ∃ Nx : Hp → Prop, (∀ H', Nx H' → ∃ m', m' < m ∧ W (i + 1) m' H') ∧ ∀ x H', J.yld i H x H' → g x (wipe σ vs) H' fun σ2 H2 => wipe σ2 vs = wipe σ vs ∧
    tk σ2 H2 fun y H4 => tv σ2 H4 fun z H5 => ∃ kvs k b, y = .ref b ∧ H5 b = some (.tup (k.map kV)) ∧ H5 D = some (.dT kvs) ∧ kvs.length < sizeLine ∧ Nx (upd H5 D (.dT (putK kvs k z))))
theorem dcT_core {pins : List (Addr × Obj)} {s : Shared} {σ : L2.St} {H : Hp} {Q : VK} {kx vx tg iter : Expr} {scope : Scope} {own : List (Str × Nat)} {pos pos' : Pos} {wi : TI} {g : TG} {tk tv : TE} {use : Option (Value → Sem Unit)} {Qf : Value → Shared → Prop}
    (hu : X.A.units + 1 < cLine) (hc : X.calm = true) (hN : X.N.Nodup) (I : Inv X pins σ H s) (hi : PI X tg iter wi) (ok : BlkOk X.N X.env.scope scope own)
    (hg : ∀ (s : Shared) (H : Hp) (C : Addr) (cl : List (Str × Addr)) (fp : List Addr), PG (X.blk s H scope (compEnvC scope cl C X.env) fp) tg g)
    (hk : ∀ (s : Shared) (H : Hp) (C : Addr) (cl : List (Str × Addr)) (fp : List Addr), PE (X.blk s H scope (compEnvC scope cl C X.env) fp) kx tk)
    (he : ∀ (s : Shared) (H : Hp) (C : Addr) (cl : List (Str × Addr)) (fp : List Addr), PE (X.blk s H scope (compEnvC scope cl C X.env) fp) vx tv) (hs : ∀ x, foldedSetIterable iter X.env x = pure x)
    (h : tDcT wi g tk tv (own.map (·.2)) σ H Q)
    (hRR : ∀ D C s' m H', Inv X pins σ H' s' → Q (.ref D) H' → s'.heap.Ns C m → FpOk X pins H' C → compPost (model X.prog X.w) X.A X.xe use Qf (.ref D) C (.ok .next) s') :
    wpAny (model X.prog X.w) X.A (comprehension (.DictComp kx vx [⟨tg, iter, [], 0⟩] scope pos) scope X.env pos' newDict false (eval iter X.env) use) Qf X.xe s := by
  have hfree : ∀ y ∈ scope.names, y.2 = .free → ∃ c, X.env.cells.lookup y.1 = some c := fun y hy e => by
    rcases ok.free y hy e with k | k
    · exact I.ok.has _ (.inl k)
    · exact I.ok.has _ (.inr k)
  refine wpAny_comprehension_free (use := use) rfl hs (closure_ok hfree) ok.kind (fun y hy e => by rw [ok.uniq y hy, e])
    (thn (hi.run pins s σ H _ I h) fun xv s1 hx => thn hx fun itv s2 h2 => ?_)
  obtain ⟨it, fp, tn, J, H2, e, I2, Tn, st2, f2, q⟩ := h2
  subst e
  refine wpAny_newObj_type (newEnv_comp ?_)
  generalize hD : s2.heap.objs.size = D
  have hDn : H2 D = none := I2.hok.fresh (Nat.le_of_eq hD)
  obtain ⟨W, ⟨m0, w0⟩, turn⟩ := q D hDn
  generalize hs3 : ({ s2 with heap := s2.heap.push { cls := .type "dict", data := .dict #[] } } : Shared) = s3
  have I3 : Inv X pins σ (upd H2 D (.dT [])) s3 := by
    rw [← hs3]
    refine I2.laid (t' := s2.toks) (fun b o e => Heap.get?_push_of_some _ e) (Nat.le_of_eq hD) ?_
    rw [← hD]
    exact dt_empty s2.heap I2.big
  have h3 : s3.heap = s2.heap.push { cls := .type "dict", data := .dict #[] } := by rw [← hs3]
  have sz : ∀ b ∈ fp, b < s2.heap.objs.size := fun b hb => by
    obtain ⟨o, e, _⟩ := Tn.obj _ _ st2 b hb
    exact Heap.lt_size e
  have f3 : ∀ b ∈ fp, FpOk X pins (upd H2 D (.dT [])) b ∧ b < s3.heap.objs.size := fun b hb => by
    have hlt := sz b hb
    refine ⟨⟨?_, (f2 b hb).2⟩, by rw [h3, Heap.size_push]; exact Nat.lt_succ_of_lt hlt⟩
    rw [upd_ne (by rw [← hD]; exact Nat.ne_of_lt hlt)]
    exact (f2 b hb).1
  have st3 : tn 0 s3.heap := Tn.keep _ _ _ st2 fun b _ o e => by rw [h3]; exact Heap.get?_push_of_some _ e
  have I4 := block_start I3 ok hN f3
  have pg := hg s3 (upd H2 D (.dT [])) s3.heap.objs.size (cellsFrom (s3.heap.objs.size + 1) scope.names (cloFrom X.env.cells scope.names [])) fp
  have pk := hk s3 (upd H2 D (.dT [])) s3.heap.objs.size (cellsFrom (s3.heap.objs.size + 1) scope.names (cloFrom X.env.cells scope.names [])) fp
  have pe := he s3 (upd H2 D (.dT [])) s3.heap.objs.size (cellsFrom (s3.heap.objs.size + 1) scope.names (cloFrom X.env.cells scope.names [])) fp
  show codeAny _ _ (.compStart (.DictComp kx vx [⟨tg, iter, [], 0⟩] scope pos) 0 (.ref it) (.ref D) (compEnvC scope (cellsFrom (s3.heap.objs.size + 1) scope.names (cloFrom X.env.cells scope.names [])) s3.heap.objs.size X.env)) (compPost (model X.prog X.w) X.A X.xe use Qf (.ref D) s3.heap.objs.size) { s3 with heap := pushCells (s3.heap.push { cls := .type "dict", data := .dict #[] }) scope.names }
  have nfp : ∀ b ∈ fp, (upd H2 D (.dT [])) b = none := fun b hb => (f3 b hb).1.1
  generalize hce : compEnvC scope (cellsFrom (s3.heap.objs.size + 1) scope.names (cloFrom X.env.cells scope.names [])) s3.heap.objs.size X.env = ce at I4 pg pk pe ⊢
  have cL : ce.locals = s3.heap.objs.size := by subst hce; rfl
  generalize hH3 : upd H2 D (.dT []) = H3 at I3 I4 pg pk pe w0 nfp f3
  generalize hs4 : ({ s3 with heap := pushCells (s3.heap.push { cls := .type "dict", data := .dict #[] }) scope.names } : Shared) = s4 at I4 ⊢
  have st4 : tn 0 s4.heap := Tn.keep _ _ _ st3 fun b _ o e => by rw [← hs4]; exact pushCells_keeps _ _ _ _ (Heap.get?_push_of_some _ e)
  have stat : ∀ {σ' : L2.St} {H' : Hp} {s' : Shared}, Inv (X.blk s3 H3 scope ce fp) [] σ' H' s' → (∀ b ∈ fp, H' b = none) → ∀ b ∈ fp, FpOk (X.blk s3 H3 scope ce fp) [] H' b := fun {σ' H' s'} I' hn b hb =>
    ⟨hn b hb, (I'.ok.exf b hb).1, I'.ok.exfs b hb, .inl hb, fun x c e => (I'.ok.exf b hb).2 x c e, fun p hp => absurd (show p ∈ ([] : List (Addr × Obj)) ++ [] from hp) (by simp)⟩
  have loop : codeAny (model X.prog X.w) X.A (.compLoop (.DictComp kx vx [⟨tg, iter, [], 0⟩] scope pos) 0 (.ref it) (.ref D) ce) (compPost (model X.prog X.w) X.A X.xe use Qf (.ref D) s3.heap.objs.size) s4 := by
    refine compLoop_anyD (fun n s' => ∃ i H', Inv (X.blk s3 H3 scope ce fp) [] (wipe σ (own.map (·.2))) H' s' ∧ tn i s'.heap ∧ (∀ b ∈ fp, H' b = none) ∧ W i n H') ?_ m0 ⟨0, H3, I4, st4, nfp, w0⟩
    rintro n s5 ⟨i, H5, I5, st5, n5, w5⟩
    rcases turn i n H5 w5 with ⟨stop, qq⟩ | ⟨go, Nx, hNx, step⟩
    · have td := Tn.done (X.blk s3 H3 scope ce fp) rfl rfl rfl hc i [] s5 _ H5 (fun _ _ => False) I5 (stat I5 n5) st5 stop
      refine thnF td fun r s6 ⟨hr, I6⟩ => ?_
      subst hr
      have I7 : Inv X pins σ H5 s6 := I3.call' (ch := fp) I6.os I6.base I6.hok I6.bare fun b hb => ⟨(f3 b hb).1.2.2.2.1, (f3 b hb).1.2.1, (f3 b hb).1.2.2.2.2.1, (f3 b hb).1.2.2.2.2.2⟩
      have nC : H5 s3.heap.objs.size = none := by
        have z : H5 ce.locals = none := I6.free
        rw [cL] at z
        exact z
      obtain ⟨m, hn, _⟩ := I6.loc
      have hn : s6.heap.Ns ce.locals m := hn
      rw [cL] at hn
      exact hRR D s3.heap.objs.size s6 m H5 I7 qq hn (I3.fpOk (Nat.le_refl _) nC)
    · have ti := Tn.item (X.blk s3 H3 scope ce fp) rfl rfl rfl hc i [] s5 _ H5 (fun _ _ => False) I5 (stat I5 n5) st5 go
      refine thnF ti fun r s6 ⟨u, hr, h6⟩ => ?_
      subst hr
      refine thnF h6 fun _ s7 ⟨x, H7, I7, r7, y7, st7, n7⟩ => ?_
      have I7' := I7.pinned (stat I7 n7) (Tn.obj _ _ st7)
      refine thnF (pg.run _ s7 _ H7 x u _ I7' r7 (step x H7 y7)) fun _ s8 ⟨σ8, H8, I8, hw8, q8⟩ => ?_
      refine PySem.wpAny_pure ?_
      rw [if_pos rfl]
      refine thnF (pk.run _ s8 σ8 H8 _ I8 q8) fun z s10 ⟨yk, H10, I10, r10, q10⟩ => ?_
      refine thnF (pe.run _ s10 σ8 H10 _ I10 q10) fun z2 s11 ⟨yv, H11, I11, r11, kvs, k, b, ek, hb11, hD11, hz11, nx⟩ => ?_
      subst ek
      obtain rfl : z = Value.ref b := r10
      refine d_setT (X := X.blk s3 H3 scope ce fp) hu I11 hD11 hb11 hz11 r11 fun s' I' => ?_
      obtain ⟨m', hm, w'⟩ := hNx _ nx
      have pin' : ∀ b ∈ fp, ∀ o, s7.heap.get? b = some o → s'.heap.get? b = some o ∧ (upd H11 D (.dT (putK kvs k yv))) b = none := fun b hb o e =>
        let z := I'.pin (b, o) (List.mem_append_right _ (List.mem_append_right _ (mem_pinsAt hb e)))
        ⟨z.1, z.2.1⟩
      have hl : (wipe σ (own.map (·.2))).length = σ8.length := by rw [← hw8, wipe_length]
      refine ⟨m', hm, i + 1, _, (I'.unpinned (pins := [])).weak hl (fun j v e => ?_), Tn.keep _ _ _ st7 fun b hb o e => (pin' b hb o e).1, fun b hb => ?_, w'⟩
      · rw [← hw8] at e
        exact (wipe_some e).1
      · obtain ⟨o, e, _⟩ := Tn.obj _ _ st7 b hb
        exact (pin' b hb o e).2
  exact codeAny_compStart_dict loop (Tn.self X.A 0 _ _ _ st4 loop)
theorem ps_setDcT {i : Nat} {y : Str} {py : Pos} {kx vx tg iter : Expr} {scope : Scope} {own : List (Str × Nat)} {pos spos : Pos} {wi : TI} {g : TG} {tk tv : TE} (hu : X.A.units + 1 < cLine) (hc : X.calm = true) (hN : X.N.Nodup) (hy : X.N[i]? = some y) (hyl : X.env.scope.names.lookup y = some .local)
    (hsw : swapsWith (.DictComp kx vx [⟨tg, iter, [], 0⟩] scope pos) (some (.Name y py)) spos.line X.env = pure true) (hi : PI X tg iter wi) (ok : BlkOk X.N X.env.scope scope own)
    (hg : ∀ (s : Shared) (H : Hp) (C : Addr) (cl : List (Str × Addr)) (fp : List Addr), PG (X.blk s H scope (compEnvC scope cl C X.env) fp) tg g)
    (hk : ∀ (s : Shared) (H : Hp) (C : Addr) (cl : List (Str × Addr)) (fp : List Addr), PE (X.blk s H scope (compEnvC scope cl C X.env) fp) kx tk)
    (he : ∀ (s : Shared) (H : Hp) (C : Addr) (cl : List (Str × Addr)) (fp : List Addr), PE (X.blk s H scope (compEnvC scope cl C X.env) fp) vx tv) (hs : ∀ x, foldedSetIterable iter X.env x = pure x := by intro _; rfl) :
    PS X (.Assign [.Name y py] (.DictComp kx vx [⟨tg, iter, [], 0⟩] scope pos) spos) (tAsg (tDcT wi g tk tv (own.map (·.2))) (gName i)) := by
  refine ⟨fun pins s σ H D I h => ?_⟩
  rw [exec_Assign_Name_used _ _ _ _ hsw]
  refine wpAny_bind (wpAny_standAt (wpAny_bind ?_))
  show wpAny _ X.A (do let _ ← comprehension (.DictComp kx vx [⟨tg, iter, [], 0⟩] scope pos) scope X.env (firstIterPos [⟨tg, iter, [], 0⟩] pos) newDict false (eval iter X.env) (some (assign (.Name y py) X.env))) _ _ s
  have h : tDcT wi g tk tv (own.map (·.2)) σ H (fun x H1 => gName i x σ H1 D.nx) := h
  refine wpAny_bind (thn (dcT_core (Qf := fun _ s' => SP X pins D .next s') hu hc hN I hi ok hg hk he hs h fun L C s' m H' I' q hn f => ?_) fun _ s' hq => wpAny_pure (wpAny_pure hq))
  show wpAny _ _ (assign (.Name y py) X.env (.ref L)) _ _ _
  refine wpAny_assign_Name (store_ok2 (v := V.ref L) I' hN hy (.inl hyl) rfl (fun s2 I2 ⟨a, sb, ha⟩ => ?_) (.inr hyl))
  obtain ⟨f0, f1, f2, f3, f4, f5⟩ := f
  have haC : C ≠ a := by
    rcases ha with z | z
    · rw [z]; exact f1
    · exact fun e => f4 y a z e.symm
  refine ⟨m, hn.sameBut sb haC, fun h3 sb3 => ?_⟩
  exact ⟨_, H', I2.turned (t' := s2.toks) (fun b o hb e => (sb3.2 b hb).trans e) f0 f1 f3 f4 f5, q⟩
theorem sw_trueD {kx vx : Expr} {gs : List Comprehension} {scope : Scope} {pos py : Pos} {y : Str} {l : Nat} {env : Env} (hk : env.scope.kind = .function) (hy : env.scope.names.lookup y = some .local) (hl : (py.line == pos.line) = true)
    (ha : (scope.names.any fun (n, k) => n == y && (k == .local || k == .cell)) = false) : swapsWith (.DictComp kx vx gs scope pos) (some (.Name y py)) l env = pure true := by
  have ky : env.kindOf y = some .local := hy
  have hb : env.blockKind = .function := by unfold Env.blockKind; rw [hk]; rfl
  unfold swapsWith
  simp only [hb, ky, ha, Expr.pos, hl]
  rfl
/-- the dict -/
def dcL (b : Bool) : List (List Key × D) → List D → Option (List (List Key × D))
  | acc, [] => some acc
  | acc, d :: ds => (keyT d).bind fun ks => dcL b (putG acc ks (.bl b)) ds
@[simp] def fDcT (i j : Nat) (b : Bool) (it : FA) : FS := fun ρ => (it ρ).bind fun x => if x.1.length < many ∧ j < x.2.length then (dcL b [] x.1).bind fun l => some (.nx (x.2.set i (some (.own true (.dT l))))) else none
theorem putG_len {κ : Type} [DecidableEq κ] (l : List (κ × D)) (k : κ) (d : D) : (putG l k d).length ≤ l.length + 1 := by
  unfold putG
  split <;> simp
theorem psf_setDcT {T : Tab} {pa b : Bool} {i j : Nat} {x y : Str} {px p1 p2 py : Pos} {kk : Nat} {iter : Expr} {scope : Scope} {pos spos : Pos} {fi : FA} (hu : X.A.units + 1 < cLine) (hc : X.calm = true) (hN : X.N.Nodup) (ok : BlkOk X.N X.env.scope scope [(x, j)]) (hi : PIf X T pa (.Name x px) iter fi)
    (hg : ∀ (s : Shared) (H : Hp) (C : Addr) (cl : List (Str × Addr)) (fp : List Addr), PG (X.blk s H scope (compEnvC scope cl C X.env) fp) (.Name x px) (gName j))
    (hk : ∀ (s : Shared) (H : Hp) (C : Addr) (cl : List (Str × Addr)) (fp : List Addr), PE (X.blk s H scope (compEnvC scope cl C X.env) fp) (.Name x p1) (tVar j)) (hs : ∀ x, foldedSetIterable iter X.env x = pure x := by intro _; rfl)
    (hy : X.N[i]? = some y := by rfl) (hyl : X.env.scope.names.lookup y = some .local := by rfl) (hsw : swapsWith (.DictComp (.Name x p1) (.Constant (.bool b) kk p2) [⟨.Name x px, iter, [], 0⟩] scope pos) (some (.Name y py)) spos.line X.env = pure true := by exact sw_trueD rfl rfl rfl (by decide +kernel)) :
    PSf X T (.Assign [.Name y py] (.DictComp (.Name x p1) (.Constant (.bool b) kk p2) [⟨.Name x px, iter, [], 0⟩] scope pos) spos) (fDcT i j b fi) :=
  ⟨(ps_setDcT (own := [(x, j)]) hu hc hN hy hyl hsw hi.pi ok hg hk (fun s H C cl fp => pe_bl) hs).imp fun Ds σ H ⟨C, ρ, G, out, S, hh, k⟩ => by
    obtain ⟨⟨ds, ρ1⟩, e1, hh⟩ := Option.bind_eq_some_iff.mp hh
    dsimp only at hh
    split at hh
    case isFalse => cases hh
    rename_i hlen
    obtain ⟨full, e2, hh⟩ := Option.bind_eq_some_iff.mp hh
    cases hh
    refine ⟨C, ρ, G, ds, ρ1, S, e1, fun J H1 G1 n1 ⟨Y, W, wy⟩ D hD => ?_⟩
    have hG1 : G1 D = none := n1.st.gh.free hD
    refine ⟨fun i m H' => m = ds.length - i ∧ i ≤ ds.length ∧ ∃ G2 H2 acc xs, Sta T C ρ1 σ H2 G2 ∧ Ex G1 G2 ∧ H2 D = none ∧ H' = upd H2 D (.dT xs) ∧ KVs T G2 acc xs ∧ acc.length ≤ i ∧ dcL b acc (ds.drop i) = some full,
      ⟨_, rfl, Nat.zero_le _, G1, H1, [], [], n1.st, Ex.refl G1, hD, rfl, .nil, Nat.le_refl _, by simpa using e2⟩, ?_⟩
    rintro i m H' ⟨rfl, hi, G2, H2, acc, xs, S2, x2, hD2, rfl, racc, hacc, h2⟩
    have gH : Ex G2 (upd H2 D (.dT xs)) := S2.gh.mut (S2.gh.free hD2)
    by_cases hlt : i < ds.length
    · refine .inr ⟨W.goes i _ hlt (x2.trans gH), fun H' => ∃ G2 H2 acc xs, Sta T C ρ1 σ H2 G2 ∧ Ex G1 G2 ∧ H2 D = none ∧ H' = upd H2 D (.dT xs) ∧ KVs T G2 acc xs ∧ acc.length ≤ i + 1 ∧ dcL b acc (ds.drop (i + 1)) = some full,
        fun H' q => ⟨ds.length - (i + 1), by omega, rfl, hlt, q⟩, fun x H' y => ?_⟩
      have yy := W.yields i _ x H' hlt (x2.trans gH) y
      obtain ⟨d, G3, hd, st, rd⟩ := wy i _ x H' G2 x2 gH yy
      rw [List.drop_eq_getElem_cons hlt] at h2
      have hd' : ds[i] = d := by simpa [hlt] using hd
      rw [hd'] at h2
      obtain ⟨ks, ek, h2⟩ := Option.bind_eq_some_iff.mp h2
      obtain ⟨bb, rfl, hb⟩ := keyT_rep ek rd
      have hD' : H' D = some (.dT xs) := st.hh D _ upd_same
      have hG3 : G3 D = none := st.fr D _ upd_same (fun _ z => nomatch z) (S2.gh.free hD2)
      have st3 : Stp H2 G2 (fun a => if a = D then none else H' a) G3 := ⟨fun a u e => by
          have : a ≠ D := fun z => by rw [z, hD2] at e; cases e
          show (if a = D then none else H' a) = some u
          rw [if_neg this]
          exact st.hh a u (by rw [upd_ne this]; exact e), st.gg, fun a u e => by
          have : a ≠ D := fun z => by rw [z, hG3] at e; cases e
          show (if a = D then none else H' a) = some u
          rw [if_neg this]
          exact st.gh a u e, fun a u e t g => by
          have : a ≠ D := fun z => by rw [z, hD2] at e; cases e
          exact st.fr a u (by rw [upd_ne this]; exact e) t g⟩
      have hjσ : j < σ.length := by rw [n1.st.len]; exact hlen.2
      refine ⟨?_, .ref bb, ?_, ?_⟩
      · show ((σ.set j none).set j (some (V.ref bb))).set j none = σ.set j none
        simp
      · show ((σ.set j none).set j (some (V.ref bb)))[j]? = _
        rw [List.getElem?_set_self (by simpa using hjσ)]
      · refine ⟨xs, ks, bb, rfl, st.gh _ _ hb, hD', ?_, G3, _, putG acc ks (.bl b), putK xs ks (.bl b), S2.stp st3, x2.trans st.gg, if_pos rfl, ?_, (racc.mono st.gg).put ks (.bl b), Nat.le_trans (putG_len acc ks _) (by omega), h2⟩
        · have := racc.length
          exact Nat.lt_of_lt_of_le (by omega) many_le
        · funext a
          unfold upd
          by_cases z : a = D
          · simp [z]
          · simp [z]
    · have e : i = ds.length := by omega
      subst e
      rw [List.drop_length] at h2
      cases h2
      exact .inl ⟨W.stops _ (x2.trans gH), k _ _ G2 (S2.pushNew (o := .dT full) (u := .dT xs) hD2 ⟨D, xs, rfl, rfl, upd_same, racc⟩).assignOwn (n1.ex.trans x2)⟩⟩
end
end Fl
namespace Fl
open PySem PySem.Spec PyProof.Rows L2
/-- a def that is handed on as a value, at its call -/
theorem Df.calV {X : Cx} {T : Tab} {x : Str} {k k' m c : Nat} {F : List D → Option Slot} (h : Df X.prog X.w X.K X.mg X.base T x k (spD T m F) []) (hv : ∃ g, X.mg x = some (.ref g) ∧ T.fns c = some g) (hr : Room k' X.A) (hk : k ≤ k' := by decide) : CalV X T m (fun i => if i = c then some F else none) where
  ex := fun c' F' g e1 e2 => by
    split at e1
    · rename_i hc
      subst hc
      cases e1
      obtain ⟨f, fd, ps, ds, Fn, hm, hkp, hb, hd⟩ := h.ex
      obtain ⟨g', h1, h2⟩ := hv
      rw [h2] at e2
      cases e2
      rw [hm] at h1
      cases h1
      cases hd
      exact ⟨k, fd, ps, Fn, hr.mono hk, hkp, hb⟩
    · cases e1
end Fl
end

section
set_option linter.all false
set_option autoImplicit false
set_option maxRecDepth 100000
set_option maxHeartbeats 1000000
namespace Fl
open PySem

/-! ### whole numbers as data -/
def leI (a b : Int) : Bool := decide (a ≤ b)
def sortI (l : List Int) : List Int := isort leI l
theorem leI_trans (x y z : Int) : leI x y = true → leI y z = true → leI x z = true := by simp only [leI, decide_eq_true_eq]; omega
theorem leI_total (x y : Int) : (leI x y || leI y x) = true := by simp only [leI, Bool.or_eq_true, decide_eq_true_eq]; omega
theorem sortI_perm (l : List Int) : (sortI l).Perm l := isort_perm leI l
theorem sortI_len (l : List Int) : (sortI l).length = l.length := (sortI_perm l).length_eq
theorem sortI_sorted (l : List Int) : (sortI l).Pairwise (· ≤ ·) := by
  have := isort_sorted leI_trans leI_total l
  exact this.imp fun h => by simpa [leI] using h
theorem sorted_uniq : ∀ {l m : List Int}, l.Pairwise (· ≤ ·) → m.Pairwise (· ≤ ·) → l.Perm m → l = m
  | [], m, _, _, p => (List.nil_perm.mp p).symm
  | x :: l, [], _, _, p => by have := p.length_eq; simp at this
  | x :: l, y :: m, hl, hm, p => by
    have h1 := List.pairwise_cons.mp hl
    have h2 := List.pairwise_cons.mp hm
    have e : x = y := by
      have a : y ∈ x :: l := p.mem_iff.mpr (by simp)
      have b : x ∈ y :: m := p.mem_iff.mp (by simp)
      rcases List.mem_cons.mp a with a | a
      · exact a.symm
      · rcases List.mem_cons.mp b with b | b
        · exact b
        · have := h1.1 y a
          have := h2.1 x b
          omega
    subst e
    rw [sorted_uniq h1.2 h2.2 ((List.perm_cons x).mp p)]
theorem sortI_congr {l m : List Int} (p : l.Perm m) : sortI l = sortI m := sorted_uniq (sortI_sorted l) (sortI_sorted m) ((sortI_perm l).trans (p.trans (sortI_perm m).symm))
theorem sortI_id {l : List Int} (h : l.Pairwise (· ≤ ·)) : sortI l = l := sorted_uniq (sortI_sorted l) h (sortI_perm l)
theorem sortI_mem {l : List Int} {x : Int} : x ∈ sortI l ↔ x ∈ l := (sortI_perm l).mem_iff
theorem fits_ints (n : Nat) : ∀ l : List Int, fits n (l.map .int) = true
  | [] => rfl
  | x :: l => by simp [fits, fit, fits_ints n l]
theorem likeAll_ints (l : List Int) : likeAll (l.map .int) = true := by
  simp [likeAll, likeD]
theorem canSort_ints (l : List Int) (h : l.length ≤ 1000000) : canSort (l.map .int) = true := by
  unfold canSort
  rw [fits_ints, likeAll_ints]
  simp [noTup, many]
  exact h
theorem leD_int (a b : Int) : leD (.int a) (.int b) = leI a b := by
  unfold leD ltD leI
  by_cases h : a ≤ b
  · simp [h, show ¬ b < a by omega]
  · simp [h, show b < a by omega]
theorem isort_ints (l : List Int) : isort leD (l.map .int) = (sortI l).map .int := isort_map D.int leD_int l
theorem dSort_lst (l : List Int) (h : l.length ≤ 1000000) : dSort (.lst (l.map .int)) = some ((sortI l).map .int) := by
  simp [canSort_ints l h, isort_ints]
theorem dSort_tup (l : List Int) (h : l.length ≤ 1000000) : dSort (.tup (l.map .int)) = some ((sortI l).map .int) := by
  simp [canSort_ints l h, isort_ints]
@[simp] theorem eqD_int (i j : Int) : eqD (.int i) (.int j) = (i == j) := by rw [eqD]
@[simp] theorem eqD_nn : eqD .non .non = true := by rw [eqD]
@[simp] theorem eqD_bl (a b : Bool) : eqD (.bl a) (.bl b) = (a == b) := by rw [eqD]
@[simp] theorem eqD_lst (l m : List D) : eqD (.lst l) (.lst m) = eqDs l m := by rw [eqD]
@[simp] theorem eqD_tup (l m : List D) : eqD (.tup l) (.tup m) = eqDs l m := by rw [eqD]
@[simp] theorem eqDs_nn : eqDs [] [] = true := by rw [eqDs]
@[simp] theorem eqDs_nc (d : D) (l : List D) : eqDs [] (d :: l) = false := by rw [eqDs] <;> simp
@[simp] theorem eqDs_cn (d : D) (l : List D) : eqDs (d :: l) [] = false := by rw [eqDs] <;> simp
@[simp] theorem eqDs_cc (d e : D) (l m : List D) : eqDs (d :: l) (e :: m) = (eqD d e && eqDs l m) := by rw [eqDs]
@[simp] theorem fit_int (n : Nat) (i : Int) : fit n (.int i) = true := by cases n <;> rfl
@[simp] theorem fit_non (n : Nat) : fit n .non = true := by cases n <;> rfl
@[simp] theorem fit_bl (n : Nat) (b : Bool) : fit n (.bl b) = true := by cases n <;> rfl
@[simp] theorem fit_lst' (n : Nat) (l : List D) : fit (n + 1) (.lst l) = fits n l := by rw [fit]
@[simp] theorem fit_tup' (n : Nat) (l : List D) : fit (n + 1) (.tup l) = fits n l := by rw [fit]
@[simp] theorem fits_nil (n : Nat) : fits n [] = true := by rw [fits]
@[simp] theorem fits_cons (n : Nat) (d : D) (l : List D) : fits n (d :: l) = (fit n d && fits n l) := by rw [fits]
@[simp] theorem noL_int (i : Int) : noL (.int i) = true := by rw [noL] <;> simp
@[simp] theorem noL_bl (i : Bool) : noL (.bl i) = true := by rw [noL] <;> simp
@[simp] theorem noL_non : noL .non = true := by rw [noL] <;> simp
@[simp] theorem noL_tup' (l : List D) : noL (.tup l) = noLs l := by rw [noL]
theorem eqDs_ints : ∀ l m : List Int, eqDs (l.map .int) (m.map .int) = decide (l = m)
  | [], [] => by simp
  | [], _ :: _ => by simp
  | _ :: _, [] => by simp
  | a :: l, b :: m => by
    have := eqDs_ints l m
    by_cases h : a = b <;> simp [h, this]
theorem small_nat (n : Nat) (h : n ≤ 1000000) : small (n : Int) = true := by
  unfold small
  exact decide_eq_true (by omega)
theorem dRng1_nat (n : Nat) (h : n ≤ 1000000) : dRng1 [.int (n : Int)] = some (rngL 0 n) := by
  show (if small (n : Int) = true then some (rngL 0 (n : Int).toNat) else none) = _
  rw [if_pos (small_nat n h)]
  rfl
end Fl
namespace Fl
theorem dSort_tp (l : List Int) (h : l.length ≤ 1000000) : dSort (.tp (l.map .int)) = some ((sortI l).map .int) := by
  simp [dSort, dSeq, canSort_ints l h, isort_ints]
@[simp] theorem eqD_tp (l m : List D) : eqD (.tp l) (.tp m) = eqDs l m := by rw [eqD]
@[simp] theorem eqD_tptup (l m : List D) : eqD (.tp l) (.tup m) = eqDs l m := by rw [eqD]
@[simp] theorem eqD_tuptp (l m : List D) : eqD (.tup l) (.tp m) = eqDs l m := by rw [eqD]
@[simp] theorem fit_tp' (n : Nat) (l : List D) : fit (n + 1) (.tp l) = fits n l := by rw [fit]
@[simp] theorem noL_tp' (l : List D) : noL (.tp l) = noLs l := by rw [noL]
end Fl
end

section
set_option linter.all false
set_option autoImplicit false
set_option maxRecDepth 100000
set_option maxHeartbeats 1000000
namespace Fl
open PySem

/-! ### serving pools: each coin at most the room of the coins before it -/
def okL (p : Int) : Int → List Int → Prop
  | _, [] => True
  | r, c :: cs => 1 ≤ c ∧ c ≤ r / (p - 1) + 1 ∧ okL p (r + c) cs
theorem room_mono {p r s : Int} (hp : 2 ≤ p) (h : r ≤ s) : r / (p - 1) + 1 ≤ s / (p - 1) + 1 := by
  have := Int.ediv_le_ediv (show (0 : Int) < p - 1 by omega) h
  omega
theorem okL_mono {p : Int} (hp : 2 ≤ p) : ∀ {l : List Int} {r s : Int}, r ≤ s → okL p r l → okL p s l
  | [], _, _, _, _ => True.intro
  | c :: cs, r, s, h, ⟨h1, h2, h3⟩ => ⟨h1, by have := room_mono hp h; omega, okL_mono hp (by omega) h3⟩
theorem okL_ins {p : Int} (hp : 2 ≤ p) {c : Int} (hc : 1 ≤ c) : ∀ {l : List Int} {r : Int}, okL p r l → c ≤ (r + l.sum) / (p - 1) + 1 → okL p r (ins leI c l)
  | [], r, _, h => ⟨hc, by simpa using h, True.intro⟩
  | y :: ys, r, ⟨h1, h2, h3⟩, h => by
    unfold ins
    split
    · rename_i hle
      have hle : c ≤ y := by simpa [leI] using hle
      refine ⟨hc, by omega, h1, ?_, okL_mono hp (by omega) h3⟩
      have := room_mono hp (show r ≤ r + c by omega)
      omega
    · refine ⟨h1, h2, okL_ins hp hc h3 ?_⟩
      rw [List.sum_cons] at h
      rw [Int.add_assoc]
      exact h
theorem okL_pos {p : Int} : ∀ {l : List Int} {r : Int}, okL p r l → ∀ c ∈ l, 1 ≤ c
  | [], _, _, c, h => by simp at h
  | y :: ys, r, ⟨h1, h2, h3⟩, c, h => by
    rcases List.mem_cons.mp h with h | h
    · omega
    · exact okL_pos h3 c h
theorem sum_nonneg : ∀ {l : List Int}, (∀ c ∈ l, 1 ≤ c) → 0 ≤ l.sum
  | [], _ => by simp
  | y :: ys, h => by
    have := h y (by simp)
    have := sum_nonneg (l := ys) fun c hc => h c (by simp [hc])
    rw [List.sum_cons]
    omega
theorem le_sum : ∀ {l : List Int}, (∀ c ∈ l, 1 ≤ c) → ∀ c ∈ l, c ≤ l.sum
  | [], _, c, h => by simp at h
  | y :: ys, h, c, hc => by
    have h1 := h y (by simp)
    have h2 := sum_nonneg (l := ys) fun c hc => h c (by simp [hc])
    rw [List.sum_cons]
    rcases List.mem_cons.mp hc with e | hc
    · omega
    · have := le_sum (l := ys) (fun c hc => h c (by simp [hc])) c hc
      omega
theorem room_le {p r : Int} (hp : 2 ≤ p) (hr : 0 ≤ r) : r / (p - 1) + 1 ≤ r + 1 := by
  have : r / (p - 1) ≤ r := Int.ediv_le_self _ hr
  omega
theorem okL_sum {p : Int} (hp : 2 ≤ p) : ∀ {l : List Int} {r : Int}, 0 ≤ r → okL p r l → r + l.sum + 1 ≤ (r + 1) * 2 ^ l.length
  | [], r, _, _ => by simp
  | c :: cs, r, hr, ⟨h1, h2, h3⟩ => by
    have := okL_sum hp (show 0 ≤ r + c by omega) h3
    have h4 := room_le hp hr
    have h5 : r + c + 1 ≤ (r + 1) * 2 := by omega
    have h6 : (r + c + 1) * 2 ^ cs.length ≤ (r + 1) * 2 * 2 ^ cs.length := Int.mul_le_mul_of_nonneg_right h5 (Int.le_of_lt (Int.pow_pos (by decide)))
    rw [List.sum_cons, List.length_cons, Int.pow_succ, Int.mul_comm (2 ^ cs.length) 2, ← Int.mul_assoc]
    omega
theorem sum_perm {l m : List Int} (h : l.Perm m) : l.sum = m.sum := by
  induction h with
  | nil => rfl
  | cons x _ ih => rw [List.sum_cons, List.sum_cons, ih]
  | swap x y l => simp only [List.sum_cons]; omega
  | trans _ _ h1 h2 => exact h1.trans h2
theorem sortI_sum (l : List Int) : (sortI l).sum = l.sum := sum_perm (sortI_perm l)
theorem sortI_cons (c : Int) (l : List Int) : sortI (c :: l) = ins leI c (sortI l) := rfl
/-- a pool in any order that serves -/
def Good (p : Int) (cs : List Int) : Prop := okL p 0 (sortI cs)
theorem Good.perm {p : Int} {cs ds : List Int} (h : Good p cs) (q : cs.Perm ds) : Good p ds := by unfold Good; rw [← sortI_congr q]; exact h
theorem Good.put {p c : Int} {cs : List Int} (hp : 2 ≤ p) (h : Good p cs) (h1 : 1 ≤ c) (h2 : c ≤ cs.sum / (p - 1) + 1) : Good p (c :: cs) := by
  unfold Good
  rw [sortI_cons]
  exact okL_ins hp h1 h (by rw [sortI_sum]; simpa using h2)
theorem Good.pos {p : Int} {cs : List Int} (h : Good p cs) : ∀ c ∈ cs, 1 ≤ c := fun c hc => okL_pos h c (sortI_mem.mpr hc)
theorem Good.sum {p : Int} {cs : List Int} (hp : 2 ≤ p) (h : Good p cs) (n : Nat) (hl : cs.length ≤ n) : cs.sum + 1 ≤ 2 ^ n := by
  have := okL_sum hp (Int.le_refl 0) h
  rw [sortI_sum, sortI_len] at this
  have h2 : (2 : Int) ^ cs.length ≤ 2 ^ n := by
    have : (2 : Nat) ^ cs.length ≤ 2 ^ n := Nat.pow_le_pow_right (by decide) hl
    exact_mod_cast this
  omega
end Fl
end

section
set_option Elab.async false
set_option linter.all false
set_option autoImplicit false
set_option maxRecDepth 100000
set_option maxHeartbeats 4000000
namespace K79
open PySem PySem.Spec PyProof.Rows L2 Fl
def topS (i : Nat) : Stmt := PySem.Challenge.pw_anyworths_k79_whole_drawn_losses_struck.main.body.getD i (.Pass ⟨0, 0, 0, 0⟩)
abbrev s__law_hand : Stmt := topS 65
abbrev s__law_mix : Stmt := topS 64
abbrev s__law_draw : Stmt := topS 66
abbrev s__law_few_people : Stmt := topS 73
abbrev s__law_lost : Stmt := topS 74
abbrev s__law_room : Stmt := topS 75
abbrev s__law_bearing : Stmt := topS 76
abbrev s__law_loss_pool : Stmt := topS 77
abbrev s_is_sequence : Stmt := topS 16
abbrev s_is_whole : Stmt := topS 15
abbrev s_check_pool : Stmt := topS 17
abbrev s_check_people : Stmt := topS 18
abbrev s_check_lost : Stmt := topS 56
abbrev s_covers_of : Stmt := topS 57
abbrev s_first_fallen : Stmt := topS 58
abbrev s_running_sums : Stmt := topS 50
abbrev s_parted_up : Stmt := topS 48
abbrev s_failing_places : Stmt := topS 51
abbrev s_parted_evenly : Stmt := topS 49
abbrev s_serves : Stmt := topS 52
abbrev s_serves_after : Stmt := topS 59
abbrev s_most_lost : Stmt := topS 62
abbrev s_rest_of : Stmt := topS 22
abbrev s_has_lot : Stmt := topS 21
abbrev s_less_lot : Stmt := topS 23
abbrev s_checked_amounts : Stmt := topS 25
abbrev s_check_wish : Stmt := topS 26
abbrev s_checked_couple : Stmt := topS 29
abbrev s_put_sorted : Stmt := topS 37
abbrev s_next_entries : Stmt := topS 38
abbrev s_layers_of : Stmt := topS 39
abbrev s_earlier_entry : Stmt := topS 40
abbrev s_chained_entries : Stmt := topS 41
abbrev s_any_split : Stmt := topS 42
abbrev s__law_turned : Stmt := topS 71
abbrev s_fails_in : Stmt := topS 60
abbrev s_fallen_fault : Stmt := topS 61
abbrev s__law_layers : Stmt := topS 78
abbrev s_is_entry : Stmt := topS 43
abbrev s_has_form : Stmt := topS 44
abbrev s_layers_fault : Stmt := topS 45
abbrev s__law_fallen_right : Stmt := topS 83
abbrev s__law_drawn_lot : Stmt := topS 84
abbrev s_check_amount : Stmt := topS 19
abbrev s_even_wish : Stmt := topS 27
abbrev s__law_big : Stmt := topS 67
abbrev s__law_drawn_wish : Stmt := topS 80
abbrev s__law_less : Stmt := topS 72
abbrev s__law_wishes : Stmt := topS 79
abbrev s__law_whole : Stmt := topS 68
abbrev s__law_lot_like : Stmt := topS 69
abbrev s__law_split_like : Stmt := topS 70
abbrev s__law_is_split : Stmt := topS 81
abbrev s_may_take : Stmt := topS 32
abbrev s_first_lacking : Stmt := topS 30
abbrev s_hand_out : Stmt := topS 33
abbrev s_greatest_first : Stmt := topS 31
abbrev s__law_rest_right : Stmt := topS 82
abbrev s_law : Stmt := topS 85
abbrev s_Stuck : Stmt := inClass (topS 34) 0
abbrev s_NoSplit : Stmt := inClass (topS 46) 0
abbrev s_Unserved : Stmt := inClass (topS 53) 0
abbrev s_Fallen : Stmt := inClass (topS 55) 0
theorem sc__law_hand : FnScope ["_law_script", "_law_total", "_law_k", "_law_cell"] ["_law_script"] (defScope s__law_hand) := ⟨rfl, rfl, rfl, by decide +kernel, rfl, by decide +kernel, by decide +kernel⟩
theorem sc__law_mix : FnScope ["_law_number", "_law_turn", "_law_once", "_law_twice"] ["_law_number", "_law_turn"] (defScope s__law_mix) := ⟨rfl, rfl, rfl, by decide +kernel, rfl, by decide +kernel, by decide +kernel⟩
theorem sc__law_draw : FnScope ["_law_hand_here", "_law_many", "_law_cell", "_law_rest"] ["_law_hand_here", "_law_many"] (defScope s__law_draw) := ⟨rfl, rfl, rfl, by decide +kernel, rfl, by decide +kernel, by decide +kernel⟩
theorem sc__law_few_people : FnScope ["_law_hand_here"] ["_law_hand_here"] (defScope s__law_few_people) := ⟨rfl, rfl, rfl, by decide +kernel, rfl, by decide +kernel, by decide +kernel⟩
theorem sc__law_lost : FnScope ["_law_hand_here", "_law_turn"] ["_law_hand_here"] (defScope s__law_lost) := ⟨rfl, rfl, rfl, by decide +kernel, rfl, by decide +kernel, by decide +kernel⟩
theorem sc__law_room : FnScope ["_law_coins", "_law_people", "_law_lost_here", "_law_kept"] ["_law_coins", "_law_people", "_law_lost_here"] (defScope s__law_room) := ⟨rfl, rfl, rfl, by decide +kernel, rfl, by decide +kernel, by decide +kernel⟩
theorem sc__law_bearing : FnScope ["_law_hand_here", "_law_many", "_law_people", "_law_lost_here", "_law_coins", "_law_k", "_law_room_here", "_law_coin"] ["_law_hand_here", "_law_many", "_law_people", "_law_lost_here"] (defScope s__law_bearing) := ⟨rfl, rfl, rfl, by decide +kernel, rfl, by decide +kernel, by decide +kernel⟩
theorem sc__law_loss_pool : FnScope ["_law_hand_here", "_law_most", "_law_people", "_law_lost_here", "_law_many", "_law_turn", "_law_k", "_law_coins", "_law_at"] ["_law_hand_here", "_law_most", "_law_people", "_law_lost_here"] (defScope s__law_loss_pool) := ⟨rfl, rfl, rfl, by decide +kernel, rfl, by decide +kernel, by decide +kernel⟩
theorem sc_is_sequence : FnScope ["thing", "low", "high"] ["thing", "low", "high"] (defScope s_is_sequence) := ⟨rfl, rfl, rfl, by decide +kernel, rfl, by decide +kernel, by decide +kernel⟩
theorem sc_is_whole : FnScope ["thing", "low", "high"] ["thing", "low", "high"] (defScope s_is_whole) := ⟨rfl, rfl, rfl, by decide +kernel, rfl, by decide +kernel, by decide +kernel⟩
theorem sc_check_pool : FnScope ["coins", "at", "coin"] ["coins"] (defScope s_check_pool) := ⟨rfl, rfl, rfl, by decide +kernel, rfl, by decide +kernel, by decide +kernel⟩
theorem sc_check_people : FnScope ["people", "low"] ["people", "low"] (defScope s_check_people) := ⟨rfl, rfl, rfl, by decide +kernel, rfl, by decide +kernel, by decide +kernel⟩
theorem sc_check_lost : FnScope ["lost"] ["lost"] (defScope s_check_lost) := ⟨rfl, rfl, rfl, by decide +kernel, rfl, by decide +kernel, by decide +kernel⟩
theorem sc_covers_of : FnScope ["coins", "lost", "sums", "coin", "place"] ["coins", "lost"] (defScope s_covers_of) := ⟨rfl, rfl, rfl, by decide +kernel, rfl, by decide +kernel, by decide +kernel⟩
theorem sc_first_fallen : FnScope ["coins", "people", "lost", "covers", "place", "coin"] ["coins", "people", "lost"] (defScope s_first_fallen) := ⟨rfl, rfl, rfl, by decide +kernel, rfl, by decide +kernel, by decide +kernel⟩
theorem sc_running_sums : FnScope ["coins", "sums", "total", "coin"] ["coins"] (defScope s_running_sums) := ⟨rfl, rfl, rfl, by decide +kernel, rfl, by decide +kernel, by decide +kernel⟩
theorem sc_parted_up : FnScope ["amount", "people"] ["amount", "people"] (defScope s_parted_up) := ⟨rfl, rfl, rfl, by decide +kernel, rfl, by decide +kernel, by decide +kernel⟩
theorem sc_failing_places : FnScope ["pool", "people", "coins", "sums", "place", "coin"] ["pool", "people"] (defScope s_failing_places) := ⟨rfl, rfl, rfl, by decide +kernel, rfl, by decide +kernel, by decide +kernel⟩
theorem sc_parted_evenly : FnScope ["amount", "people", "each", "more", "person"] ["amount", "people"] (defScope s_parted_evenly) := ⟨rfl, rfl, rfl, by decide +kernel, rfl, by decide +kernel, by decide +kernel⟩
theorem sc_serves : FnScope ["pool", "people", "coins", "failing", "place", "total", "first", "wish"] ["pool", "people"] (defScope s_serves) := ⟨rfl, rfl, rfl, by decide +kernel, rfl, by decide +kernel, by decide +kernel⟩
theorem sc_serves_after : FnScope ["pool", "people", "lost", "coins", "place", "first", "unserved"] ["pool", "people", "lost"] (defScope s_serves_after) := ⟨rfl, rfl, rfl, by decide +kernel, rfl, by decide +kernel, by decide +kernel⟩
theorem sc_most_lost : FnScope ["pool", "people", "coins", "borne", "lost"] ["pool", "people"] (defScope s_most_lost) := ⟨rfl, rfl, rfl, by decide +kernel, rfl, by decide +kernel, by decide +kernel⟩
theorem sc_rest_of : FnScope ["coins", "lot", "rest", "coin"] ["coins", "lot"] (defScope s_rest_of) := ⟨rfl, rfl, rfl, by decide +kernel, rfl, by decide +kernel, by decide +kernel⟩
theorem sc_has_lot : FnScope ["pool", "lot", "coins", "wanted", "coin"] ["pool", "lot"] (defScope s_has_lot) := ⟨rfl, rfl, rfl, by decide +kernel, rfl, by decide +kernel, by decide +kernel⟩
theorem sc_less_lot : FnScope ["pool", "lot"] ["pool", "lot"] (defScope s_less_lot) := ⟨rfl, rfl, rfl, by decide +kernel, rfl, by decide +kernel, by decide +kernel⟩
theorem sc_checked_amounts : FnScope ["wish", "place", "amount"] ["wish"] (defScope s_checked_amounts) := ⟨rfl, rfl, rfl, by decide +kernel, rfl, by decide +kernel, by decide +kernel⟩
theorem sc_check_wish : FnScope ["wish", "total", "amounts"] ["wish", "total"] (defScope s_check_wish) := ⟨rfl, rfl, rfl, by decide +kernel, rfl, by decide +kernel, by decide +kernel⟩
theorem sc_checked_couple : FnScope ["pool", "wish", "coins"] ["pool", "wish"] (defScope s_checked_couple) := ⟨rfl, rfl, rfl, by decide +kernel, rfl, by decide +kernel, by decide +kernel⟩
theorem sc_put_sorted : FnScope ["entry", "place", "worth"] ["entry", "place", "worth"] (defScope s_put_sorted) := ⟨rfl, rfl, rfl, by decide +kernel, rfl, by decide +kernel, by decide +kernel⟩
theorem sc_next_entries : FnScope ["layer", "coin", "found", "entry", "place", "lack"] ["layer", "coin"] (defScope s_next_entries) := ⟨rfl, rfl, rfl, by decide +kernel, rfl, by decide +kernel, by decide +kernel⟩
theorem sc_layers_of : FnScope ["pool", "wish", "coins", "amounts", "layers", "coin", "layer"] ["pool", "wish"] (defScope s_layers_of) := ⟨rfl, rfl, rfl, by decide +kernel, rfl, by decide +kernel, by decide +kernel⟩
theorem sc_earlier_entry : FnScope ["layer", "entry", "coin", "found", "place", "lack", "earlier"] ["layer", "entry", "coin"] (defScope s_earlier_entry) := ⟨rfl, rfl, rfl, by decide +kernel, rfl, by decide +kernel, by decide +kernel⟩
theorem sc_chained_entries : FnScope ["coins", "layers", "entry", "chain", "place"] ["coins", "layers"] (defScope s_chained_entries) := ⟨rfl, rfl, rfl, by decide +kernel, rfl, by decide +kernel, by decide +kernel⟩
theorem sc_any_split : FnScope ["pool", "wish", "coins", "amounts", "layers", "lacks", "given", "amount", "coin", "entry", "person", "purse"] ["pool", "wish"] (defScope s_any_split) := ⟨rfl, rfl, rfl, by decide +kernel, rfl, by decide +kernel, by decide +kernel⟩
theorem sc__law_turned : FnScope ["_law_hand_here", "_law_coins", "_law_out", "_law_coin"] ["_law_hand_here", "_law_coins"] (defScope s__law_turned) := ⟨rfl, rfl, rfl, by decide +kernel, rfl, by decide +kernel, by decide +kernel⟩
theorem sc_fails_in : FnScope ["rest", "coin", "people", "less"] ["rest", "coin", "people"] (defScope s_fails_in) := ⟨rfl, rfl, rfl, by decide +kernel, rfl, by decide +kernel, by decide +kernel⟩
theorem sc_fallen_fault : FnScope ["pool", "people", "lost", "fallen", "coins", "lot", "rest", "wish"] ["pool", "people", "lost", "fallen"] (defScope s_fallen_fault) := ⟨rfl, rfl, rfl, by decide +kernel, rfl, by decide +kernel, by decide +kernel⟩
theorem sc__law_layers : FnScope ["_law_coins", "_law_wish", "_law_rows", "_law_k", "_law_coin", "_law_known", "_law_row", "_law_at", "_law_lack"] ["_law_coins", "_law_wish"] (defScope s__law_layers) := ⟨rfl, rfl, rfl, by decide +kernel, rfl, by decide +kernel, by decide +kernel⟩
theorem sc_is_entry : FnScope ["entry", "people", "lack"] ["entry", "people"] (defScope s_is_entry) := ⟨rfl, rfl, rfl, by decide +kernel, rfl, by decide +kernel, by decide +kernel⟩
theorem sc_has_form : FnScope ["layers", "people", "layer", "entry"] ["layers", "people"] (defScope s_has_form) := ⟨rfl, rfl, rfl, by decide +kernel, rfl, by decide +kernel, by decide +kernel⟩
theorem sc_layers_fault : FnScope ["pool", "wish", "layers", "coins", "amounts", "place", "known", "entry"] ["pool", "wish", "layers"] (defScope s_layers_fault) := ⟨rfl, rfl, rfl, by decide +kernel, rfl, by decide +kernel, by decide +kernel⟩
theorem sc__law_fallen_right : FnScope ["_law_hand_here", "_law_coins", "_law_people", "_law_lost_here", "_law_told", "_law_rest", "_law_answer"] ["_law_hand_here", "_law_coins", "_law_people", "_law_lost_here", "_law_told"] (defScope s__law_fallen_right) := ⟨rfl, rfl, rfl, by decide +kernel, rfl, by decide +kernel, by decide +kernel⟩
theorem sc__law_drawn_lot : FnScope ["_law_hand_here", "_law_coins", "_law_lost_here", "_law_left", "_law_lot", "_law_k"] ["_law_hand_here", "_law_coins", "_law_lost_here"] (defScope s__law_drawn_lot) := ⟨rfl, rfl, rfl, by decide +kernel, rfl, by decide +kernel, by decide +kernel⟩
theorem sc_check_amount : FnScope ["amount", "low"] ["amount", "low"] (defScope s_check_amount) := ⟨rfl, rfl, rfl, by decide +kernel, rfl, by decide +kernel, by decide +kernel⟩
theorem sc_even_wish : FnScope ["total", "people", "person"] ["total", "people"] (defScope s_even_wish) := ⟨rfl, rfl, rfl, by decide +kernel, rfl, by decide +kernel, by decide +kernel⟩
theorem sc__law_big : FnScope ["_law_hand_here", "_law_many", "_law_number", "_law_k"] ["_law_hand_here", "_law_many"] (defScope s__law_big) := ⟨rfl, rfl, rfl, by decide +kernel, rfl, by decide +kernel, by decide +kernel⟩
theorem sc__law_drawn_wish : FnScope ["_law_hand_here", "_law_total", "_law_people", "_law_rest", "_law_wish", "_law_k", "_law_part"] ["_law_hand_here", "_law_total", "_law_people"] (defScope s__law_drawn_wish) := ⟨rfl, rfl, rfl, by decide +kernel, rfl, by decide +kernel, by decide +kernel⟩
theorem sc__law_less : FnScope ["_law_coins", "_law_lot", "_law_rest", "_law_coin"] ["_law_coins", "_law_lot"] (defScope s__law_less) := ⟨rfl, rfl, rfl, by decide +kernel, rfl, by decide +kernel, by decide +kernel⟩
theorem sc__law_wishes : FnScope ["_law_total", "_law_people", "_law_rows", "_law_k", "_law_longer", "_law_row", "_law_worth"] ["_law_total", "_law_people"] (defScope s__law_wishes) := ⟨rfl, rfl, rfl, by decide +kernel, rfl, by decide +kernel, by decide +kernel⟩
theorem sc__law_whole : FnScope ["_law_thing"] ["_law_thing"] (defScope s__law_whole) := ⟨rfl, rfl, rfl, by decide +kernel, rfl, by decide +kernel, by decide +kernel⟩
theorem sc__law_lot_like : FnScope ["_law_told", "_law_coin"] ["_law_told"] (defScope s__law_lot_like) := ⟨rfl, rfl, rfl, by decide +kernel, rfl, by decide +kernel, by decide +kernel⟩
theorem sc__law_split_like : FnScope ["_law_told", "_law_many", "_law_purse"] ["_law_told", "_law_many"] (defScope s__law_split_like) := ⟨rfl, rfl, rfl, by decide +kernel, rfl, by decide +kernel, by decide +kernel⟩
theorem sc__law_is_split : FnScope ["_law_told", "_law_coins", "_law_worths", "_law_held", "_law_purse"] ["_law_told", "_law_coins", "_law_worths"] (defScope s__law_is_split) := ⟨rfl, rfl, rfl, by decide +kernel, rfl, by decide +kernel, by decide +kernel⟩
theorem sc_may_take : FnScope ["person", "coin", "lacks"] ["person", "coin", "lacks"] (defScope s_may_take) := ⟨rfl, rfl, rfl, by decide +kernel, rfl, by decide +kernel, by decide +kernel⟩
theorem sc_first_lacking : FnScope ["coin", "lacks"] ["coin", "lacks"] (defScope s_first_lacking) := ⟨rfl, rfl, rfl, by decide +kernel, rfl, by decide +kernel, by decide +kernel⟩
theorem sc_hand_out : FnScope ["pool", "wish", "choose", "coins", "amounts", "lacks", "given", "amount", "turn", "coin", "person", "purse"] ["pool", "wish", "choose"] (defScope s_hand_out) := ⟨rfl, rfl, rfl, by decide +kernel, rfl, by decide +kernel, by decide +kernel⟩
theorem sc_greatest_first : FnScope ["pool", "wish"] ["pool", "wish"] (defScope s_greatest_first) := ⟨rfl, rfl, rfl, by decide +kernel, rfl, by decide +kernel, by decide +kernel⟩
theorem sc__law_rest_right : FnScope ["_law_hand_here", "_law_coins", "_law_people", "_law_lot", "_law_left", "_law_rest", "_law_total", "_law_wishes_here", "_law_wish"] ["_law_hand_here", "_law_coins", "_law_people", "_law_lot", "_law_left"] (defScope s__law_rest_right) := ⟨rfl, rfl, rfl, by decide +kernel, rfl, by decide +kernel, by decide +kernel⟩
theorem sc_law : FnScope ["_law_script", "_law_hand_here", "_law_people", "_law_lost_here", "_law_coins", "_law_told", "_law_k", "_law_lot", "_law_borne"] ["_law_script"] (defScope s_law) := ⟨rfl, rfl, rfl, by decide +kernel, rfl, by decide +kernel, by decide +kernel⟩
theorem si_Stuck : FnScope ["self", "coin", "lacks"] ["self", "coin", "lacks"] (defScope s_Stuck) := ⟨rfl, rfl, rfl, by decide +kernel, rfl, by decide +kernel, by decide +kernel⟩
theorem i_Stuck : InitOk s_Stuck "Stuck.__init__" ["coin", "lacks"] := fun P w K mg base C f fd cl na F => by
  refine ⟨["self", "coin", "lacks"], F.ok si_Stuck (fun vs H Q E h => h.1) (fun cdv A outer s H vs Q E hr h => ?_), F.binds fun _ _ _ _ _ _ us hl => match us, hl with | [_, _, _], _ => rfl⟩
  obtain ⟨hl, x, dx, us, rfl, hx, q⟩ := h
  match us, hl with
  | [u0, u1], _ =>
    refine ⟨_, (pss_cons (ps_fld (pv 0) (pv 1) (by rfl)) (pss_one (ps_fld (pv 0) (pv 2) (by rfl)))), ?_⟩
    refine ⟨u0, rfl, .ref x, rfl, x, C, dx, _, rfl, hx, cl, na _ (by simp), by first | (simp [putF]; done) | (simp [putF]; split <;> simp), ?_⟩
    refine ⟨u1, rfl, .ref x, rfl, x, C, dx, _, rfl, upd_same, cl, na _ (by simp), by first | (simp [putF]; done) | (simp [putF]; split <;> simp), ?_⟩
    show Q .non (upd (upd H x _) x _)
    rw [L2.upd_upd]
    exact q
theorem si_NoSplit : FnScope ["self", "layers"] ["self", "layers"] (defScope s_NoSplit) := ⟨rfl, rfl, rfl, by decide +kernel, rfl, by decide +kernel, by decide +kernel⟩
theorem i_NoSplit : InitOk s_NoSplit "NoSplit.__init__" ["layers"] := fun P w K mg base C f fd cl na F => by
  refine ⟨["self", "layers"], F.ok si_NoSplit (fun vs H Q E h => h.1) (fun cdv A outer s H vs Q E hr h => ?_), F.binds fun _ _ _ _ _ _ us hl => match us, hl with | [_, _], _ => rfl⟩
  obtain ⟨hl, x, dx, us, rfl, hx, q⟩ := h
  match us, hl with
  | [u0], _ =>
    refine ⟨_, (pss_one (ps_fld (pv 0) (pv 1) (by rfl))), ?_⟩
    refine ⟨u0, rfl, .ref x, rfl, x, C, dx, _, rfl, hx, cl, na _ (by simp), by first | (simp [putF]; done) | (simp [putF]; split <;> simp), ?_⟩
    show Q .non (upd H x _)
    exact q
theorem si_Unserved : FnScope ["self", "place", "wish"] ["self", "place", "wish"] (defScope s_Unserved) := ⟨rfl, rfl, rfl, by decide +kernel, rfl, by decide +kernel, by decide +kernel⟩
theorem i_Unserved : InitOk s_Unserved "Unserved.__init__" ["place", "wish"] := fun P w K mg base C f fd cl na F => by
  refine ⟨["self", "place", "wish"], F.ok si_Unserved (fun vs H Q E h => h.1) (fun cdv A outer s H vs Q E hr h => ?_), F.binds fun _ _ _ _ _ _ us hl => match us, hl with | [_, _, _], _ => rfl⟩
  obtain ⟨hl, x, dx, us, rfl, hx, q⟩ := h
  match us, hl with
  | [u0, u1], _ =>
    refine ⟨_, (pss_cons (ps_fld (pv 0) (pv 1) (by rfl)) (pss_one (ps_fld (pv 0) (pv 2) (by rfl)))), ?_⟩
    refine ⟨u0, rfl, .ref x, rfl, x, C, dx, _, rfl, hx, cl, na _ (by simp), by first | (simp [putF]; done) | (simp [putF]; split <;> simp), ?_⟩
    refine ⟨u1, rfl, .ref x, rfl, x, C, dx, _, rfl, upd_same, cl, na _ (by simp), by first | (simp [putF]; done) | (simp [putF]; split <;> simp), ?_⟩
    show Q .non (upd (upd H x _) x _)
    rw [L2.upd_upd]
    exact q
theorem si_Fallen : FnScope ["self", "lot", "coin", "wish"] ["self", "lot", "coin", "wish"] (defScope s_Fallen) := ⟨rfl, rfl, rfl, by decide +kernel, rfl, by decide +kernel, by decide +kernel⟩
theorem i_Fallen : InitOk s_Fallen "Fallen.__init__" ["lot", "coin", "wish"] := fun P w K mg base C f fd cl na F => by
  refine ⟨["self", "lot", "coin", "wish"], F.ok si_Fallen (fun vs H Q E h => h.1) (fun cdv A outer s H vs Q E hr h => ?_), F.binds fun _ _ _ _ _ _ us hl => match us, hl with | [_, _, _, _], _ => rfl⟩
  obtain ⟨hl, x, dx, us, rfl, hx, q⟩ := h
  match us, hl with
  | [u0, u1, u2], _ =>
    refine ⟨_, (pss_cons (ps_fld (pv 0) (pv 1) (by rfl)) (pss_cons (ps_fld (pv 0) (pv 2) (by rfl)) (pss_one (ps_fld (pv 0) (pv 3) (by rfl))))), ?_⟩
    refine ⟨u0, rfl, .ref x, rfl, x, C, dx, _, rfl, hx, cl, na _ (by simp), by first | (simp [putF]; done) | (simp [putF]; split <;> simp), ?_⟩
    refine ⟨u1, rfl, .ref x, rfl, x, C, dx, _, rfl, upd_same, cl, na _ (by simp), by first | (simp [putF]; done) | (simp [putF]; split <;> simp), ?_⟩
    refine ⟨u2, rfl, .ref x, rfl, x, C, dx, _, rfl, upd_same, cl, na _ (by simp), by first | (simp [putF]; done) | (simp [putF]; split <;> simp), ?_⟩
    show Q .non (upd (upd (upd H x _) x _) x _)
    rw [L2.upd_upd, L2.upd_upd]
    exact q
/-- what the top has left -/
structure Txt (K : PySem.W.Frag) (mg : Str → Option Value) (T : Tab) : Prop where
  d__law_hand : Lies K mg "_law_hand" s__law_hand
  d__law_mix : Lies K mg "_law_mix" s__law_mix
  d__law_draw : Lies K mg "_law_draw" s__law_draw
  d__law_few_people : Lies K mg "_law_few_people" s__law_few_people
  d__law_lost : Lies K mg "_law_lost" s__law_lost
  d__law_room : Lies K mg "_law_room" s__law_room
  d__law_bearing : Lies K mg "_law_bearing" s__law_bearing
  d__law_loss_pool : Lies K mg "_law_loss_pool" s__law_loss_pool
  d_is_sequence : Lies K mg "is_sequence" s_is_sequence
  d_is_whole : Lies K mg "is_whole" s_is_whole
  d_check_pool : Lies K mg "check_pool" s_check_pool
  d_check_people : LiesD K mg "check_people" s_check_people [.int 1]
  d_check_lost : Lies K mg "check_lost" s_check_lost
  d_covers_of : Lies K mg "covers_of" s_covers_of
  d_first_fallen : Lies K mg "first_fallen" s_first_fallen
  d_running_sums : Lies K mg "running_sums" s_running_sums
  d_parted_up : Lies K mg "parted_up" s_parted_up
  d_failing_places : Lies K mg "failing_places" s_failing_places
  d_parted_evenly : Lies K mg "parted_evenly" s_parted_evenly
  d_serves : Lies K mg "serves" s_serves
  d_serves_after : Lies K mg "serves_after" s_serves_after
  d_most_lost : Lies K mg "most_lost" s_most_lost
  d_rest_of : Lies K mg "rest_of" s_rest_of
  d_has_lot : Lies K mg "has_lot" s_has_lot
  d_less_lot : Lies K mg "less_lot" s_less_lot
  d_checked_amounts : Lies K mg "checked_amounts" s_checked_amounts
  d_check_wish : Lies K mg "check_wish" s_check_wish
  d_checked_couple : Lies K mg "checked_couple" s_checked_couple
  d_put_sorted : Lies K mg "put_sorted" s_put_sorted
  d_next_entries : Lies K mg "next_entries" s_next_entries
  d_layers_of : Lies K mg "layers_of" s_layers_of
  d_earlier_entry : Lies K mg "earlier_entry" s_earlier_entry
  d_chained_entries : Lies K mg "chained_entries" s_chained_entries
  d_any_split : Lies K mg "any_split" s_any_split
  d__law_turned : Lies K mg "_law_turned" s__law_turned
  d_fails_in : Lies K mg "fails_in" s_fails_in
  d_fallen_fault : Lies K mg "fallen_fault" s_fallen_fault
  d__law_layers : Lies K mg "_law_layers" s__law_layers
  d_is_entry : Lies K mg "is_entry" s_is_entry
  d_has_form : Lies K mg "has_form" s_has_form
  d_layers_fault : Lies K mg "layers_fault" s_layers_fault
  d__law_fallen_right : Lies K mg "_law_fallen_right" s__law_fallen_right
  d__law_drawn_lot : Lies K mg "_law_drawn_lot" s__law_drawn_lot
  d_check_amount : LiesD K mg "check_amount" s_check_amount [.int 0]
  d_even_wish : Lies K mg "even_wish" s_even_wish
  d__law_big : Lies K mg "_law_big" s__law_big
  d__law_drawn_wish : Lies K mg "_law_drawn_wish" s__law_drawn_wish
  d__law_less : Lies K mg "_law_less" s__law_less
  d__law_wishes : Lies K mg "_law_wishes" s__law_wishes
  d__law_whole : Lies K mg "_law_whole" s__law_whole
  d__law_lot_like : Lies K mg "_law_lot_like" s__law_lot_like
  d__law_split_like : Lies K mg "_law_split_like" s__law_split_like
  d__law_is_split : Lies K mg "_law_is_split" s__law_is_split
  d_may_take : Lies K mg "may_take" s_may_take
  d_first_lacking : Lies K mg "first_lacking" s_first_lacking
  d_hand_out : Lies K mg "hand_out" s_hand_out
  d_greatest_first : Lies K mg "greatest_first" s_greatest_first
  d__law_rest_right : Lies K mg "_law_rest_right" s__law_rest_right
  d_law : Lies K mg "law" s_law
  c_Stuck : LiesC K mg T "Stuck" 0 ["coin", "lacks"] "Stuck.__init__" s_Stuck
  c_NoSplit : LiesC K mg T "NoSplit" 1 ["layers"] "NoSplit.__init__" s_NoSplit
  c_Unserved : LiesC K mg T "Unserved" 2 ["place", "wish"] "Unserved.__init__" s_Unserved
  c_Fallen : LiesC K mg T "Fallen" 3 ["lot", "coin", "wish"] "Fallen.__init__" s_Fallen
  z_abs : mg "abs" = none
  z_all : mg "all" = none
  z_bool : mg "bool" = none
  z_divmod : mg "divmod" = none
  z_enumerate : mg "enumerate" = none
  z_int : mg "int" = none
  z_isinstance : mg "isinstance" = none
  z_len : mg "len" = none
  z_list : mg "list" = none
  z_max : mg "max" = none
  z_min : mg "min" = none
  z_range : mg "range" = none
  z_sorted : mg "sorted" = none
  z_sum : mg "sum" = none
  z_tuple : mg "tuple" = none
  z_zip : mg "zip" = none
  k_MOST_AMOUNT : ∃ t, mg "MOST_AMOUNT" = some (.int 12000000000 t)
  k_MOST_COINS : ∃ t, mg "MOST_COINS" = some (.int 12 t)
  k_MOST_ENTRIES : ∃ t, mg "MOST_ENTRIES" = some (.int 400 t)
  k_MOST_PEOPLE : ∃ t, mg "MOST_PEOPLE" = some (.int 5 t)
  k_MOST_WORTH : ∃ t, mg "MOST_WORTH" = some (.int 1000000000 t)
  v_first_lacking : ∃ g, mg "first_lacking" = some (.ref g) ∧ T.fns 0 = some g
def f__law_mix : FS := (fSeq (fSet 2 (fBin dMod (fArgs (d1 dIntOf) (fCons (fBin dAdd (fBin dAdd (fBin dMul (fVar 0) (fC (.int 48271))) (fBin dMul (fVar 1) (fC (.int 16807)))) (fC (.int 11))) fNil)) (fC (.int 2147483647))))
    (fSeq (fSet 3 (fBin dMod (fArgs (d1 dIntOf) (fCons (fBin dAdd (fBin dAdd (fBin dMul (fVar 2) (fVar 2)) (fBin dMul (fBin dDiv (fVar 2) (fC (.int 127))) (fC (.int 40692)))) (fBin dMul (fVar 1) (fC (.int 69621)))) fNil)) (fC (.int 2147483399))))
    (fRet (fBin dDiv (fBin dMod (fArgs (d1 dIntOf) (fCons (fBin dAdd (fBin dDiv (fBin dMul (fVar 3) (fVar 3)) (fC (.int 1009))) (fVar 2)) fNil)) (fC (.int 2147483563))) (fC (.int 16))))))
def F__law_mix : List D → Option Slot := fnD f__law_mix 4
def f__law_draw : FS := (fSeq (fIfS (fAnd (fTest (fBin dEq (fLend 0 noL (fBin dIx (fVar 0) (fC (.int 2)))) (fC (.int 0)))) (fTest (fBin dLt (fLend 0 noL (fBin dIx (fVar 0) (fC (.int 1)))) (fLend 0 noL (fArgs (d1 dLen) (fCons (fBin dIx (fVar 0) (fC (.int 0))) fNil)))))) (fSeq (fSet 2 (fLend 0 noL (fBin dIx (fBin dIx (fVar 0) (fC (.int 0))) (fBin dIx (fVar 0) (fC (.int 1))))))
    (fSeq (fSetI 0 (fC (.int 1)) (fBin dAdd (fLend 0 noL (fBin dIx (fVar 0) (fC (.int 1)))) (fC (.int 1))))
    (fSeq (fIfS (fTest (fBin dLt (fVar 2) (fBin dPow (fC (.int 10)) (fC (.int 18))))) (fRet (fBin dMod (fArgs (d1 dIntOf) (fCons (fCall F__law_mix [] (fCons (fBin dMod (fArgs (d1 dIntOf) (fCons (fVar 2) fNil)) (fC (.int 2147483647))) (fCons (fLend 0 noL (fBin dIx (fVar 0) (fC (.int 1)))) fNil))) fNil)) (fVar 1))) fSkip)
    (fSetI 0 (fC (.int 2)) (fVar 2))))) fSkip)
    (fSeq (fIfS (fTest (fBin dGt (fLend 0 noL (fBin dIx (fVar 0) (fC (.int 2)))) (fC (.int 0)))) (fSeq (fSet 3 (fLend 0 noL (fBin dIx (fVar 0) (fC (.int 2)))))
    (fSeq (fSetI 0 (fC (.int 2)) (fBin dDiv (fVar 3) (fVar 1)))
    (fRet (fBin dMod (fArgs (d1 dIntOf) (fCons (fVar 3) fNil)) (fVar 1))))) fSkip)
    (fSeq (fSetI 0 (fC (.int 3)) (fBin dMod (fArgs (d1 dIntOf) (fCons (fBin dAdd (fLend 0 noL (fBin dIx (fVar 0) (fC (.int 3)))) (fC (.int 1))) fNil)) (fC (.int 2147483629))))
    (fRet (fBin dMod (fArgs (d1 dIntOf) (fCons (fCall F__law_mix [] (fCons (fLend 0 noL (fBin dIx (fVar 0) (fC (.int 3)))) (fCons (fLend 0 noL (fBin dIx (fVar 0) (fC (.int 1)))) fNil))) fNil)) (fVar 1))))))
def F__law_draw : FI := fnI f__law_draw 4
def f__law_few_people : FS := (fRet (fBin dIx (fFrz (fLst (fArgs dLst (fCons (fC (.int 2)) (fCons (fC (.int 2)) (fCons (fC (.int 3)) (fCons (fC (.int 3)) (fCons (fC (.int 2)) (fCons (fC (.int 4)) (fCons (fC (.int 5)) (fCons (fC (.int 3)) fNil))))))))))) (fCallI 0 F__law_draw (fHere 0 (fCons (fC (.int 8)) fNil)))))
def F__law_few_people : FI := fnI f__law_few_people 1
def f__law_lost : FS := (fSeq (fSet 1 (fCallI 0 F__law_draw (fHere 0 (fCons (fC (.int 8)) fNil))))
    (fSeq (fIfS (fTest (fBin dEq (fVar 1) (fC (.int 7)))) (fRet (fCallI 0 F__law_draw (fHere 0 (fCons (fC (.int 13)) fNil)))) fSkip)
    (fRet (fBin dIx (fFrz (fLst (fArgs dLst (fCons (fC (.int 0)) (fCons (fC (.int 1)) (fCons (fC (.int 1)) (fCons (fC (.int 2)) (fCons (fC (.int 2)) (fCons (fC (.int 1)) (fCons (fC (.int 3)) fNil)))))))))) (fVar 1)))))
def F__law_lost : FI := fnI f__law_lost 2
def f__law_room : FS := (fSeq (fSet 3 (fArgs (d1 dSum) (fCons (fFrz (fLst (fCut dCutL (fVar 0) fNone (fSome (fArgs (d2 dMax2) (fCons (fC (.int 0)) (fCons (fBin (dI fun i j => i - j) (fArgs (d1 dLen) (fCons (fVar 0) fNil)) (fVar 2)) fNil))))))) fNil)))
    (fRet (fIf (fTest (fBin dGt (fVar 1) (fC (.int 1)))) (fBin dAdd (fBin dDiv (fVar 3) (fBin (dI fun i j => i - j) (fVar 1) (fC (.int 1)))) (fC (.int 1))) (fBin dAdd (fVar 3) (fC (.int 3))))))
def F__law_room : List D → Option Slot := fnD f__law_room 4
def t__law_bearing_0 : FG := (gNm 5)
def b__law_bearing_1 : FS := (fSeq (fSet 6 (fLend 4 noL (fCall F__law_room [] (fCons (fVar 4) (fCons (fVar 2) (fCons (fVar 3) fNil))))))
    (fSeq (fSet 7 (fIf (fTest (fBin dGt (fCallI 0 F__law_draw (fHere 0 (fCons (fC (.int 3)) fNil))) (fC (.int 0)))) (fVar 6) (fBin dAdd (fC (.int 1)) (fCallI 0 F__law_draw (fHere 0 (fCons (fVar 6) fNil))))))
    (fSetO 4 (fLst (fArgs (d1 dSort) (fCons (fFrz (fLend 4 okO (fLst (fBin dCatL (fVar 4) (fFrz (fLst (fArgs dLst (fCons (fVar 7) fNil)))))))) fNil))))))
def f__law_bearing : FS := (fSeq (fSetO 4 (fLst (fArgs dLst fNil)))
    (fSeq (fFor (fArgs dRng1 (fCons (fVar 1) fNil)) t__law_bearing_0 b__law_bearing_1)
    (fRetO (fMove 4))))
def F__law_bearing : FI := fnI f__law_bearing 8
def t__law_loss_pool_0 : FG := (gNm 6)
def c__law_loss_pool_1 : FT := fYes
def e__law_loss_pool_2 : FE := (fBin dAdd (fC (.int 1)) (fCallI 0 F__law_draw (fHere 0 (fCons (fC (.int 5)) fNil))))
def f__law_loss_pool : FS := (fSeq (fSet 4 (fCallI 0 F__law_draw (fHere 0 (fCons (fBin dAdd (fVar 1) (fC (.int 1))) fNil))))
    (fSeq (fSet 5 (fCallI 0 F__law_draw (fHere 0 (fCons (fC (.int 8)) fNil))))
    (fSeq (fIfS (fTest (fBin dGt (fVar 5) (fC (.int 5)))) (fRet (fFrz (fLst (fArgs (d1 dSort) (fCons (fFrz (fLst (fLc (fArgs dRng1 (fCons (fVar 4) fNil)) t__law_loss_pool_0 c__law_loss_pool_1 e__law_loss_pool_2 [6]))) fNil))))) fSkip)
    (fSeq (fSetO 7 (fCallIO 0 F__law_bearing (fHere 0 (fCons (fVar 4) (fCons (fVar 2) (fCons (fVar 3) fNil))))))
    (fSeq (fIfS (fAnd (fTest (fBin dGt (fVar 5) (fC (.int 3)))) (fTest (fBin dGt (fVar 4) (fC (.int 0))))) (fSeq (fSet 8 (fCallI 0 F__law_draw (fHere 0 (fCons (fVar 4) fNil))))
    (fSetI 7 (fVar 8) (fBin dAdd (fBin dAdd (fLend 7 noL (fBin dIx (fVar 7) (fVar 8))) (fC (.int 1))) (fCallI 0 F__law_draw (fHere 0 (fCons (fC (.int 2)) fNil)))))) fSkip)
    (fRet (fFrz (fLend 7 okO (fLst (fArgs (d1 dSort) (fCons (fVar 7) fNil)))))))))))
def F__law_loss_pool : FI := fnI f__law_loss_pool 9
def f_is_sequence : FS := (fRet (fAndV (fUn (dIsi2 "list" "tuple") (fVar 0)) (fChain dLe dLe (fVar 1) (fArgs (d1 dLen) (fCons (fVar 0) fNil)) (fVar 2))))
def F_is_sequence : List D → Option Slot := fnD f_is_sequence 3
def f_is_whole : FS := (fRet (fAndV (fUn (dIsi "int") (fVar 0)) (fAndV (fUn dNotT (fUn (dIsi "bool") (fVar 0))) (fChain dLe dLe (fVar 1) (fVar 0) (fVar 2)))))
def F_is_whole : List D → Option Slot := fnD f_is_whole 3
def t_check_pool_0 : FG := (gTp 2 (gCn (gNm 1) (gCn (gNm 2) gNl)))
def b_check_pool_1 : FS := (fIfS (fNot (fUn dTruth (fCall F_is_whole [] (fCons (fVar 2) (fCons (fC (.int 1)) (fCons (fC (.int 1000000000)) fNil)))))) fStuck fSkip)
def f_check_pool : FS := (fSeq (fIfS (fNot (fUn dTruth (fCall F_is_sequence [] (fCons (fVar 0) (fCons (fC (.int 0)) (fCons (fC (.int 12)) fNil)))))) fStuck fSkip)
    (fSeq (fFor (fArgs dEnum (fCons (fVar 0) fNil)) t_check_pool_0 b_check_pool_1)
    (fRet (fArgs (d1 dTupOf) (fCons (fFrz (fLst (fArgs (d1 dSort) (fCons (fVar 0) fNil)))) fNil)))))
def F_check_pool : List D → Option Slot := fnD f_check_pool 3
def f_check_people : FS := (fSeq (fIfS (fNot (fUn dTruth (fCall F_is_whole [] (fCons (fVar 0) (fCons (fVar 1) (fCons (fC (.int 5)) fNil)))))) fStuck fSkip)
    (fRet (fVar 0)))
def F_check_people : List D → Option Slot := fnD f_check_people 2
def f_check_lost : FS := (fSeq (fIfS (fOr (fUn dTruth (fUn (dIsi "bool") (fVar 0))) (fOr (fNot (fUn dTruth (fUn (dIsi "int") (fVar 0)))) (fOr (fTest (fBin dLt (fVar 0) (fC (.int 0)))) (fTest (fBin dGt (fVar 0) (fC (.int 12))))))) fStuck fSkip)
    (fRet (fVar 0)))
def F_check_lost : List D → Option Slot := fnD f_check_lost 1
def t_covers_of_0 : FG := (gNm 3)
def b_covers_of_1 : FS := (fApp 2 (fBin dAdd (fLend 2 noL (fBin dIx (fVar 2) (fUn dNeg (fC (.int 1))))) (fVar 3)))
def t_covers_of_2 : FG := (gNm 4)
def c_covers_of_3 : FT := fYes
def e_covers_of_4 : FE := (fLend 2 noL (fBin dIx (fVar 2) (fArgs (d2 dMax2) (fCons (fC (.int 0)) (fCons (fBin (dI fun i j => i - j) (fVar 4) (fVar 1)) fNil)))))
def f_covers_of : FS := (fSeq (fSetO 2 (fLst (fArgs dLst (fCons (fC (.int 0)) fNil))))
    (fSeq (fFor (fUn dSeq (fVar 0)) t_covers_of_0 b_covers_of_1)
    (fRet (fFrz (fLst (fLc (fArgs dRng1 (fCons (fArgs (d1 dLen) (fCons (fVar 0) fNil)) fNil)) t_covers_of_2 c_covers_of_3 e_covers_of_4 [4]))))))
def F_covers_of : List D → Option Slot := fnD f_covers_of 5
def t_first_fallen_0 : FG := (gTp 2 (gCn (gNm 4) (gCn (gNm 5) gNl)))
def b_first_fallen_1 : FS := (fIfS (fTest (fBin dGt (fVar 5) (fBin dAdd (fBin dDiv (fBin dIx (fVar 3) (fVar 4)) (fBin (dI fun i j => i - j) (fVar 1) (fC (.int 1)))) (fC (.int 1))))) (fRet (fVar 4)) fSkip)
def f_first_fallen : FS := (fSeq (fIfS (fTest (fBin dEq (fVar 1) (fC (.int 1)))) (fRet (fC .non)) fSkip)
    (fSeq (fSet 3 (fCall F_covers_of [] (fCons (fVar 0) (fCons (fVar 2) fNil))))
    (fSeq (fFor (fArgs dEnum (fCons (fVar 0) fNil)) t_first_fallen_0 b_first_fallen_1)
    (fRet (fC .non)))))
def F_first_fallen : List D → Option Slot := fnD f_first_fallen 6
def t_running_sums_0 : FG := (gNm 3)
def b_running_sums_1 : FS := (fSeq (fAug 2 (dI fun i j => i + j) (fVar 3))
    (fApp 1 (fVar 2)))
def f_running_sums : FS := (fSeq (fSetO 1 (fLst (fArgs dLst fNil)))
    (fSeq (fSet 2 (fC (.int 0)))
    (fSeq (fFor (fUn dSeq (fVar 0)) t_running_sums_0 b_running_sums_1)
    (fRet (fLend 1 noL (fArgs (d1 dTupOf) (fCons (fVar 1) fNil)))))))
def F_running_sums : List D → Option Slot := fnD f_running_sums 4
def f_parted_up : FS := (fRet (fUn dNeg (fBin dDiv (fUn dNeg (fVar 0)) (fVar 1))))
def F_parted_up : List D → Option Slot := fnD f_parted_up 2
def t_failing_places_0 : FG := (gTp 2 (gCn (gNm 4) (gCn (gNm 5) gNl)))
def c_failing_places_1 : FT := (fTest (fBin dGt (fVar 5) (fCall F_parted_up [] (fCons (fBin dIx (fVar 3) (fVar 4)) (fCons (fVar 1) fNil)))))
def e_failing_places_2 : FE := (fVar 4)
def f_failing_places : FS := (fSeq (fSet 2 (fCall F_check_pool [] (fCons (fVar 0) fNil)))
    (fSeq (fDrop (fCall F_check_people [.int 1] (fCons (fVar 1) fNil)))
    (fSeq (fSet 3 (fCall F_running_sums [] (fCons (fVar 2) fNil)))
    (fRet (fArgs (d1 dTupOf) (fCons (fFrz (fLst (fLc (fArgs dEnum (fCons (fVar 2) fNil)) t_failing_places_0 c_failing_places_1 e_failing_places_2 [4, 5]))) fNil))))))
def F_failing_places : List D → Option Slot := fnD f_failing_places 6
def t_parted_evenly_0 : FG := (gNm 4)
def c_parted_evenly_1 : FT := fYes
def e_parted_evenly_2 : FE := (fIf (fTest (fBin dLt (fVar 4) (fVar 3))) (fBin dAdd (fVar 2) (fC (.int 1))) (fVar 2))
def f_parted_evenly : FS := (fSeq (fTo (gTp 2 (gCn (gNm 2) (gCn (gNm 3) gNl))) (fArgs (d2 dDivmod) (fCons (fVar 0) (fCons (fVar 1) fNil))))
    (fRet (fArgs (d1 dTupOf) (fCons (fFrz (fLst (fLc (fArgs dRng1 (fCons (fVar 1) fNil)) t_parted_evenly_0 c_parted_evenly_1 e_parted_evenly_2 [4]))) fNil))))
def F_parted_evenly : List D → Option Slot := fnD f_parted_evenly 5
def f_serves : FS := (fSeq (fSet 2 (fCall F_check_pool [] (fCons (fVar 0) fNil)))
    (fSeq (fSet 3 (fCall F_failing_places [] (fCons (fVar 2) (fCons (fVar 1) fNil))))
    (fSeq (fIfS (fNot (fUn dTruth (fVar 3))) (fRet (fC .non)) fSkip)
    (fSeq (fSet 4 (fBin dIx (fVar 3) (fC (.int 0))))
    (fSeq (fSet 5 (fArgs (d1 dSum) (fCons (fCut dCutT (fVar 2) fNone (fSome (fBin dAdd (fVar 4) (fC (.int 1))))) fNil)))
    (fSeq (fSet 6 (fCall F_parted_up [] (fCons (fVar 5) (fCons (fVar 1) fNil))))
    (fSeq (fSet 7 (fBin dAdd (fArgs dTup (fCons (fBin dAdd (fVar 6) (fArgs (d1 dSum) (fCons (fCut dCutT (fVar 2) (fSome (fBin dAdd (fVar 4) (fC (.int 1)))) fNone) fNil))) fNil)) (fCall F_parted_evenly [] (fCons (fBin (dI fun i j => i - j) (fVar 5) (fVar 6)) (fCons (fBin (dI fun i j => i - j) (fVar 1) (fC (.int 1))) fNil)))))
    (fRet (fArgs (dMake 2 2) (fCons (fVar 4) (fCons (fVar 7) fNil)))))))))))
def F_serves : List D → Option Slot := fnD f_serves 8
def f_serves_after : FS := (fSeq (fSet 3 (fCall F_check_pool [] (fCons (fVar 0) fNil)))
    (fSeq (fDrop (fCall F_check_people [.int 1] (fCons (fVar 1) fNil)))
    (fSeq (fDrop (fCall F_check_lost [] (fCons (fVar 2) fNil)))
    (fSeq (fSet 4 (fCall F_first_fallen [] (fCons (fVar 3) (fCons (fVar 1) (fCons (fVar 2) fNil)))))
    (fSeq (fIfS (fTest (fBin dIsN (fVar 4) (fC .non))) (fRet (fC .non)) fSkip)
    (fSeq (fSet 5 (fArgs (d2 dMax2) (fCons (fC (.int 0)) (fCons (fBin (dI fun i j => i - j) (fVar 4) (fVar 2)) fNil))))
    (fSeq (fSet 6 (fCall F_serves [] (fCons (fBin dAdd (fCut dCutT (fVar 3) fNone (fSome (fVar 5))) (fCut dCutT (fVar 3) (fSome (fVar 4)) fNone)) (fCons (fVar 1) fNil))))
    (fRet (fArgs (dMake 3 3) (fCons (fCut dCutT (fVar 3) (fSome (fVar 5)) (fSome (fVar 4))) (fCons (fBin dIx (fVar 3) (fVar 4)) (fCons (fUn (dFld 2 1) (fVar 6)) fNil))))))))))))
def F_serves_after : List D → Option Slot := fnD f_serves_after 7
def t_most_lost_0 : FG := (gNm 4)
def b_most_lost_1 : FS := (fIfS (fTest (fBin dIsN (fCall F_first_fallen [] (fCons (fVar 2) (fCons (fVar 1) (fCons (fVar 4) fNil)))) (fC .non))) (fSet 3 (fVar 4)) fSkip)
def f_most_lost : FS := (fSeq (fSet 2 (fCall F_check_pool [] (fCons (fVar 0) fNil)))
    (fSeq (fDrop (fCall F_check_people [.int 1] (fCons (fVar 1) fNil)))
    (fSeq (fIfS (fOr (fTest (fBin dEq (fVar 1) (fC (.int 1)))) (fOr (fTest (fBin dEq (fArgs (d1 dLen) (fCons (fVar 2) fNil)) (fC (.int 0)))) (fTest (fBin dEq (fBin dIx (fVar 2) (fUn dNeg (fC (.int 1)))) (fC (.int 1)))))) (fRet (fC .non)) fSkip)
    (fSeq (fSet 3 (fUn dNeg (fC (.int 1))))
    (fSeq (fFor (fArgs dRng1 (fCons (fArgs (d1 dLen) (fCons (fVar 2) fNil)) fNil)) t_most_lost_0 b_most_lost_1)
    (fRet (fVar 3)))))))
def F_most_lost : List D → Option Slot := fnD f_most_lost 5
def t_rest_of_0 : FG := (gNm 3)
def b_rest_of_1 : FS := (fRem 2 (fVar 3))
def f_rest_of : FS := (fSeq (fSetO 2 (fLst (fArgs (d1 dItems) (fCons (fVar 0) fNil))))
    (fSeq (fFor (fUn dSeq (fVar 1)) t_rest_of_0 b_rest_of_1)
    (fRet (fLend 2 noL (fArgs (d1 dTupOf) (fCons (fVar 2) fNil))))))
def F_rest_of : List D → Option Slot := fnD f_rest_of 4
def t_check_poolF_0 : FG := (gTp 2 (gCn (gNm 1) (gCn (gNm 2) gNl)))
def b_check_poolF_1 : FS := (fIfS (fNot (fUn dTruth (fCall F_is_whole [] (fCons (fVar 2) (fCons (fC (.int 1)) (fCons (fC (.int 1000000000)) fNil)))))) fStuck fSkip)
def f_check_poolF : FS := (fSeq (fIfS (fNot (fUn dTruth (fCall F_is_sequence [] (fCons (fVar 0) (fCons (fC (.int 0)) (fCons (fC (.int 12)) fNil)))))) fStuck fSkip)
    (fSeq (fFor (fArgs dEnum (fCons (fVar 0) fNil)) t_check_poolF_0 b_check_poolF_1)
    (fRet (fArgs (d1 dTupF) (fCons (fFrz (fLst (fArgs (d1 dSort) (fCons (fVar 0) fNil)))) fNil)))))
def F_check_poolF : List D → Option Slot := fnD f_check_poolF 3
def t_has_lot_0 : FG := (gNm 4)
def c_has_lot_1 : FT := fYes
def e_has_lot_2 : FE := (fBin dLe (fBin dCnt (fVar 3) (fVar 4)) (fBin dCnt (fVar 2) (fVar 4)))
def f_has_lot : FS := (fSeq (fSet 2 (fCall F_check_poolF [] (fCons (fVar 0) fNil)))
    (fSeq (fSet 3 (fCall F_check_poolF [] (fCons (fVar 1) fNil)))
    (fRet (fArgs (d1 dAll) (fCons (fFrz (fLst (fLc (fUn dSeq (fVar 3)) t_has_lot_0 c_has_lot_1 e_has_lot_2 [4]))) fNil)))))
def F_has_lot : List D → Option Slot := fnD f_has_lot 5
def f_less_lot : FS := (fSeq (fIfS (fNot (fUn dTruth (fCall F_has_lot [] (fCons (fVar 0) (fCons (fVar 1) fNil))))) fStuck fSkip)
    (fRet (fCall F_rest_of [] (fCons (fCall F_check_pool [] (fCons (fVar 0) fNil)) (fCons (fVar 1) fNil)))))
def F_less_lot : List D → Option Slot := fnD f_less_lot 2
def t_checked_amounts_0 : FG := (gTp 2 (gCn (gNm 1) (gCn (gNm 2) gNl)))
def b_checked_amounts_1 : FS := (fIfS (fNot (fUn dTruth (fCall F_is_whole [] (fCons (fVar 2) (fCons (fC (.int 0)) (fCons (fC (.int 12000000000)) fNil)))))) fStuck fSkip)
def f_checked_amounts : FS := (fSeq (fIfS (fNot (fUn dTruth (fCall F_is_sequence [] (fCons (fVar 0) (fCons (fC (.int 1)) (fCons (fC (.int 5)) fNil)))))) fStuck fSkip)
    (fSeq (fFor (fArgs dEnum (fCons (fVar 0) fNil)) t_checked_amounts_0 b_checked_amounts_1)
    (fRet (fArgs (d1 dTupOf) (fCons (fVar 0) fNil)))))
def F_checked_amounts : List D → Option Slot := fnD f_checked_amounts 3
def f_check_wish : FS := (fSeq (fSet 2 (fCall F_checked_amounts [] (fCons (fVar 0) fNil)))
    (fSeq (fIfS (fTest (fBin dNe (fArgs (d1 dSum) (fCons (fVar 2) fNil)) (fVar 1))) fStuck fSkip)
    (fRet (fVar 2))))
def F_check_wish : List D → Option Slot := fnD f_check_wish 3
def f_checked_couple : FS := (fSeq (fSet 2 (fCall F_check_pool [] (fCons (fVar 0) fNil)))
    (fRet (fArgs dTup (fCons (fVar 2) (fCons (fCall F_check_wish [] (fCons (fVar 1) (fCons (fArgs (d1 dSum) (fCons (fVar 2) fNil)) fNil))) fNil)))))
def F_checked_couple : List D → Option Slot := fnD f_checked_couple 3
def f_put_sorted : FS := (fRet (fArgs (d1 dTupOf) (fCons (fFrz (fLst (fArgs (d1 dSort) (fCons (fBin dAdd (fBin dAdd (fCut dCutT (fVar 0) fNone (fSome (fVar 1))) (fArgs dTup (fCons (fVar 2) fNil))) (fCut dCutT (fVar 0) (fSome (fBin dAdd (fVar 1) (fC (.int 1)))) fNone)) fNil)))) fNil)))
def F_put_sorted : List D → Option Slot := fnD f_put_sorted 3
def t_next_entries_0 : FG := (gTp 2 (gCn (gNm 4) (gCn (gNm 5) gNl)))
def b_next_entries_1 : FS := (fIfS (fTest (fBin dGe (fVar 5) (fVar 1))) (fPutT 2 (fCall F_put_sorted [] (fCons (fVar 3) (fCons (fVar 4) (fCons (fBin (dI fun i j => i - j) (fVar 5) (fVar 1)) fNil)))) (fC (.bl true))) fSkip)
def t_next_entries_2 : FG := (gNm 3)
def b_next_entries_3 : FS := (fFor (fArgs dEnum (fCons (fVar 3) fNil)) t_next_entries_0 b_next_entries_1)
def f_next_entries : FS := (fSeq (fSetO 2 (fun ρ => some (.dT [], ρ)))
    (fSeq (fFor (fUn dSeq (fVar 0)) t_next_entries_2 b_next_entries_3)
    (fRet (fArgs (d1 dTupOf) (fCons (fFrz (fLst (fArgs (d1 dSort) (fCons (fFrz (fKeysT 2)) fNil)))) fNil)))))
def F_next_entries : List D → Option Slot := fnD f_next_entries 6
def t_layers_of_0 : FG := (gNm 5)
def b_layers_of_1 : FS := (fSeq (fSet 6 (fCall F_next_entries [] (fCons (fLend 4 noL (fBin dIx (fVar 4) (fUn dNeg (fC (.int 1))))) (fCons (fVar 5) fNil))))
    (fSeq (fIfS (fTest (fBin dGt (fArgs (d1 dLen) (fCons (fVar 6) fNil)) (fC (.int 400)))) fStuck fSkip)
    (fSeq (fApp 4 (fVar 6))
    (fIfS (fNot (fUn dTruth (fVar 6))) (fRet (fLend 4 noL (fArgs (d1 dTupOf) (fCons (fVar 4) fNil)))) fSkip))))
def f_layers_of : FS := (fSeq (fTo (gTp 2 (gCn (gNm 2) (gCn (gNm 3) gNl))) (fCall F_checked_couple [] (fCons (fVar 0) (fCons (fVar 1) fNil))))
    (fSeq (fSetO 4 (fLst (fArgs dLst (fCons (fArgs dTup (fCons (fArgs (d1 dTupOf) (fCons (fFrz (fLst (fArgs (d1 dSort) (fCons (fVar 3) fNil)))) fNil)) fNil)) fNil))))
    (fSeq (fFor (fUn dSeq (fUn dRevT (fVar 2))) t_layers_of_0 b_layers_of_1)
    (fRet (fLend 4 noL (fArgs (d1 dTupOf) (fCons (fVar 4) fNil)))))))
def F_layers_of : List D → Option Slot := fnD f_layers_of 7
def t_earlier_entry_0 : FG := (gTp 2 (gCn (gNm 4) (gCn (gNm 5) gNl)))
def c_earlier_entry_1 : FT := fYes
def e_earlier_entry_2 : FE := (fCall F_put_sorted [] (fCons (fVar 1) (fCons (fVar 4) (fCons (fBin dAdd (fVar 5) (fVar 2)) fNil))))
def t_earlier_entry_3 : FG := (gNm 6)
def c_earlier_entry_4 : FT := (fTest (fBin (dInS false) (fVar 6) (fVar 0)))
def e_earlier_entry_5 : FE := (fVar 6)
def f_earlier_entry : FS := (fSeq (fSet 3 (fFrz (fLst (fLc (fArgs dEnum (fCons (fVar 1) fNil)) t_earlier_entry_0 c_earlier_entry_1 e_earlier_entry_2 [4, 5]))))
    (fRet (fBin dIx (fFrz (fLst (fLc (fUn dSeq (fVar 3)) t_earlier_entry_3 c_earlier_entry_4 e_earlier_entry_5 [6]))) (fC (.int 0)))))
def F_earlier_entry : List D → Option Slot := fnD f_earlier_entry 7
def t_chained_entries_0 : FG := (gNm 4)
def b_chained_entries_1 : FS := (fSeq (fSet 2 (fCall F_earlier_entry [] (fCons (fBin dIx (fVar 1) (fBin (dI fun i j => i - j) (fArgs (d1 dLen) (fCons (fVar 0) fNil)) (fVar 4))) (fCons (fVar 2) (fCons (fBin dIx (fVar 0) (fBin (dI fun i j => i - j) (fVar 4) (fC (.int 1)))) fNil)))))
    (fApp 3 (fVar 2)))
def f_chained_entries : FS := (fSeq (fSet 2 (fBin dIx (fBin dIx (fVar 1) (fUn dNeg (fC (.int 1)))) (fC (.int 0))))
    (fSeq (fSetO 3 (fLst (fArgs dLst (fCons (fVar 2) fNil))))
    (fSeq (fFor (fArgs dRng2 (fCons (fC (.int 1)) (fCons (fArgs (d1 dLen) (fCons (fVar 0) fNil)) fNil))) t_chained_entries_0 b_chained_entries_1)
    (fRet (fFrz (fLend 3 okO (fLst (fUn dRevL (fVar 3)))))))))
def F_chained_entries : List D → Option Slot := fnD f_chained_entries 5
def t_any_split_0 : FG := (gNm 7)
def c_any_split_1 : FT := (fOr (fTest (fBin dLt (fLend 5 noL (fBin dIx (fVar 5) (fVar 10))) (fVar 8))) (fTest (fBin dNe (fCall F_put_sorted [] (fCons (fLend 5 noL (fArgs (d1 dTupOf) (fCons (fVar 5) fNil))) (fCons (fVar 10) (fCons (fBin (dI fun i j => i - j) (fLend 5 noL (fBin dIx (fVar 5) (fVar 10))) (fVar 8)) fNil)))) (fVar 9))))
def b_any_split_2 : FS := (fAug 10 (dI fun i j => i + j) (fC (.int 1)))
def t_any_split_3 : FG := (gTp 2 (gCn (gNm 8) (gCn (gNm 9) gNl)))
def b_any_split_4 : FS := (fSeq (fSet 10 (fC (.int 0)))
    (fSeq (fWhile c_any_split_1 b_any_split_2 64)
    (fSeq (fAugI 5 (dI fun i j => i - j) (fVar 10) (fVar 8))
    (fAppL 6 (fVar 10) (fVar 8)))))
def t_any_split_5 : FG := (gNm 11)
def c_any_split_6 : FT := fYes
def e_any_split_7 : FE := (fArgs (d1 dTupOf) (fCons (fFrz (fLst (fUn dRevL (fVar 11)))) fNil))
def f_any_split : FS := (fSeq (fTo (gTp 2 (gCn (gNm 2) (gCn (gNm 3) gNl))) (fCall F_checked_couple [] (fCons (fVar 0) (fCons (fVar 1) fNil))))
    (fSeq (fSet 4 (fCall F_layers_of [] (fCons (fVar 2) (fCons (fVar 3) fNil))))
    (fSeq (fIfS (fNot (fUn dTruth (fBin dIx (fVar 4) (fUn dNeg (fC (.int 1)))))) (fRet (fArgs (dMake 1 1) (fCons (fVar 4) fNil))) fSkip)
    (fSeq (fSetO 5 (fLst (fArgs (d1 dItems) (fCons (fVar 3) fNil))))
    (fSeq (fSetO 6 (fLc0 (fUn dSeq (fVar 3)) t_any_split_0 [7]))
    (fSeq (fFor (fArgs dZip (fCons (fUn dRevT (fVar 2)) (fCons (fCall F_chained_entries [] (fCons (fVar 2) (fCons (fVar 4) fNil))) fNil))) t_any_split_3 b_any_split_4)
    (fRet (fLend 6 noL (fArgs (d1 dTupOf) (fCons (fFrz (fLst (fLc (fUn dSeq (fVar 6)) t_any_split_5 c_any_split_6 e_any_split_7 [11]))) fNil))))))))))
def F_any_split : List D → Option Slot := fnD f_any_split 12
def t__law_turned_0 : FG := (gNm 3)
def b__law_turned_1 : FS := (fIns 2 (fCallI 0 F__law_draw (fHere 0 (fCons (fBin dAdd (fLend 2 noL (fArgs (d1 dLen) (fCons (fVar 2) fNil))) (fC (.int 1))) fNil))) (fVar 3))
def f__law_turned : FS := (fSeq (fSetO 2 (fLst (fArgs dLst fNil)))
    (fSeq (fFor (fUn dSeq (fVar 1)) t__law_turned_0 b__law_turned_1)
    (fFreeze 2 (fRet (fIf (fTest (fBin dEq (fCallI 0 F__law_draw (fHere 0 (fCons (fC (.int 2)) fNil))) (fC (.int 0)))) (fVar 2) (fArgs (d1 dTupOf) (fCons (fVar 2) fNil)))))))
def F__law_turned : FI := fnI f__law_turned 4
def t_fails_in_0 : FG := (gNm 3)
def c_fails_in_1 : FT := (fTest (fBin dLt (fVar 3) (fVar 1)))
def e_fails_in_2 : FE := (fVar 3)
def f_fails_in : FS := (fSeq (fIfS (fOr (fUn dTruth (fUn (dIsi "bool") (fVar 1))) (fOr (fNot (fUn dTruth (fUn (dIsi "int") (fVar 1)))) (fOr (fTest (fBin dEq (fVar 2) (fC (.int 1)))) (fTest (fBin (dInS true) (fVar 1) (fVar 0)))))) (fRet (fC (.bl false))) fSkip)
    (fRet (fBin dGt (fVar 1) (fBin dAdd (fBin dDiv (fArgs (d1 dSum) (fCons (fFrz (fLst (fLc (fUn dSeq (fVar 0)) t_fails_in_0 c_fails_in_1 e_fails_in_2 [3]))) fNil)) (fBin (dI fun i j => i - j) (fVar 2) (fC (.int 1)))) (fC (.int 1))))))
def F_fails_in : List D → Option Slot := fnD f_fails_in 4
def f_fallen_fault : FS := (fSeq (fSet 4 (fCall F_check_pool [] (fCons (fVar 0) fNil)))
    (fSeq (fDrop (fCall F_check_people [.int 1] (fCons (fVar 1) fNil)))
    (fSeq (fDrop (fCall F_check_lost [] (fCons (fVar 2) fNil)))
    (fSeq (fSet 5 (fCall F_check_pool [] (fCons (fUn (dFld 3 0) (fVar 3)) fNil)))
    (fSeq (fIfS (fNot (fUn dTruth (fCall F_has_lot [] (fCons (fVar 4) (fCons (fVar 5) fNil))))) (fRet (fC (.str "lot"))) fSkip)
    (fSeq (fIfS (fTest (fBin dGt (fArgs (d1 dLen) (fCons (fVar 5) fNil)) (fVar 2))) (fRet (fC (.str "many"))) fSkip)
    (fSeq (fSet 6 (fCall F_less_lot [] (fCons (fVar 4) (fCons (fVar 5) fNil))))
    (fSeq (fIfS (fNot (fUn dTruth (fCall F_fails_in [] (fCons (fVar 6) (fCons (fUn (dFld 3 1) (fVar 3)) (fCons (fVar 1) fNil)))))) (fRet (fC (.str "coin"))) fSkip)
    (fSeq (fSet 7 (fCall F_check_wish [] (fCons (fUn (dFld 3 2) (fVar 3)) (fCons (fArgs (d1 dSum) (fCons (fVar 6) fNil)) fNil))))
    (fSeq (fIfS (fTest (fBin dNe (fArgs (d1 dLen) (fCons (fVar 7) fNil)) (fVar 1))) (fRet (fC (.str "wish"))) fSkip)
    (fRet (fIf (fUn dTruth (fUn (dIsiC 1) (fCall F_any_split [] (fCons (fVar 6) (fCons (fVar 7) fNil))))) (fC .non) (fC (.str "split"))))))))))))))
def F_fallen_fault : List D → Option Slot := fnD f_fallen_fault 8
def t__law_layers_0 : FG := (gTp 2 (gCn (gNm 7) (gCn (gNm 8) gNl)))
def b__law_layers_1 : FS := (fIfS (fTest (fBin dGe (fVar 8) (fVar 4))) (fPutT 5 (fArgs (d1 dTupOf) (fCons (fFrz (fLst (fArgs (d1 dSort) (fCons (fBin dAdd (fBin dAdd (fCut dCutT (fVar 6) fNone (fSome (fVar 7))) (fArgs dTup (fCons (fBin (dI fun i j => i - j) (fVar 8) (fVar 4)) fNil))) (fCut dCutT (fVar 6) (fSome (fBin dAdd (fVar 7) (fC (.int 1)))) fNone)) fNil)))) fNil)) (fC (.bl true))) fSkip)
def t__law_layers_2 : FG := (gNm 6)
def b__law_layers_3 : FS := (fFor (fArgs dEnum (fCons (fVar 6) fNil)) t__law_layers_0 b__law_layers_1)
def t__law_layers_4 : FG := (gNm 3)
def b__law_layers_5 : FS := (fSeq (fSet 4 (fBin dIx (fVar 0) (fBin (dI fun i j => i - j) (fBin (dI fun i j => i - j) (fArgs (d1 dLen) (fCons (fVar 0) fNil)) (fC (.int 1))) (fVar 3))))
    (fSeq (fSetO 5 (fun ρ => some (.dT [], ρ)))
    (fSeq (fFor (fUn dSeq (fVar 2)) t__law_layers_2 b__law_layers_3)
    (fSeq (fSet 2 (fFrz (fKeysT 5)))
    (fIfS (fTest (fBin dGt (fArgs (d1 dLen) (fCons (fVar 2) fNil)) (fC (.int 400)))) (fRet (fC (.int 2))) fSkip)))))
def f__law_layers : FS := (fSeq (fSet 2 (fFrz (fLst (fArgs dLst (fCons (fArgs (d1 dTupOf) (fCons (fFrz (fLst (fArgs (d1 dSort) (fCons (fVar 1) fNil)))) fNil)) fNil)))))
    (fSeq (fFor (fArgs dRng1 (fCons (fArgs (d1 dLen) (fCons (fVar 0) fNil)) fNil)) t__law_layers_4 b__law_layers_5)
    (fRet (fIf (fTest (fBin dGt (fArgs (d1 dLen) (fCons (fVar 2) fNil)) (fC (.int 0)))) (fC (.int 1)) (fC (.int 0))))))
def F__law_layers : List D → Option Slot := fnD f__law_layers 9
def t_is_entry_0 : FG := (gNm 2)
def b_is_entry_1 : FS := (fIfS (fOr (fNot (fUn dTruth (fUn (dIsi "int") (fVar 2)))) (fOr (fUn dTruth (fUn (dIsi "bool") (fVar 2))) (fTest (fBin dLt (fVar 2) (fC (.int 0)))))) (fRet (fC (.bl false))) fSkip)
def f_is_entry : FS := (fSeq (fIfS (fOr (fNot (fUn dTruth (fUn (dIsi "tuple") (fVar 0)))) (fTest (fBin dNe (fArgs (d1 dLen) (fCons (fVar 0) fNil)) (fVar 1)))) (fRet (fC (.bl false))) fSkip)
    (fSeq (fFor (fUn dSeq (fVar 0)) t_is_entry_0 b_is_entry_1)
    (fRet (fBin dEq (fFrz (fLst (fArgs (d1 dItems) (fCons (fVar 0) fNil)))) (fFrz (fLst (fArgs (d1 dSort) (fCons (fFrz (fLst (fArgs (d1 dItems) (fCons (fVar 0) fNil)))) fNil))))))))
def F_is_entry : List D → Option Slot := fnD f_is_entry 3
def t_has_form_0 : FG := (gNm 3)
def c_has_form_1 : FT := fYes
def e_has_form_2 : FE := (fCall F_is_entry [] (fCons (fVar 3) (fCons (fVar 1) fNil)))
def t_has_form_3 : FG := (gNm 2)
def b_has_form_4 : FS := (fSeq (fIfS (fNot (fUn dTruth (fUn (dIsi2 "list" "tuple") (fVar 2)))) (fRet (fC (.bl false))) fSkip)
    (fIfS (fTest (fBin (dInS false) (fC (.bl false)) (fFrz (fLst (fLc (fUn dSeq (fVar 2)) t_has_form_0 c_has_form_1 e_has_form_2 [3]))))) (fRet (fC (.bl false))) fSkip))
def f_has_form : FS := (fSeq (fIfS (fOr (fNot (fUn dTruth (fUn (dIsi2 "list" "tuple") (fVar 0)))) (fTest (fBin dEq (fArgs (d1 dLen) (fCons (fVar 0) fNil)) (fC (.int 0))))) (fRet (fC (.bl false))) fSkip)
    (fSeq (fFor (fUn dSeq (fVar 0)) t_has_form_3 b_has_form_4)
    (fRet (fC (.bl true)))))
def F_has_form : List D → Option Slot := fnD f_has_form 4
def t_layers_fault_0 : FG := (gNm 7)
def b_layers_fault_1 : FS := (fIfS (fTest (fHasT 6 true (fVar 7))) (fRet (fC (.str "next"))) fSkip)
def t_layers_fault_2 : FG := (gNm 5)
def b_layers_fault_3 : FS := (fSeq (fDcT 6 7 true (fUn dSeq (fBin dIx (fVar 2) (fBin dAdd (fVar 5) (fC (.int 1))))))
    (fFor (fUn dSeq (fCall F_next_entries [] (fCons (fBin dIx (fVar 2) (fVar 5)) (fCons (fBin dIx (fVar 3) (fBin (dI fun i j => i - j) (fBin (dI fun i j => i - j) (fArgs (d1 dLen) (fCons (fVar 3) fNil)) (fC (.int 1))) (fVar 5))) fNil)))) t_layers_fault_0 b_layers_fault_1))
def f_layers_fault : FS := (fSeq (fTo (gTp 2 (gCn (gNm 3) (gCn (gNm 4) gNl))) (fCall F_checked_couple [] (fCons (fVar 0) (fCons (fVar 1) fNil))))
    (fSeq (fIfS (fNot (fUn dTruth (fCall F_has_form [] (fCons (fVar 2) (fCons (fArgs (d1 dLen) (fCons (fVar 4) fNil)) fNil))))) (fRet (fC (.str "form"))) fSkip)
    (fSeq (fIfS (fTest (fBin dGt (fArgs (d1 dLen) (fCons (fVar 2) fNil)) (fBin dAdd (fArgs (d1 dLen) (fCons (fVar 3) fNil)) (fC (.int 1))))) (fRet (fC (.str "many"))) fSkip)
    (fSeq (fIfS (fTest (fBin (dInS true) (fArgs (d1 dTupOf) (fCons (fFrz (fLst (fArgs (d1 dSort) (fCons (fVar 4) fNil)))) fNil)) (fBin dIx (fVar 2) (fC (.int 0))))) (fRet (fC (.str "first"))) fSkip)
    (fSeq (fFor (fArgs dRng1 (fCons (fBin (dI fun i j => i - j) (fArgs (d1 dLen) (fCons (fVar 2) fNil)) (fC (.int 1))) fNil)) t_layers_fault_2 b_layers_fault_3)
    (fRet (fIf (fTest (fBin dGt (fArgs (d1 dLen) (fCons (fBin dIx (fVar 2) (fUn dNeg (fC (.int 1)))) fNil)) (fC (.int 0)))) (fC (.str "last")) (fC .non))))))))
def F_layers_fault : List D → Option Slot := fnD f_layers_fault 8
def f__law_fallen_right : FS := (fSeq (fIfS (fOr (fNot (fUn dTruth (fUn (dIsiC 3) (fVar 4)))) (fOr (fTest (fBin dGt (fArgs (d1 dLen) (fCons (fUn (dFld 3 0) (fVar 4)) fNil)) (fVar 3))) (fTest (fBin dNotN (fCall F_fallen_fault [] (fCons (fVar 1) (fCons (fVar 2) (fCons (fVar 3) (fCons (fVar 4) fNil))))) (fC .non))))) (fRet (fC (.bl false))) fSkip)
    (fSeq (fSet 5 (fCall F_less_lot [] (fCons (fCallI 0 F__law_turned (fHere 0 (fCons (fVar 1) fNil))) (fCons (fUn (dFld 3 0) (fVar 4)) fNil))))
    (fSeq (fIfS (fOr (fTest (fBin dNe (fArgs (d1 dLen) (fCons (fUn (dFld 3 2) (fVar 4)) fNil)) (fVar 2))) (fOr (fTest (fBin dNe (fArgs (d1 dSum) (fCons (fUn (dFld 3 2) (fVar 4)) fNil)) (fArgs (d1 dSum) (fCons (fVar 5) fNil)))) (fTest (fBin dNe (fCall F__law_layers [] (fCons (fVar 5) (fCons (fUn (dFld 3 2) (fVar 4)) fNil))) (fC (.int 0)))))) (fRet (fC (.bl false))) fSkip)
    (fSeq (fSet 6 (fCall F_any_split [] (fCons (fVar 5) (fCons (fUn (dFld 3 2) (fVar 4)) fNil))))
    (fRet (fAndV (fUn (dIsiC 1) (fVar 6)) (fBin dIsN (fCall F_layers_fault [] (fCons (fVar 5) (fCons (fUn (dFld 3 2) (fVar 4)) (fCons (fUn (dFld 1 0) (fVar 6)) fNil)))) (fC .non))))))))
def F__law_fallen_right : FI := fnI f__law_fallen_right 7
def t__law_drawn_lot_0 : FG := (gNm 5)
def b__law_drawn_lot_1 : FS := (fIfS (fTest (fBin dGt (fCallI 0 F__law_draw (fHere 0 (fCons (fC (.int 5)) fNil))) (fC (.int 0)))) (fApp 4 (fPop 3 (fCallI 0 F__law_draw (fHere 0 (fCons (fLend 3 noL (fArgs (d1 dLen) (fCons (fVar 3) fNil))) fNil))))) fSkip)
def f__law_drawn_lot : FS := (fSeq (fSetO 3 (fLst (fArgs (d1 dItems) (fCons (fVar 1) fNil))))
    (fSeq (fSetO 4 (fLst (fArgs dLst fNil)))
    (fSeq (fFor (fArgs dRng1 (fCons (fArgs (d2 dMin2) (fCons (fVar 2) (fCons (fArgs (d1 dLen) (fCons (fVar 1) fNil)) fNil))) fNil)) t__law_drawn_lot_0 b__law_drawn_lot_1)
    (fRet (fArgs (d1 dTupOf) (fCons (fFrz (fLend 4 okO (fLst (fArgs (d1 dSort) (fCons (fVar 4) fNil))))) fNil))))))
def F__law_drawn_lot : FI := fnI f__law_drawn_lot 6
def f_check_amount : FS := (fSeq (fIfS (fNot (fUn dTruth (fCall F_is_whole [] (fCons (fVar 0) (fCons (fVar 1) (fCons (fC (.int 12000000000)) fNil)))))) fStuck fSkip)
    (fRet (fVar 0)))
def F_check_amount : List D → Option Slot := fnD f_check_amount 2
def t_even_wish_0 : FG := (gNm 2)
def c_even_wish_1 : FT := fYes
def e_even_wish_2 : FE := (fBin dAdd (fBin dDiv (fVar 0) (fVar 1)) (fArgs (d1 dIntOf) (fCons (fBin dLt (fVar 2) (fBin dMod (fVar 0) (fVar 1))) fNil)))
def f_even_wish : FS := (fSeq (fDrop (fCall F_check_amount [.int 0] (fCons (fVar 0) fNil)))
    (fSeq (fDrop (fCall F_check_people [.int 1] (fCons (fVar 1) fNil)))
    (fRet (fArgs (d1 dTupOf) (fCons (fFrz (fLst (fLc (fArgs dRng1 (fCons (fVar 1) fNil)) t_even_wish_0 c_even_wish_1 e_even_wish_2 [2]))) fNil)))))
def F_even_wish : List D → Option Slot := fnD f_even_wish 3
def t__law_big_0 : FG := (gNm 3)
def b__law_big_1 : FS := (fSet 2 (fBin dAdd (fBin dMul (fVar 2) (fC (.int 1000))) (fCallI 0 F__law_draw (fHere 0 (fCons (fC (.int 1000)) fNil)))))
def f__law_big : FS := (fSeq (fSet 2 (fC (.int 0)))
    (fSeq (fFor (fArgs dRng1 (fCons (fC (.int 4)) fNil)) t__law_big_0 b__law_big_1)
    (fRet (fBin dMod (fArgs (d1 dIntOf) (fCons (fVar 2) fNil)) (fVar 1)))))
def F__law_big : FI := fnI f__law_big 4
def t__law_drawn_wish_0 : FG := (gNm 5)
def b__law_drawn_wish_1 : FS := (fSeq (fSet 6 (fIf (fTest (fBin dGt (fVar 3) (fC (.int 999)))) (fBin dMod (fArgs (d1 dIntOf) (fCons (fCallI 0 F__law_big (fHere 0 (fCons (fBin dPow (fC (.int 10)) (fC (.int 12))) fNil))) fNil)) (fBin dAdd (fVar 3) (fC (.int 1)))) (fCallI 0 F__law_draw (fHere 0 (fCons (fBin dAdd (fVar 3) (fC (.int 1))) fNil)))))
    (fSeq (fIns 4 (fCallI 0 F__law_draw (fHere 0 (fCons (fBin dAdd (fLend 4 noL (fArgs (d1 dLen) (fCons (fVar 4) fNil))) (fC (.int 1))) fNil))) (fVar 6))
    (fSet 3 (fBin (dI fun i j => i - j) (fVar 3) (fVar 6)))))
def f__law_drawn_wish : FS := (fSeq (fSet 3 (fVar 1))
    (fSeq (fSetO 4 (fLst (fArgs dLst fNil)))
    (fSeq (fFor (fArgs dRng1 (fCons (fBin (dI fun i j => i - j) (fVar 2) (fC (.int 1))) fNil)) t__law_drawn_wish_0 b__law_drawn_wish_1)
    (fSeq (fIns 4 (fCallI 0 F__law_draw (fHere 0 (fCons (fBin dAdd (fLend 4 noL (fArgs (d1 dLen) (fCons (fVar 4) fNil))) (fC (.int 1))) fNil))) (fVar 3))
    (fRet (fLend 4 noL (fArgs (d1 dTupOf) (fCons (fVar 4) fNil))))))))
def F__law_drawn_wish : FI := fnI f__law_drawn_wish 7
def t__law_less_0 : FG := (gNm 3)
def b__law_less_1 : FS := (fRem 2 (fVar 3))
def f__law_less : FS := (fSeq (fSetO 2 (fLst (fArgs (d1 dItems) (fCons (fVar 0) fNil))))
    (fSeq (fFor (fUn dSeq (fVar 1)) t__law_less_0 b__law_less_1)
    (fRet (fLend 2 noL (fArgs (d1 dTupOf) (fCons (fVar 2) fNil))))))
def F__law_less : List D → Option Slot := fnD f__law_less 4
def t__law_wishes_0 : FG := (gNm 6)
def c__law_wishes_1 : FT := fYes
def e__law_wishes_2 : FE := (fBin dAdd (fVar 5) (fArgs dTup (fCons (fVar 6) fNil)))
def t__law_wishes_3 : FG := (gNm 5)
def b__law_wishes_4 : FS := (fSet 4 (fFrz (fLst (fBin dCatL (fVar 4) (fFrz (fLst (fLc (fArgs dRng1 (fCons (fBin dAdd (fBin (dI fun i j => i - j) (fVar 0) (fArgs (d1 dSum) (fCons (fVar 5) fNil))) (fC (.int 1))) fNil)) t__law_wishes_0 c__law_wishes_1 e__law_wishes_2 [6])))))))
def t__law_wishes_5 : FG := (gNm 3)
def b__law_wishes_6 : FS := (fSeq (fSet 4 (fFrz (fLst (fArgs dLst fNil))))
    (fSeq (fFor (fUn dSeq (fVar 2)) t__law_wishes_3 b__law_wishes_4)
    (fSet 2 (fVar 4))))
def e__law_wishes_7 : FE := (fBin dAdd (fVar 5) (fArgs dTup (fCons (fBin (dI fun i j => i - j) (fVar 0) (fArgs (d1 dSum) (fCons (fVar 5) fNil))) fNil)))
def f__law_wishes : FS := (fSeq (fSet 2 (fFrz (fLst (fArgs dLst (fCons (fArgs dTup fNil) fNil)))))
    (fSeq (fFor (fArgs dRng1 (fCons (fBin (dI fun i j => i - j) (fVar 1) (fC (.int 1))) fNil)) t__law_wishes_5 b__law_wishes_6)
    (fRet (fFrz (fLst (fLc (fUn dSeq (fVar 2)) t__law_wishes_3 c__law_wishes_1 e__law_wishes_7 [5]))))))
def F__law_wishes : List D → Option Slot := fnD f__law_wishes 7
def f__law_whole : FS := (fRet (fAndV (fUn (dIsi "int") (fVar 0)) (fUn dNotT (fUn (dIsi "bool") (fVar 0)))))
def F__law_whole : List D → Option Slot := fnD f__law_whole 1
def t__law_lot_like_0 : FG := (gNm 1)
def c__law_lot_like_1 : FT := fYes
def e__law_lot_like_2 : FE := (fAndV (fCall F__law_whole [] (fCons (fVar 1) fNil)) (fBin dGt (fVar 1) (fC (.int 0))))
def f__law_lot_like : FS := (fSeq (fIfS (fOr (fNot (fUn dTruth (fUn (dIsi "tuple") (fVar 0)))) (fNot (fUn dTruth (fArgs (d1 dAll) (fCons (fFrz (fLst (fLc (fUn dSeq (fVar 0)) t__law_lot_like_0 c__law_lot_like_1 e__law_lot_like_2 [1]))) fNil))))) (fRet (fC (.bl false))) fSkip)
    (fRet (fBin dEq (fFrz (fLst (fArgs (d1 dItems) (fCons (fVar 0) fNil)))) (fFrz (fLst (fArgs (d1 dSort) (fCons (fVar 0) fNil)))))))
def F__law_lot_like : List D → Option Slot := fnD f__law_lot_like 2
def t__law_split_like_0 : FG := (gNm 2)
def c__law_split_like_1 : FT := fYes
def e__law_split_like_2 : FE := (fCall F__law_lot_like [] (fCons (fVar 2) fNil))
def f__law_split_like : FS := (fRet (fAndV (fUn (dIsi "tuple") (fVar 0)) (fAndV (fBin dEq (fArgs (d1 dLen) (fCons (fVar 0) fNil)) (fVar 1)) (fArgs (d1 dAll) (fCons (fFrz (fLst (fLc (fUn dSeq (fVar 0)) t__law_split_like_0 c__law_split_like_1 e__law_split_like_2 [2]))) fNil)))))
def F__law_split_like : List D → Option Slot := fnD f__law_split_like 3
def t__law_is_split_0 : FG := (gNm 4)
def b__law_is_split_1 : FS := (fSet 3 (fFrz (fLst (fBin dCatL (fVar 3) (fFrz (fLst (fArgs (d1 dItems) (fCons (fVar 4) fNil))))))))
def c__law_is_split_2 : FT := fYes
def e__law_is_split_3 : FE := (fArgs (d1 dSum) (fCons (fVar 4) fNil))
def f__law_is_split : FS := (fSeq (fIfS (fOr (fNot (fUn dTruth (fUn (dIsi "tuple") (fVar 2)))) (fNot (fUn dTruth (fCall F__law_split_like [] (fCons (fVar 0) (fCons (fArgs (d1 dLen) (fCons (fVar 2) fNil)) fNil)))))) (fRet (fC (.bl false))) fSkip)
    (fSeq (fSet 3 (fFrz (fLst (fArgs dLst fNil))))
    (fSeq (fFor (fUn dSeq (fVar 0)) t__law_is_split_0 b__law_is_split_1)
    (fRet (fAndV (fBin dEq (fFrz (fLst (fArgs (d1 dSort) (fCons (fVar 3) fNil)))) (fFrz (fLst (fArgs (d1 dItems) (fCons (fVar 1) fNil))))) (fBin dEq (fArgs (d1 dTupOf) (fCons (fFrz (fLst (fLc (fUn dSeq (fVar 0)) t__law_is_split_0 c__law_is_split_2 e__law_is_split_3 [4]))) fNil)) (fVar 2)))))))
def F__law_is_split : List D → Option Slot := fnD f__law_is_split 5
def f_may_take : FS := (fSeq (fIfS (fOr (fNot (fUn dTruth (fUn (dIsi "int") (fVar 0)))) (fOr (fUn dTruth (fUn (dIsi "bool") (fVar 0))) (fNot (fTest (fChain dLe dLt (fC (.int 0)) (fVar 0) (fArgs (d1 dLen) (fCons (fVar 2) fNil))))))) (fRet (fC (.bl false))) fSkip)
    (fRet (fBin dGe (fBin dIx (fVar 2) (fVar 0)) (fVar 1))))
def F_may_take : List D → Option Slot := fnD f_may_take 3
def f_first_lacking : FS := (fRet (fBin dIdx (fVar 1) (fArgs (d1 dMaxS) (fCons (fVar 1) fNil))))
def F_first_lacking : List D → Option Slot := fnD f_first_lacking 2
def t_hand_out_0 : FG := (gNm 7)
def t_hand_out_1 : FG := (gTp 2 (gCn (gNm 8) (gCn (gNm 9) gNl)))
def b_hand_out_2 : FS := (fSeq (fIfS (fTest (fBin dLt (fLend 5 noL (fArgs (d1 dMaxL) (fCons (fVar 5) fNil))) (fVar 9))) (fRet (fArgs (dMake 0 2) (fCons (fVar 9) (fCons (fLend 5 noL (fArgs (d1 dTupF) (fCons (fVar 5) fNil))) fNil)))) fSkip)
    (fSeq (fSet 10 (fCallV 2 (fun i => if i = 0 then some F_first_lacking else none) (fCons (fVar 9) (fCons (fLend 5 noL (fArgs (d1 dTupF) (fCons (fVar 5) fNil))) fNil))))
    (fSeq (fIfS (fNot (fUn dTruth (fLend 5 noL (fCall F_may_take [] (fCons (fVar 10) (fCons (fVar 9) (fCons (fVar 5) fNil))))))) fStuck fSkip)
    (fSeq (fAugI 5 (dI fun i j => i - j) (fVar 10) (fVar 9))
    (fAppL 6 (fVar 10) (fVar 9))))))
def t_hand_out_3 : FG := (gNm 11)
def c_hand_out_4 : FT := fYes
def e_hand_out_5 : FE := (fArgs (d1 dTupOf) (fCons (fFrz (fLst (fUn dRevL (fVar 11)))) fNil))
def f_hand_out : FS := (fSeq (fTo (gTp 2 (gCn (gNm 3) (gCn (gNm 4) gNl))) (fCall F_checked_couple [] (fCons (fVar 0) (fCons (fVar 1) fNil))))
    (fSeq (fSetO 5 (fLst (fArgs (d1 dItems) (fCons (fVar 4) fNil))))
    (fSeq (fSetO 6 (fLc0 (fUn dSeq (fVar 4)) t_hand_out_0 [7]))
    (fSeq (fFor (fArgs dEnum (fCons (fUn dRevT (fVar 3)) fNil)) t_hand_out_1 b_hand_out_2)
    (fRet (fLend 6 noL (fArgs (d1 dTupOf) (fCons (fFrz (fLst (fLc (fUn dSeq (fVar 6)) t_hand_out_3 c_hand_out_4 e_hand_out_5 [11]))) fNil))))))))
def F_hand_out : List D → Option Slot := fnD f_hand_out 12
def f_greatest_first : FS := (fRet (fCall F_hand_out [] (fCons (fVar 0) (fCons (fVar 1) (fCons (fC (.fn 0)) fNil)))))
def F_greatest_first : List D → Option Slot := fnD f_greatest_first 2
def t__law_rest_right_0 : FG := (gNm 8)
def b__law_rest_right_1 : FS := (fIfS (fNot (fUn dTruth (fCall F__law_is_split [] (fCons (fCall F_greatest_first [] (fCons (fVar 5) (fCons (fVar 8) fNil))) (fCons (fVar 5) (fCons (fVar 8) fNil)))))) (fRet (fC (.bl false))) fSkip)
def f__law_rest_right : FS := (fSeq (fSet 5 (fCall F_less_lot [] (fCons (fCallI 0 F__law_turned (fHere 0 (fCons (fVar 1) fNil))) (fCons (fVar 3) fNil))))
    (fSeq (fIfS (fOr (fTest (fBin dNe (fVar 5) (fCall F__law_less [] (fCons (fVar 1) (fCons (fVar 3) fNil))))) (fOr (fTest (fBin dNotN (fCall F_serves [] (fCons (fVar 5) (fCons (fVar 2) fNil))) (fC .non))) (fTest (fBin dNotN (fCall F_serves_after [] (fCons (fVar 5) (fCons (fVar 2) (fCons (fVar 4) fNil)))) (fC .non))))) (fRet (fC (.bl false))) fSkip)
    (fSeq (fSet 6 (fArgs (d1 dSum) (fCons (fVar 5) fNil)))
    (fSeq (fSet 7 (fFrz (fLst (fArgs dLst (fCons (fCall F_even_wish [] (fCons (fVar 6) (fCons (fVar 2) fNil))) (fCons (fCallI 0 F__law_drawn_wish (fHere 0 (fCons (fVar 6) (fCons (fVar 2) fNil)))) (fCons (fCallI 0 F__law_drawn_wish (fHere 0 (fCons (fVar 6) (fCons (fVar 2) fNil)))) fNil)))))))
    (fSeq (fIfS (fTest (fBin dLt (fVar 6) (fC (.int 6)))) (fSet 7 (fFrz (fLst (fBin dCatL (fVar 7) (fCall F__law_wishes [] (fCons (fVar 6) (fCons (fVar 2) fNil))))))) fSkip)
    (fSeq (fFor (fUn dSeq (fVar 7)) t__law_rest_right_0 b__law_rest_right_1)
    (fRet (fC (.bl true)))))))))
def F__law_rest_right : FI := fnI f__law_rest_right 9
def t_law_0 : FG := (gNm 6)
def b_law_1 : FS := (fSeq (fSet 7 (fCallI 1 F__law_drawn_lot (fHere 1 (fCons (fVar 4) (fCons (fVar 3) fNil)))))
    (fIfS (fNot (fUn dTruth (fCallI 1 F__law_rest_right (fHere 1 (fCons (fVar 4) (fCons (fVar 2) (fCons (fVar 7) (fCons (fBin (dI fun i j => i - j) (fVar 3) (fArgs (d1 dLen) (fCons (fVar 7) fNil))) fNil)))))))) (fRet (fC (.bl false))) fSkip))
def f_law : FS := (fSeq (fSet 2 (fCallI 1 F__law_few_people (fHere 1 fNil)))
    (fSeq (fSet 3 (fCallI 1 F__law_lost (fHere 1 fNil)))
    (fSeq (fSet 4 (fCallI 1 F__law_loss_pool (fHere 1 (fCons (fC (.int 7)) (fCons (fVar 2) (fCons (fVar 3) fNil))))))
    (fSeq (fSet 5 (fCall F_serves_after [] (fCons (fCallI 1 F__law_turned (fHere 1 (fCons (fVar 4) fNil))) (fCons (fVar 2) (fCons (fVar 3) fNil)))))
    (fSeq (fIfS (fTest (fBin dNotN (fVar 5) (fC .non))) (fRet (fCallI 1 F__law_fallen_right (fHere 1 (fCons (fVar 4) (fCons (fVar 2) (fCons (fVar 3) (fCons (fVar 5) fNil))))))) fSkip)
    (fSeq (fFor (fArgs dRng1 (fCons (fC (.int 4)) fNil)) t_law_0 b_law_1)
    (fSeq (fSet 8 (fCall F_most_lost [] (fCons (fVar 4) (fCons (fVar 2) fNil))))
    (fSeq (fIfS (fTest (fBin dIsN (fVar 8) (fC .non))) (fRet (fBin dIsN (fCall F_serves_after [] (fCons (fVar 4) (fCons (fVar 2) (fCons (fC (.int 12)) fNil)))) (fC .non))) fSkip)
    (fSeq (fIfS (fOr (fTest (fBin dLt (fVar 8) (fVar 3))) (fTest (fBin dNotN (fCall F_serves_after [] (fCons (fVar 4) (fCons (fVar 2) (fCons (fVar 8) fNil)))) (fC .non)))) (fRet (fC (.bl false))) fSkip)
    (fRet (fCallI 1 F__law_fallen_right (fHere 1 (fCons (fVar 4) (fCons (fVar 2) (fCons (fBin dAdd (fVar 8) (fC (.int 1))) (fCons (fCall F_serves_after [] (fCons (fVar 4) (fCons (fVar 2) (fCons (fBin dAdd (fVar 8) (fC (.int 1))) fNil)))) fNil))))))))))))))))
section
variable {P : Program} {w : World} {K : PySem.W.Frag} {mg : Str → Option Value} {base : Heap} {T : Tab}
theorem p__law_mix (t : Txt K mg T)  : Body P w K mg base T "_law_mix" s__law_mix ["_law_number", "_law_turn", "_law_once", "_law_twice"] 0 f__law_mix := fun f cdv A outer s H E hr => by
  delta f__law_mix
  exact (pssf_cons (psf_set (i := 2) sc__law_mix.nd (pef_mod (pef_bt b_int (t.z_int) (paf_cons (pef_add (pef_add (pef_mul (pef_var (i := 0)) pef_int) (pef_mul (pef_var (i := 1)) pef_int)) pef_int) paf_nil)) pef_int))
      (pssf_cons (psf_set (i := 3) sc__law_mix.nd (pef_mod (pef_bt b_int (t.z_int) (paf_cons (pef_add (pef_add (pef_mul (pef_var (i := 2)) (pef_var (i := 2))) (pef_mul (pef_div (pef_var (i := 2)) pef_int) pef_int)) (pef_mul (pef_var (i := 1)) pef_int)) paf_nil)) pef_int))
      (pssf_one (psf_ret (pef_div (pef_mod (pef_bt b_int (t.z_int) (paf_cons (pef_add (pef_div (pef_mul (pef_var (i := 3)) (pef_var (i := 3))) pef_int) (pef_var (i := 2))) paf_nil)) pef_int) pef_int)))))
theorem g__law_mix_ (t : Txt K mg T) : Df P w K mg base T "_law_mix" 1 (spD T 2 F__law_mix) [] := Df.mkD t.d__law_mix sc__law_mix (p__law_mix t ) (fun _ _ _ _ _ _ us hl => match us, hl with | [_, _], _ => rfl)
theorem p__law_draw (t : Txt K mg T) (g__law_mix : Df P w K mg base T "_law_mix" 1 (spD T 2 F__law_mix) []) : Body P w K mg base T "_law_draw" s__law_draw ["_law_hand_here", "_law_many", "_law_cell", "_law_rest"] 1 f__law_draw := fun f cdv A outer s H E hr => by
  delta f__law_draw
  exact (pssf_cons (psf_if (PWf.pt (pwf_and (ptf_cp (c_eq hr) (pef_lend 0 (pef_ix (pef_var (i := 0)) pef_int)) pef_int) (pwf_and1 (ptf_cp c_lt (pef_lend 0 (pef_ix (pef_var (i := 0)) pef_int)) (pef_lend 0 (pef_bf b_len (t.z_len) (paf_cons (pef_ix (pef_var (i := 0)) pef_int) paf_nil))))))) (pssf_cons (psf_set (i := 2) sc__law_draw.nd (pef_lend 0 (pef_ix (pef_ix (pef_var (i := 0)) pef_int) (pef_ix (pef_var (i := 0)) pef_int))))
      (pssf_cons (psf_setI (i := 0) pef_int (pef_add (pef_lend 0 (pef_ix (pef_var (i := 0)) pef_int)) pef_int))
      (pssf_cons (psf_if (ptf_cp c_lt (pef_var (i := 2)) (pef_pow pef_int pef_int)) (pssf_one (psf_ret (pef_mod (pef_bt b_int (t.z_int) (paf_cons (pef_call [] (g__law_mix.cal hr) (paf_cons (pef_mod (pef_bt b_int (t.z_int) (paf_cons (pef_var (i := 2)) paf_nil)) pef_int) (paf_cons (pef_lend 0 (pef_ix (pef_var (i := 0)) pef_int)) paf_nil)) (hm := len_dd (len_cons (len_cons len_nil)))) paf_nil)) (pef_var (i := 1))))) pssf_nil)
      (pssf_one (psf_setI (i := 0) pef_int (pef_var (i := 2))))))) pssf_nil)
      (pssf_cons (psf_if (ptf_cp c_gt (pef_lend 0 (pef_ix (pef_var (i := 0)) pef_int)) pef_int) (pssf_cons (psf_set (i := 3) sc__law_draw.nd (pef_lend 0 (pef_ix (pef_var (i := 0)) pef_int)))
      (pssf_cons (psf_setI (i := 0) pef_int (pef_div (pef_var (i := 3)) (pef_var (i := 1))))
      (pssf_one (psf_ret (pef_mod (pef_bt b_int (t.z_int) (paf_cons (pef_var (i := 3)) paf_nil)) (pef_var (i := 1))))))) pssf_nil)
      (pssf_cons (psf_setI (i := 0) pef_int (pef_mod (pef_bt b_int (t.z_int) (paf_cons (pef_add (pef_lend 0 (pef_ix (pef_var (i := 0)) pef_int)) pef_int) paf_nil)) pef_int))
      (pssf_one (psf_ret (pef_mod (pef_bt b_int (t.z_int) (paf_cons (pef_call [] (g__law_mix.cal hr) (paf_cons (pef_lend 0 (pef_ix (pef_var (i := 0)) pef_int)) (paf_cons (pef_lend 0 (pef_ix (pef_var (i := 0)) pef_int)) paf_nil)) (hm := len_dd (len_cons (len_cons len_nil)))) paf_nil)) (pef_var (i := 1))))))))
theorem g__law_draw_ (t : Txt K mg T) : Df P w K mg base T "_law_draw" 2 (spI T 2 F__law_draw) [] := Df.mkI t.d__law_draw sc__law_draw (p__law_draw t (g__law_mix_ t)) (fun _ _ _ _ _ _ us hl => match us, hl with | [_, _], _ => rfl)
theorem p__law_few_people (t : Txt K mg T) (g__law_draw : Df P w K mg base T "_law_draw" 2 (spI T 2 F__law_draw) []) : Body P w K mg base T "_law_few_people" s__law_few_people ["_law_hand_here"] 2 f__law_few_people := fun f cdv A outer s H E hr => by
  delta f__law_few_people
  exact (pssf_one (psf_ret (pef_ix (pef_frz (peo_lst (paf_cons pef_int (paf_cons pef_int (paf_cons pef_int (paf_cons pef_int (paf_cons pef_int (paf_cons pef_int (paf_cons pef_int (paf_cons pef_int paf_nil)))))))))) (pef_callI (g__law_draw.cal hr) (pai_here (i := 0) (paf_cons pef_int paf_nil)) (len_here (len_cons len_nil))))))
theorem g__law_few_people_ (t : Txt K mg T) : Df P w K mg base T "_law_few_people" 3 (spI T 1 F__law_few_people) [] := Df.mkI t.d__law_few_people sc__law_few_people (p__law_few_people t (g__law_draw_ t)) (fun _ _ _ _ _ _ us hl => match us, hl with | [_], _ => rfl)
theorem p__law_lost (t : Txt K mg T) (g__law_draw : Df P w K mg base T "_law_draw" 2 (spI T 2 F__law_draw) []) : Body P w K mg base T "_law_lost" s__law_lost ["_law_hand_here", "_law_turn"] 2 f__law_lost := fun f cdv A outer s H E hr => by
  delta f__law_lost
  exact (pssf_cons (psf_set (i := 1) sc__law_lost.nd (pef_callI (g__law_draw.cal hr) (pai_here (i := 0) (paf_cons pef_int paf_nil)) (len_here (len_cons len_nil))))
      (pssf_cons (psf_if (ptf_cp (c_eq hr) (pef_var (i := 1)) pef_int) (pssf_one (psf_ret (pef_callI (g__law_draw.cal hr) (pai_here (i := 0) (paf_cons pef_int paf_nil)) (len_here (len_cons len_nil))))) pssf_nil)
      (pssf_one (psf_ret (pef_ix (pef_frz (peo_lst (paf_cons pef_int (paf_cons pef_int (paf_cons pef_int (paf_cons pef_int (paf_cons pef_int (paf_cons pef_int (paf_cons pef_int paf_nil))))))))) (pef_var (i := 1)))))))
theorem g__law_lost_ (t : Txt K mg T) : Df P w K mg base T "_law_lost" 3 (spI T 1 F__law_lost) [] := Df.mkI t.d__law_lost sc__law_lost (p__law_lost t (g__law_draw_ t)) (fun _ _ _ _ _ _ us hl => match us, hl with | [_], _ => rfl)
theorem p__law_room (t : Txt K mg T)  : Body P w K mg base T "_law_room" s__law_room ["_law_coins", "_law_people", "_law_lost_here", "_law_kept"] 0 f__law_room := fun f cdv A outer s H E hr => by
  delta f__law_room
  exact (pssf_cons (psf_set (i := 3) sc__law_room.nd (pef_bf b_sum (t.z_sum) (paf_cons (pef_frz (peo_cutL (pef_var (i := 0)) pof_none (pof_some (pef_bf b_max2 (t.z_max) (paf_cons pef_int (paf_cons (pef_sub (pef_bf b_len (t.z_len) (paf_cons (pef_var (i := 0)) paf_nil)) (pef_var (i := 2))) paf_nil)))))) paf_nil)))
      (pssf_one (psf_ret (pef_if (ptf_cp c_gt (pef_var (i := 1)) pef_int) (pef_add (pef_div (pef_var (i := 3)) (pef_sub (pef_var (i := 1)) pef_int)) pef_int) (pef_add (pef_var (i := 3)) pef_int)))))
theorem g__law_room_ (t : Txt K mg T) : Df P w K mg base T "_law_room" 1 (spD T 3 F__law_room) [] := Df.mkD t.d__law_room sc__law_room (p__law_room t ) (fun _ _ _ _ _ _ us hl => match us, hl with | [_, _, _], _ => rfl)
theorem p__law_bearing (t : Txt K mg T) (g__law_room : Df P w K mg base T "_law_room" 1 (spD T 3 F__law_room) []) (g__law_draw : Df P w K mg base T "_law_draw" 2 (spI T 2 F__law_draw) []) : Body P w K mg base T "_law_bearing" s__law_bearing ["_law_hand_here", "_law_many", "_law_people", "_law_lost_here", "_law_coins", "_law_k", "_law_room_here", "_law_coin"] 2 f__law_bearing := fun f cdv A outer s H E hr => by
  delta f__law_bearing
  exact (pssf_cons (psf_setO (i := 4) sc__law_bearing.nd (peo_lst paf_nil))
      (pssf_cons (psf_for PassesOwn.never rfl (pif_range1 (t.z_range) (paf_cons (pef_var (i := 1)) paf_nil)) (pgf_name (i := 5) sc__law_bearing.nd) (pssf_cons (psf_set (i := 6) sc__law_bearing.nd (pef_lend 4 (pef_call [] (g__law_room.cal hr) (paf_cons (pef_var (i := 4)) (paf_cons (pef_var (i := 2)) (paf_cons (pef_var (i := 3)) paf_nil))) (hm := len_dd (len_cons (len_cons (len_cons len_nil)))))))
      (pssf_cons (psf_set (i := 7) sc__law_bearing.nd (pef_if (ptf_cp c_gt (pef_callI (g__law_draw.cal hr) (pai_here (i := 0) (paf_cons pef_int paf_nil)) (len_here (len_cons len_nil))) pef_int) (pef_var (i := 6)) (pef_add pef_int (pef_callI (g__law_draw.cal hr) (pai_here (i := 0) (paf_cons (pef_var (i := 6)) paf_nil)) (len_here (len_cons len_nil))))))
      (pssf_one (psf_setO (i := 4) sc__law_bearing.nd (peo_bf (b_sorted hr) (t.z_sorted) (paf_cons (pef_frz (peo_lend 4 (peo_addL (pef_var (i := 4)) (pef_frz (peo_lst (paf_cons (pef_var (i := 7)) paf_nil)))))) paf_nil)))))))
      (pssf_one (psf_retO (peo_move (i := 4))))))
theorem g__law_bearing_ (t : Txt K mg T) : Df P w K mg base T "_law_bearing" 3 (spI T 4 F__law_bearing) [] := Df.mkI t.d__law_bearing sc__law_bearing (p__law_bearing t (g__law_room_ t) (g__law_draw_ t)) (fun _ _ _ _ _ _ us hl => match us, hl with | [_, _, _, _], _ => rfl)
theorem p__law_loss_pool (t : Txt K mg T) (g__law_draw : Df P w K mg base T "_law_draw" 2 (spI T 2 F__law_draw) []) (g__law_bearing : Df P w K mg base T "_law_bearing" 3 (spI T 4 F__law_bearing) []) : Body P w K mg base T "_law_loss_pool" s__law_loss_pool ["_law_hand_here", "_law_most", "_law_people", "_law_lost_here", "_law_many", "_law_turn", "_law_k", "_law_coins", "_law_at"] 3 f__law_loss_pool := fun f cdv A outer s H E hr => by
  delta f__law_loss_pool
  exact (pssf_cons (psf_set (i := 4) sc__law_loss_pool.nd (pef_callI (g__law_draw.cal hr) (pai_here (i := 0) (paf_cons (pef_add (pef_var (i := 1)) pef_int) paf_nil)) (len_here (len_cons len_nil))))
      (pssf_cons (psf_set (i := 5) sc__law_loss_pool.nd (pef_callI (g__law_draw.cal hr) (pai_here (i := 0) (paf_cons pef_int paf_nil)) (len_here (len_cons len_nil))))
      (pssf_cons (psf_if (ptf_cp c_gt (pef_var (i := 5)) pef_int) (pssf_one (psf_ret (pef_frz (peo_bf (b_sorted hr) (t.z_sorted) (paf_cons (pef_frz (peo_lc (own := [("_law_k", 6)]) rfl sc__law_loss_pool.nd (blkOk_by (own := [("_law_k", 6)]) (N := ["_law_hand_here", "_law_most", "_law_people", "_law_lost_here", "_law_many", "_law_turn", "_law_k", "_law_coins", "_law_at"]) (sc := defScope s__law_loss_pool) (by decide +kernel)) (pif_range1 (t.z_range) (paf_cons (pef_var (i := 4)) paf_nil)) (fun _ _ _ _ _ => (pgf_name (i := 6) sc__law_loss_pool.nd)) (fun _ _ _ _ _ => ptsf_nil) (fun _ _ _ _ _ => (pef_add pef_int (pef_callI (g__law_draw.cal hr) (pai_here (i := 0) (paf_cons pef_int paf_nil)) (len_here (len_cons len_nil))))))) paf_nil))))) pssf_nil)
      (pssf_cons (psf_setO (i := 7) sc__law_loss_pool.nd (peo_callI (g__law_bearing.cal hr) (pai_here (i := 0) (paf_cons (pef_var (i := 4)) (paf_cons (pef_var (i := 2)) (paf_cons (pef_var (i := 3)) paf_nil)))) (len_here (len_cons (len_cons (len_cons len_nil))))))
      (pssf_cons (psf_if (PWf.pt (pwf_and (ptf_cp c_gt (pef_var (i := 5)) pef_int) (pwf_and1 (ptf_cp c_gt (pef_var (i := 4)) pef_int)))) (pssf_cons (psf_set (i := 8) sc__law_loss_pool.nd (pef_callI (g__law_draw.cal hr) (pai_here (i := 0) (paf_cons (pef_var (i := 4)) paf_nil)) (len_here (len_cons len_nil))))
      (pssf_one (psf_setI (i := 7) (pef_var (i := 8)) (pef_add (pef_add (pef_lend 7 (pef_ix (pef_var (i := 7)) (pef_var (i := 8)))) pef_int) (pef_callI (g__law_draw.cal hr) (pai_here (i := 0) (paf_cons pef_int paf_nil)) (len_here (len_cons len_nil))))))) pssf_nil)
      (pssf_one (psf_ret (pef_frz (peo_lend 7 (peo_bf (b_sorted hr) (t.z_sorted) (paf_cons (pef_var (i := 7)) paf_nil)))))))))))
theorem g__law_loss_pool_ (t : Txt K mg T) : Df P w K mg base T "_law_loss_pool" 4 (spI T 4 F__law_loss_pool) [] := Df.mkI t.d__law_loss_pool sc__law_loss_pool (p__law_loss_pool t (g__law_draw_ t) (g__law_bearing_ t)) (fun _ _ _ _ _ _ us hl => match us, hl with | [_, _, _, _], _ => rfl)
theorem p_is_sequence (t : Txt K mg T)  : Body P w K mg base T "is_sequence" s_is_sequence ["thing", "low", "high"] 0 f_is_sequence := fun f cdv A outer s H E hr => by
  delta f_is_sequence
  exact (pssf_one (psf_ret (pef_and (pef_isi2 (t.z_isinstance) (pef_var (i := 0)) (pe_tyN (t.z_list)) (pe_tyN (t.z_tuple))) (pef_one (pef_ch c_le c_le (pef_var (i := 1)) (pef_bf b_len (t.z_len) (paf_cons (pef_var (i := 0)) paf_nil)) (pef_var (i := 2)))))))
theorem g_is_sequence_ (t : Txt K mg T) : Df P w K mg base T "is_sequence" 1 (spD T 3 F_is_sequence) [] := Df.mkD t.d_is_sequence sc_is_sequence (p_is_sequence t ) (fun _ _ _ _ _ _ us hl => match us, hl with | [_, _, _], _ => rfl)
theorem p_is_whole (t : Txt K mg T)  : Body P w K mg base T "is_whole" s_is_whole ["thing", "low", "high"] 0 f_is_whole := fun f cdv A outer s H E hr => by
  delta f_is_whole
  exact (pssf_one (psf_ret (pef_and (pef_isi (t.z_isinstance) (pef_var (i := 0)) (pe_tyN (t.z_int))) (pef_and (pef_notT (pef_isi (t.z_isinstance) (pef_var (i := 0)) (pe_tyN (t.z_bool)))) (pef_one (pef_ch c_le c_le (pef_var (i := 1)) (pef_var (i := 0)) (pef_var (i := 2))))))))
theorem g_is_whole_ (t : Txt K mg T) : Df P w K mg base T "is_whole" 1 (spD T 3 F_is_whole) [] := Df.mkD t.d_is_whole sc_is_whole (p_is_whole t ) (fun _ _ _ _ _ _ us hl => match us, hl with | [_, _, _], _ => rfl)
theorem p_check_pool (t : Txt K mg T) (g_is_sequence : Df P w K mg base T "is_sequence" 1 (spD T 3 F_is_sequence) []) (g_is_whole : Df P w K mg base T "is_whole" 1 (spD T 3 F_is_whole) []) : Body P w K mg base T "check_pool" s_check_pool ["coins", "at", "coin"] 2 f_check_pool := fun f cdv A outer s H E hr => by
  delta f_check_pool
  exact (pssf_cons (psf_if (ptf_not (ptf_tru (pef_call [] (g_is_sequence.cal hr) (paf_cons (pef_var (i := 0)) (paf_cons pef_int (paf_cons (pef_globE t.k_MOST_COINS) paf_nil))) (hm := len_dd (len_cons (len_cons (len_cons len_nil))))))) (pssf_one psf_never) pssf_nil)
      (pssf_cons (psf_for PassesOwn.never rfl (pif_enum (t.z_enumerate) (paf_cons (pef_var (i := 0)) paf_nil)) (pgf_tup rfl (pgsf_cons (pgf_name (i := 1) sc_check_pool.nd) (pgsf_cons (pgf_name (i := 2) sc_check_pool.nd) pgsf_nil))) (pssf_one (psf_if (ptf_not (ptf_tru (pef_call [] (g_is_whole.cal hr) (paf_cons (pef_var (i := 2)) (paf_cons pef_int (paf_cons (pef_globE t.k_MOST_WORTH) paf_nil))) (hm := len_dd (len_cons (len_cons (len_cons len_nil))))))) (pssf_one psf_never) pssf_nil)))
      (pssf_one (psf_ret (pef_bt b_tuple (t.z_tuple) (paf_cons (pef_frz (peo_bf (b_sorted hr) (t.z_sorted) (paf_cons (pef_var (i := 0)) paf_nil))) paf_nil))))))
theorem g_check_pool_ (t : Txt K mg T) : Df P w K mg base T "check_pool" 3 (spD T 1 F_check_pool) [] := Df.mkD t.d_check_pool sc_check_pool (p_check_pool t (g_is_sequence_ t) (g_is_whole_ t)) (fun _ _ _ _ _ _ us hl => match us, hl with | [_], _ => rfl)
theorem p_check_people (t : Txt K mg T) (g_is_whole : Df P w K mg base T "is_whole" 1 (spD T 3 F_is_whole) []) : Body P w K mg base T "check_people" s_check_people ["people", "low"] 2 f_check_people := fun f cdv A outer s H E hr => by
  delta f_check_people
  exact (pssf_cons (psf_if (ptf_not (ptf_tru (pef_call [] (g_is_whole.cal hr) (paf_cons (pef_var (i := 0)) (paf_cons (pef_var (i := 1)) (paf_cons (pef_globE t.k_MOST_PEOPLE) paf_nil))) (hm := len_dd (len_cons (len_cons (len_cons len_nil))))))) (pssf_one psf_never) pssf_nil)
      (pssf_one (psf_ret (pef_var (i := 0)))))
theorem g_check_people_0_ (t : Txt K mg T) : Df P w K mg base T "check_people" 3 (spD T 2 F_check_people) [] := Df.mkDD (n := 2) (j := 1) t.d_check_people sc_check_people (p_check_people t (g_is_whole_ t)) (by simp) rfl rfl (fun _ _ _ _ _ _ _ us its hl h2 => match us, hl, its, h2 with | [_, _], _, [_], _ => ⟨_, rfl, rfl⟩)
theorem g_check_people_1_ (t : Txt K mg T) : Df P w K mg base T "check_people" 3 (spD T 2 F_check_people) [.int 1] := Df.mkDD (n := 1) (j := 0) t.d_check_people sc_check_people (p_check_people t (g_is_whole_ t)) (by simp) rfl rfl (fun _ _ _ _ _ _ _ us its hl h2 => match us, hl, its, h2 with | [_], _, [_], _ => ⟨_, rfl, rfl⟩)
theorem p_check_lost (t : Txt K mg T)  : Body P w K mg base T "check_lost" s_check_lost ["lost"] 2 f_check_lost := fun f cdv A outer s H E hr => by
  delta f_check_lost
  exact (pssf_cons (psf_if (PWf.pt (pwf_or (ptf_tru (pef_isi (t.z_isinstance) (pef_var (i := 0)) (pe_tyN (t.z_bool)))) (pwf_or (ptf_not (ptf_tru (pef_isi (t.z_isinstance) (pef_var (i := 0)) (pe_tyN (t.z_int))))) (pwf_or (ptf_cp c_lt (pef_var (i := 0)) pef_int) (pwf_or1 (ptf_cp c_gt (pef_var (i := 0)) pef_int)))))) (pssf_one psf_never) pssf_nil)
      (pssf_one (psf_ret (pef_var (i := 0)))))
theorem g_check_lost_ (t : Txt K mg T) : Df P w K mg base T "check_lost" 3 (spD T 1 F_check_lost) [] := Df.mkD t.d_check_lost sc_check_lost (p_check_lost t ) (fun _ _ _ _ _ _ us hl => match us, hl with | [_], _ => rfl)
theorem p_covers_of (t : Txt K mg T)  : Body P w K mg base T "covers_of" s_covers_of ["coins", "lost", "sums", "coin", "place"] 0 f_covers_of := fun f cdv A outer s H E hr => by
  delta f_covers_of
  exact (pssf_cons (psf_setO (i := 2) sc_covers_of.nd (peo_lst (paf_cons pef_int paf_nil)))
      (pssf_cons (psf_for PassesOwn.never rfl (pif_seq (pef_var (i := 0))) (pgf_name (i := 3) sc_covers_of.nd) (pssf_one (psf_app (i := 2) (pef_add (pef_lend 2 (pef_ix (pef_var (i := 2)) (pef_neg pef_int))) (pef_var (i := 3))))))
      (pssf_one (psf_ret (pef_frz (peo_lc (own := [("place", 4)]) rfl sc_covers_of.nd (blkOk_by (own := [("place", 4)]) (N := ["coins", "lost", "sums", "coin", "place"]) (sc := defScope s_covers_of) (by decide +kernel)) (pif_range1 (t.z_range) (paf_cons (pef_bf b_len (t.z_len) (paf_cons (pef_var (i := 0)) paf_nil)) paf_nil)) (fun _ _ _ _ _ => (pgf_name (i := 4) sc_covers_of.nd)) (fun _ _ _ _ _ => ptsf_nil) (fun _ _ _ _ _ => (pef_lend 2 (pef_ix (pef_var (i := 2)) (pef_bf b_max2 (t.z_max) (paf_cons pef_int (paf_cons (pef_sub (pef_var (i := 4)) (pef_var (i := 1))) paf_nil))))))))))))
theorem g_covers_of_ (t : Txt K mg T) : Df P w K mg base T "covers_of" 1 (spD T 2 F_covers_of) [] := Df.mkD t.d_covers_of sc_covers_of (p_covers_of t ) (fun _ _ _ _ _ _ us hl => match us, hl with | [_, _], _ => rfl)
theorem p_first_fallen (t : Txt K mg T) (g_covers_of : Df P w K mg base T "covers_of" 1 (spD T 2 F_covers_of) []) : Body P w K mg base T "first_fallen" s_first_fallen ["coins", "people", "lost", "covers", "place", "coin"] 1 f_first_fallen := fun f cdv A outer s H E hr => by
  delta f_first_fallen
  exact (pssf_cons (psf_if (ptf_cp (c_eq hr) (pef_var (i := 1)) pef_int) (pssf_one (psf_ret pef_non)) pssf_nil)
      (pssf_cons (psf_set (i := 3) sc_first_fallen.nd (pef_call [] (g_covers_of.cal hr) (paf_cons (pef_var (i := 0)) (paf_cons (pef_var (i := 2)) paf_nil)) (hm := len_dd (len_cons (len_cons len_nil)))))
      (pssf_cons (psf_for PassesOwn.never rfl (pif_enum (t.z_enumerate) (paf_cons (pef_var (i := 0)) paf_nil)) (pgf_tup rfl (pgsf_cons (pgf_name (i := 4) sc_first_fallen.nd) (pgsf_cons (pgf_name (i := 5) sc_first_fallen.nd) pgsf_nil))) (pssf_one (psf_if (ptf_cp c_gt (pef_var (i := 5)) (pef_add (pef_div (pef_ix (pef_var (i := 3)) (pef_var (i := 4))) (pef_sub (pef_var (i := 1)) pef_int)) pef_int)) (pssf_one (psf_ret (pef_var (i := 4)))) pssf_nil)))
      (pssf_one (psf_ret pef_non)))))
theorem g_first_fallen_ (t : Txt K mg T) : Df P w K mg base T "first_fallen" 2 (spD T 3 F_first_fallen) [] := Df.mkD t.d_first_fallen sc_first_fallen (p_first_fallen t (g_covers_of_ t)) (fun _ _ _ _ _ _ us hl => match us, hl with | [_, _, _], _ => rfl)
theorem p_running_sums (t : Txt K mg T)  : Body P w K mg base T "running_sums" s_running_sums ["coins", "sums", "total", "coin"] 0 f_running_sums := fun f cdv A outer s H E hr => by
  delta f_running_sums
  exact (pssf_cons (psf_setO (i := 1) sc_running_sums.nd (peo_lst paf_nil))
      (pssf_cons (psf_set (i := 2) sc_running_sums.nd pef_int)
      (pssf_cons (psf_for PassesOwn.never rfl (pif_seq (pef_var (i := 0))) (pgf_name (i := 3) sc_running_sums.nd) (pssf_cons (psf_aug (i := 2) sc_running_sums.nd ip_addI (pef_var (i := 3)))
      (pssf_one (psf_app (i := 1) (pef_var (i := 2))))))
      (pssf_one (psf_ret (pef_lend 1 (pef_bt b_tuple (t.z_tuple) (paf_cons (pef_var (i := 1)) paf_nil))))))))
theorem g_running_sums_ (t : Txt K mg T) : Df P w K mg base T "running_sums" 1 (spD T 1 F_running_sums) [] := Df.mkD t.d_running_sums sc_running_sums (p_running_sums t ) (fun _ _ _ _ _ _ us hl => match us, hl with | [_], _ => rfl)
theorem p_parted_up (t : Txt K mg T)  : Body P w K mg base T "parted_up" s_parted_up ["amount", "people"] 0 f_parted_up := fun f cdv A outer s H E hr => by
  delta f_parted_up
  exact (pssf_one (psf_ret (pef_neg (pef_div (pef_neg (pef_var (i := 0))) (pef_var (i := 1))))))
theorem g_parted_up_ (t : Txt K mg T) : Df P w K mg base T "parted_up" 1 (spD T 2 F_parted_up) [] := Df.mkD t.d_parted_up sc_parted_up (p_parted_up t ) (fun _ _ _ _ _ _ us hl => match us, hl with | [_, _], _ => rfl)
theorem p_failing_places (t : Txt K mg T) (g_check_pool : Df P w K mg base T "check_pool" 3 (spD T 1 F_check_pool) []) (g_check_people_0 : Df P w K mg base T "check_people" 3 (spD T 2 F_check_people) []) (g_check_people_1 : Df P w K mg base T "check_people" 3 (spD T 2 F_check_people) [.int 1]) (g_running_sums : Df P w K mg base T "running_sums" 1 (spD T 1 F_running_sums) []) (g_parted_up : Df P w K mg base T "parted_up" 1 (spD T 2 F_parted_up) []) : Body P w K mg base T "failing_places" s_failing_places ["pool", "people", "coins", "sums", "place", "coin"] 3 f_failing_places := fun f cdv A outer s H E hr => by
  delta f_failing_places
  exact (pssf_cons (psf_set (i := 2) sc_failing_places.nd (pef_call [] (g_check_pool.cal hr) (paf_cons (pef_var (i := 0)) paf_nil) (hm := len_dd (len_cons len_nil))))
      (pssf_cons (psf_expr (pef_call [.int 1] (g_check_people_1.cal hr) (paf_cons (pef_var (i := 1)) paf_nil) (hm := len_dd (len_cons len_nil)) (hdd := fun _ => .cons (.int _) (.nil))))
      (pssf_cons (psf_set (i := 3) sc_failing_places.nd (pef_call [] (g_running_sums.cal hr) (paf_cons (pef_var (i := 2)) paf_nil) (hm := len_dd (len_cons len_nil))))
      (pssf_one (psf_ret (pef_bt b_tuple (t.z_tuple) (paf_cons (pef_frz (peo_lc (own := [("place", 4), ("coin", 5)]) rfl sc_failing_places.nd (blkOk_by (own := [("place", 4), ("coin", 5)]) (N := ["pool", "people", "coins", "sums", "place", "coin"]) (sc := defScope s_failing_places) (by decide +kernel)) (pif_enum (t.z_enumerate) (paf_cons (pef_var (i := 2)) paf_nil)) (fun _ _ _ _ _ => (pgf_tup rfl (pgsf_cons (pgf_name (i := 4) sc_failing_places.nd) (pgsf_cons (pgf_name (i := 5) sc_failing_places.nd) pgsf_nil)))) (fun _ _ _ _ _ => (ptsf_one (ptf_cp c_gt (pef_var (i := 5)) (pef_call [] (g_parted_up.cal hr) (paf_cons (pef_ix (pef_var (i := 3)) (pef_var (i := 4))) (paf_cons (pef_var (i := 1)) paf_nil)) (hm := len_dd (len_cons (len_cons len_nil))))))) (fun _ _ _ _ _ => (pef_var (i := 4))))) paf_nil)))))))
theorem g_failing_places_ (t : Txt K mg T) : Df P w K mg base T "failing_places" 4 (spD T 2 F_failing_places) [] := Df.mkD t.d_failing_places sc_failing_places (p_failing_places t (g_check_pool_ t) (g_check_people_0_ t) (g_check_people_1_ t) (g_running_sums_ t) (g_parted_up_ t)) (fun _ _ _ _ _ _ us hl => match us, hl with | [_, _], _ => rfl)
theorem p_parted_evenly (t : Txt K mg T)  : Body P w K mg base T "parted_evenly" s_parted_evenly ["amount", "people", "each", "more", "person"] 0 f_parted_evenly := fun f cdv A outer s H E hr => by
  delta f_parted_evenly
  exact (pssf_cons (psf_tgt (pef_bf b_divmod (t.z_divmod) (paf_cons (pef_var (i := 0)) (paf_cons (pef_var (i := 1)) paf_nil))) (pgf_tup rfl (pgsf_cons (pgf_name (i := 2) sc_parted_evenly.nd) (pgsf_cons (pgf_name (i := 3) sc_parted_evenly.nd) pgsf_nil))))
      (pssf_one (psf_ret (pef_bt b_tuple (t.z_tuple) (paf_cons (pef_frz (peo_lc (own := [("person", 4)]) rfl sc_parted_evenly.nd (blkOk_by (own := [("person", 4)]) (N := ["amount", "people", "each", "more", "person"]) (sc := defScope s_parted_evenly) (by decide +kernel)) (pif_range1 (t.z_range) (paf_cons (pef_var (i := 1)) paf_nil)) (fun _ _ _ _ _ => (pgf_name (i := 4) sc_parted_evenly.nd)) (fun _ _ _ _ _ => ptsf_nil) (fun _ _ _ _ _ => (pef_if (ptf_cp c_lt (pef_var (i := 4)) (pef_var (i := 3))) (pef_add (pef_var (i := 2)) pef_int) (pef_var (i := 2)))))) paf_nil)))))
theorem g_parted_evenly_ (t : Txt K mg T) : Df P w K mg base T "parted_evenly" 1 (spD T 2 F_parted_evenly) [] := Df.mkD t.d_parted_evenly sc_parted_evenly (p_parted_evenly t ) (fun _ _ _ _ _ _ us hl => match us, hl with | [_, _], _ => rfl)
theorem p_serves (t : Txt K mg T) (g_check_pool : Df P w K mg base T "check_pool" 3 (spD T 1 F_check_pool) []) (g_failing_places : Df P w K mg base T "failing_places" 4 (spD T 2 F_failing_places) []) (g_parted_up : Df P w K mg base T "parted_up" 1 (spD T 2 F_parted_up) []) (g_parted_evenly : Df P w K mg base T "parted_evenly" 1 (spD T 2 F_parted_evenly) []) : Body P w K mg base T "serves" s_serves ["pool", "people", "coins", "failing", "place", "total", "first", "wish"] 4 f_serves := fun f cdv A outer s H E hr => by
  delta f_serves
  exact (pssf_cons (psf_set (i := 2) sc_serves.nd (pef_call [] (g_check_pool.cal hr) (paf_cons (pef_var (i := 0)) paf_nil) (hm := len_dd (len_cons len_nil))))
      (pssf_cons (psf_set (i := 3) sc_serves.nd (pef_call [] (g_failing_places.cal hr) (paf_cons (pef_var (i := 2)) (paf_cons (pef_var (i := 1)) paf_nil)) (hm := len_dd (len_cons (len_cons len_nil)))))
      (pssf_cons (psf_if (ptf_not (ptf_tru (pef_var (i := 3)))) (pssf_one (psf_ret pef_non)) pssf_nil)
      (pssf_cons (psf_set (i := 4) sc_serves.nd (pef_ix (pef_var (i := 3)) pef_int))
      (pssf_cons (psf_set (i := 5) sc_serves.nd (pef_bf b_sum (t.z_sum) (paf_cons (pef_cutT (pef_var (i := 2)) pof_none (pof_some (pef_add (pef_var (i := 4)) pef_int))) paf_nil)))
      (pssf_cons (psf_set (i := 6) sc_serves.nd (pef_call [] (g_parted_up.cal hr) (paf_cons (pef_var (i := 5)) (paf_cons (pef_var (i := 1)) paf_nil)) (hm := len_dd (len_cons (len_cons len_nil)))))
      (pssf_cons (psf_set (i := 7) sc_serves.nd (pef_add (pef_tup (paf_cons (pef_add (pef_var (i := 6)) (pef_bf b_sum (t.z_sum) (paf_cons (pef_cutT (pef_var (i := 2)) (pof_some (pef_add (pef_var (i := 4)) pef_int)) pof_none) paf_nil))) paf_nil)) (pef_call [] (g_parted_evenly.cal hr) (paf_cons (pef_sub (pef_var (i := 5)) (pef_var (i := 6))) (paf_cons (pef_sub (pef_var (i := 1)) pef_int) paf_nil)) (hm := len_dd (len_cons (len_cons len_nil))))))
      (pssf_one (psf_ret (pef_make (t.c_Unserved.mk i_Unserved hr) (paf_cons (pef_var (i := 4)) (paf_cons (pef_var (i := 7)) paf_nil))))))))))))
theorem g_serves_ (t : Txt K mg T) : Df P w K mg base T "serves" 5 (spD T 2 F_serves) [] := Df.mkD t.d_serves sc_serves (p_serves t (g_check_pool_ t) (g_failing_places_ t) (g_parted_up_ t) (g_parted_evenly_ t)) (fun _ _ _ _ _ _ us hl => match us, hl with | [_, _], _ => rfl)
theorem p_serves_after (t : Txt K mg T) (g_check_pool : Df P w K mg base T "check_pool" 3 (spD T 1 F_check_pool) []) (g_check_people_0 : Df P w K mg base T "check_people" 3 (spD T 2 F_check_people) []) (g_check_people_1 : Df P w K mg base T "check_people" 3 (spD T 2 F_check_people) [.int 1]) (g_check_lost : Df P w K mg base T "check_lost" 3 (spD T 1 F_check_lost) []) (g_first_fallen : Df P w K mg base T "first_fallen" 2 (spD T 3 F_first_fallen) []) (g_serves : Df P w K mg base T "serves" 5 (spD T 2 F_serves) []) : Body P w K mg base T "serves_after" s_serves_after ["pool", "people", "lost", "coins", "place", "first", "unserved"] 5 f_serves_after := fun f cdv A outer s H E hr => by
  delta f_serves_after
  exact (pssf_cons (psf_set (i := 3) sc_serves_after.nd (pef_call [] (g_check_pool.cal hr) (paf_cons (pef_var (i := 0)) paf_nil) (hm := len_dd (len_cons len_nil))))
      (pssf_cons (psf_expr (pef_call [.int 1] (g_check_people_1.cal hr) (paf_cons (pef_var (i := 1)) paf_nil) (hm := len_dd (len_cons len_nil)) (hdd := fun _ => .cons (.int _) (.nil))))
      (pssf_cons (psf_expr (pef_call [] (g_check_lost.cal hr) (paf_cons (pef_var (i := 2)) paf_nil) (hm := len_dd (len_cons len_nil))))
      (pssf_cons (psf_set (i := 4) sc_serves_after.nd (pef_call [] (g_first_fallen.cal hr) (paf_cons (pef_var (i := 3)) (paf_cons (pef_var (i := 1)) (paf_cons (pef_var (i := 2)) paf_nil))) (hm := len_dd (len_cons (len_cons (len_cons len_nil))))))
      (pssf_cons (psf_if (ptf_cp c_is (pef_var (i := 4)) pef_non) (pssf_one (psf_ret pef_non)) pssf_nil)
      (pssf_cons (psf_set (i := 5) sc_serves_after.nd (pef_bf b_max2 (t.z_max) (paf_cons pef_int (paf_cons (pef_sub (pef_var (i := 4)) (pef_var (i := 2))) paf_nil))))
      (pssf_cons (psf_set (i := 6) sc_serves_after.nd (pef_call [] (g_serves.cal hr) (paf_cons (pef_add (pef_cutT (pef_var (i := 3)) pof_none (pof_some (pef_var (i := 5)))) (pef_cutT (pef_var (i := 3)) (pof_some (pef_var (i := 4))) pof_none)) (paf_cons (pef_var (i := 1)) paf_nil)) (hm := len_dd (len_cons (len_cons len_nil)))))
      (pssf_one (psf_ret (pef_make (t.c_Fallen.mk i_Fallen hr) (paf_cons (pef_cutT (pef_var (i := 3)) (pof_some (pef_var (i := 5))) (pof_some (pef_var (i := 4)))) (paf_cons (pef_ix (pef_var (i := 3)) (pef_var (i := 4))) (paf_cons (pef_fld (t.c_Unserved.fld (i := 1) rfl) (pef_var (i := 6))) paf_nil)))))))))))))
theorem g_serves_after_ (t : Txt K mg T) : Df P w K mg base T "serves_after" 6 (spD T 3 F_serves_after) [] := Df.mkD t.d_serves_after sc_serves_after (p_serves_after t (g_check_pool_ t) (g_check_people_0_ t) (g_check_people_1_ t) (g_check_lost_ t) (g_first_fallen_ t) (g_serves_ t)) (fun _ _ _ _ _ _ us hl => match us, hl with | [_, _, _], _ => rfl)
theorem p_most_lost (t : Txt K mg T) (g_check_pool : Df P w K mg base T "check_pool" 3 (spD T 1 F_check_pool) []) (g_check_people_0 : Df P w K mg base T "check_people" 3 (spD T 2 F_check_people) []) (g_check_people_1 : Df P w K mg base T "check_people" 3 (spD T 2 F_check_people) [.int 1]) (g_first_fallen : Df P w K mg base T "first_fallen" 2 (spD T 3 F_first_fallen) []) : Body P w K mg base T "most_lost" s_most_lost ["pool", "people", "coins", "borne", "lost"] 3 f_most_lost := fun f cdv A outer s H E hr => by
  delta f_most_lost
  exact (pssf_cons (psf_set (i := 2) sc_most_lost.nd (pef_call [] (g_check_pool.cal hr) (paf_cons (pef_var (i := 0)) paf_nil) (hm := len_dd (len_cons len_nil))))
      (pssf_cons (psf_expr (pef_call [.int 1] (g_check_people_1.cal hr) (paf_cons (pef_var (i := 1)) paf_nil) (hm := len_dd (len_cons len_nil)) (hdd := fun _ => .cons (.int _) (.nil))))
      (pssf_cons (psf_if (PWf.pt (pwf_or (ptf_cp (c_eq hr) (pef_var (i := 1)) pef_int) (pwf_or (ptf_cp (c_eq hr) (pef_bf b_len (t.z_len) (paf_cons (pef_var (i := 2)) paf_nil)) pef_int) (pwf_or1 (ptf_cp (c_eq hr) (pef_ix (pef_var (i := 2)) (pef_neg pef_int)) pef_int))))) (pssf_one (psf_ret pef_non)) pssf_nil)
      (pssf_cons (psf_set (i := 3) sc_most_lost.nd (pef_neg pef_int))
      (pssf_cons (psf_for PassesOwn.never rfl (pif_range1 (t.z_range) (paf_cons (pef_bf b_len (t.z_len) (paf_cons (pef_var (i := 2)) paf_nil)) paf_nil)) (pgf_name (i := 4) sc_most_lost.nd) (pssf_one (psf_if (ptf_cp c_is (pef_call [] (g_first_fallen.cal hr) (paf_cons (pef_var (i := 2)) (paf_cons (pef_var (i := 1)) (paf_cons (pef_var (i := 4)) paf_nil))) (hm := len_dd (len_cons (len_cons (len_cons len_nil))))) pef_non) (pssf_one (psf_set (i := 3) sc_most_lost.nd (pef_var (i := 4)))) pssf_nil)))
      (pssf_one (psf_ret (pef_var (i := 3)))))))))
theorem g_most_lost_ (t : Txt K mg T) : Df P w K mg base T "most_lost" 4 (spD T 2 F_most_lost) [] := Df.mkD t.d_most_lost sc_most_lost (p_most_lost t (g_check_pool_ t) (g_check_people_0_ t) (g_check_people_1_ t) (g_first_fallen_ t)) (fun _ _ _ _ _ _ us hl => match us, hl with | [_, _], _ => rfl)
theorem p_rest_of (t : Txt K mg T)  : Body P w K mg base T "rest_of" s_rest_of ["coins", "lot", "rest", "coin"] 0 f_rest_of := fun f cdv A outer s H E hr => by
  delta f_rest_of
  exact (pssf_cons (psf_setO (i := 2) sc_rest_of.nd (peo_bt b_list (t.z_list) (paf_cons (pef_var (i := 0)) paf_nil)))
      (pssf_cons (psf_for PassesOwn.never rfl (pif_seq (pef_var (i := 1))) (pgf_name (i := 3) sc_rest_of.nd) (pssf_one (psf_rem (i := 2) (pef_var (i := 3)))))
      (pssf_one (psf_ret (pef_lend 2 (pef_bt b_tuple (t.z_tuple) (paf_cons (pef_var (i := 2)) paf_nil)))))))
theorem g_rest_of_ (t : Txt K mg T) : Df P w K mg base T "rest_of" 1 (spD T 2 F_rest_of) [] := Df.mkD t.d_rest_of sc_rest_of (p_rest_of t ) (fun _ _ _ _ _ _ us hl => match us, hl with | [_, _], _ => rfl)
theorem p_check_poolF (t : Txt K mg T) (g_is_sequence : Df P w K mg base T "is_sequence" 1 (spD T 3 F_is_sequence) []) (g_is_whole : Df P w K mg base T "is_whole" 1 (spD T 3 F_is_whole) []) : Body P w K mg base T "check_pool" s_check_pool ["coins", "at", "coin"] 2 f_check_poolF := fun f cdv A outer s H E hr => by
  delta f_check_poolF
  exact (pssf_cons (psf_if (ptf_not (ptf_tru (pef_call [] (g_is_sequence.cal hr) (paf_cons (pef_var (i := 0)) (paf_cons pef_int (paf_cons (pef_globE t.k_MOST_COINS) paf_nil))) (hm := len_dd (len_cons (len_cons (len_cons len_nil))))))) (pssf_one psf_never) pssf_nil)
      (pssf_cons (psf_for PassesOwn.never rfl (pif_enum (t.z_enumerate) (paf_cons (pef_var (i := 0)) paf_nil)) (pgf_tup rfl (pgsf_cons (pgf_name (i := 1) sc_check_pool.nd) (pgsf_cons (pgf_name (i := 2) sc_check_pool.nd) pgsf_nil))) (pssf_one (psf_if (ptf_not (ptf_tru (pef_call [] (g_is_whole.cal hr) (paf_cons (pef_var (i := 2)) (paf_cons pef_int (paf_cons (pef_globE t.k_MOST_WORTH) paf_nil))) (hm := len_dd (len_cons (len_cons (len_cons len_nil))))))) (pssf_one psf_never) pssf_nil)))
      (pssf_one (psf_ret (pef_bt b_tupF (t.z_tuple) (paf_cons (pef_frz (peo_bf (b_sorted hr) (t.z_sorted) (paf_cons (pef_var (i := 0)) paf_nil))) paf_nil))))))
theorem g_check_poolF_ (t : Txt K mg T) : Df P w K mg base T "check_pool" 3 (spD T 1 F_check_poolF) [] := Df.mkD t.d_check_pool sc_check_pool (p_check_poolF t (g_is_sequence_ t) (g_is_whole_ t)) (fun _ _ _ _ _ _ us hl => match us, hl with | [_], _ => rfl)
theorem p_has_lot (t : Txt K mg T) (g_check_poolF : Df P w K mg base T "check_pool" 3 (spD T 1 F_check_poolF) []) : Body P w K mg base T "has_lot" s_has_lot ["pool", "lot", "coins", "wanted", "coin"] 3 f_has_lot := fun f cdv A outer s H E hr => by
  delta f_has_lot
  exact (pssf_cons (psf_set (i := 2) sc_has_lot.nd (pef_call [] (g_check_poolF.cal hr) (paf_cons (pef_var (i := 0)) paf_nil) (hm := len_dd (len_cons len_nil))))
      (pssf_cons (psf_set (i := 3) sc_has_lot.nd (pef_call [] (g_check_poolF.cal hr) (paf_cons (pef_var (i := 1)) paf_nil) (hm := len_dd (len_cons len_nil))))
      (pssf_one (psf_ret (pef_bf b_all (t.z_all) (paf_cons (pef_frz (peo_lc (own := [("coin", 4)]) rfl sc_has_lot.nd (blkOk_by (own := [("coin", 4)]) (N := ["pool", "lot", "coins", "wanted", "coin"]) (sc := defScope s_has_lot) (by decide +kernel)) (pif_seq (pef_var (i := 3))) (fun _ _ _ _ _ => (pgf_name (i := 4) sc_has_lot.nd)) (fun _ _ _ _ _ => ptsf_nil) (fun _ _ _ _ _ => (pef_cp c_le (pef_tcount hr (pef_var (i := 3)) (pef_var (i := 4))) (pef_tcount hr (pef_var (i := 2)) (pef_var (i := 4))))))) paf_nil))))))
theorem g_has_lot_ (t : Txt K mg T) : Df P w K mg base T "has_lot" 4 (spD T 2 F_has_lot) [] := Df.mkD t.d_has_lot sc_has_lot (p_has_lot t (g_check_poolF_ t)) (fun _ _ _ _ _ _ us hl => match us, hl with | [_, _], _ => rfl)
theorem p_less_lot (t : Txt K mg T) (g_has_lot : Df P w K mg base T "has_lot" 4 (spD T 2 F_has_lot) []) (g_rest_of : Df P w K mg base T "rest_of" 1 (spD T 2 F_rest_of) []) (g_check_pool : Df P w K mg base T "check_pool" 3 (spD T 1 F_check_pool) []) : Body P w K mg base T "less_lot" s_less_lot ["pool", "lot"] 4 f_less_lot := fun f cdv A outer s H E hr => by
  delta f_less_lot
  exact (pssf_cons (psf_if (ptf_not (ptf_tru (pef_call [] (g_has_lot.cal hr) (paf_cons (pef_var (i := 0)) (paf_cons (pef_var (i := 1)) paf_nil)) (hm := len_dd (len_cons (len_cons len_nil)))))) (pssf_one psf_never) pssf_nil)
      (pssf_one (psf_ret (pef_call [] (g_rest_of.cal hr) (paf_cons (pef_call [] (g_check_pool.cal hr) (paf_cons (pef_var (i := 0)) paf_nil) (hm := len_dd (len_cons len_nil))) (paf_cons (pef_var (i := 1)) paf_nil)) (hm := len_dd (len_cons (len_cons len_nil)))))))
theorem g_less_lot_ (t : Txt K mg T) : Df P w K mg base T "less_lot" 5 (spD T 2 F_less_lot) [] := Df.mkD t.d_less_lot sc_less_lot (p_less_lot t (g_has_lot_ t) (g_rest_of_ t) (g_check_pool_ t)) (fun _ _ _ _ _ _ us hl => match us, hl with | [_, _], _ => rfl)
theorem p_checked_amounts (t : Txt K mg T) (g_is_sequence : Df P w K mg base T "is_sequence" 1 (spD T 3 F_is_sequence) []) (g_is_whole : Df P w K mg base T "is_whole" 1 (spD T 3 F_is_whole) []) : Body P w K mg base T "checked_amounts" s_checked_amounts ["wish", "place", "amount"] 2 f_checked_amounts := fun f cdv A outer s H E hr => by
  delta f_checked_amounts
  exact (pssf_cons (psf_if (ptf_not (ptf_tru (pef_call [] (g_is_sequence.cal hr) (paf_cons (pef_var (i := 0)) (paf_cons pef_int (paf_cons (pef_globE t.k_MOST_PEOPLE) paf_nil))) (hm := len_dd (len_cons (len_cons (len_cons len_nil))))))) (pssf_one psf_never) pssf_nil)
      (pssf_cons (psf_for PassesOwn.never rfl (pif_enum (t.z_enumerate) (paf_cons (pef_var (i := 0)) paf_nil)) (pgf_tup rfl (pgsf_cons (pgf_name (i := 1) sc_checked_amounts.nd) (pgsf_cons (pgf_name (i := 2) sc_checked_amounts.nd) pgsf_nil))) (pssf_one (psf_if (ptf_not (ptf_tru (pef_call [] (g_is_whole.cal hr) (paf_cons (pef_var (i := 2)) (paf_cons pef_int (paf_cons (pef_globE t.k_MOST_AMOUNT) paf_nil))) (hm := len_dd (len_cons (len_cons (len_cons len_nil))))))) (pssf_one psf_never) pssf_nil)))
      (pssf_one (psf_ret (pef_bt b_tuple (t.z_tuple) (paf_cons (pef_var (i := 0)) paf_nil))))))
theorem g_checked_amounts_ (t : Txt K mg T) : Df P w K mg base T "checked_amounts" 3 (spD T 1 F_checked_amounts) [] := Df.mkD t.d_checked_amounts sc_checked_amounts (p_checked_amounts t (g_is_sequence_ t) (g_is_whole_ t)) (fun _ _ _ _ _ _ us hl => match us, hl with | [_], _ => rfl)
theorem p_check_wish (t : Txt K mg T) (g_checked_amounts : Df P w K mg base T "checked_amounts" 3 (spD T 1 F_checked_amounts) []) : Body P w K mg base T "check_wish" s_check_wish ["wish", "total", "amounts"] 3 f_check_wish := fun f cdv A outer s H E hr => by
  delta f_check_wish
  exact (pssf_cons (psf_set (i := 2) sc_check_wish.nd (pef_call [] (g_checked_amounts.cal hr) (paf_cons (pef_var (i := 0)) paf_nil) (hm := len_dd (len_cons len_nil))))
      (pssf_cons (psf_if (ptf_cp (c_ne hr) (pef_bf b_sum (t.z_sum) (paf_cons (pef_var (i := 2)) paf_nil)) (pef_var (i := 1))) (pssf_one psf_never) pssf_nil)
      (pssf_one (psf_ret (pef_var (i := 2))))))
theorem g_check_wish_ (t : Txt K mg T) : Df P w K mg base T "check_wish" 4 (spD T 2 F_check_wish) [] := Df.mkD t.d_check_wish sc_check_wish (p_check_wish t (g_checked_amounts_ t)) (fun _ _ _ _ _ _ us hl => match us, hl with | [_, _], _ => rfl)
theorem p_checked_couple (t : Txt K mg T) (g_check_pool : Df P w K mg base T "check_pool" 3 (spD T 1 F_check_pool) []) (g_check_wish : Df P w K mg base T "check_wish" 4 (spD T 2 F_check_wish) []) : Body P w K mg base T "checked_couple" s_checked_couple ["pool", "wish", "coins"] 4 f_checked_couple := fun f cdv A outer s H E hr => by
  delta f_checked_couple
  exact (pssf_cons (psf_set (i := 2) sc_checked_couple.nd (pef_call [] (g_check_pool.cal hr) (paf_cons (pef_var (i := 0)) paf_nil) (hm := len_dd (len_cons len_nil))))
      (pssf_one (psf_ret (pef_tup (paf_cons (pef_var (i := 2)) (paf_cons (pef_call [] (g_check_wish.cal hr) (paf_cons (pef_var (i := 1)) (paf_cons (pef_bf b_sum (t.z_sum) (paf_cons (pef_var (i := 2)) paf_nil)) paf_nil)) (hm := len_dd (len_cons (len_cons len_nil)))) paf_nil))))))
theorem g_checked_couple_ (t : Txt K mg T) : Df P w K mg base T "checked_couple" 5 (spD T 2 F_checked_couple) [] := Df.mkD t.d_checked_couple sc_checked_couple (p_checked_couple t (g_check_pool_ t) (g_check_wish_ t)) (fun _ _ _ _ _ _ us hl => match us, hl with | [_, _], _ => rfl)
theorem p_put_sorted (t : Txt K mg T)  : Body P w K mg base T "put_sorted" s_put_sorted ["entry", "place", "worth"] 0 f_put_sorted := fun f cdv A outer s H E hr => by
  delta f_put_sorted
  exact (pssf_one (psf_ret (pef_bt b_tuple (t.z_tuple) (paf_cons (pef_frz (peo_bf (b_sorted hr) (t.z_sorted) (paf_cons (pef_add (pef_add (pef_cutT (pef_var (i := 0)) pof_none (pof_some (pef_var (i := 1)))) (pef_tup (paf_cons (pef_var (i := 2)) paf_nil))) (pef_cutT (pef_var (i := 0)) (pof_some (pef_add (pef_var (i := 1)) pef_int)) pof_none)) paf_nil))) paf_nil))))
theorem g_put_sorted_ (t : Txt K mg T) : Df P w K mg base T "put_sorted" 1 (spD T 3 F_put_sorted) [] := Df.mkD t.d_put_sorted sc_put_sorted (p_put_sorted t ) (fun _ _ _ _ _ _ us hl => match us, hl with | [_, _, _], _ => rfl)
theorem p_next_entries (t : Txt K mg T) (g_put_sorted : Df P w K mg base T "put_sorted" 1 (spD T 3 F_put_sorted) []) : Body P w K mg base T "next_entries" s_next_entries ["layer", "coin", "found", "entry", "place", "lack"] 1 f_next_entries := fun f cdv A outer s H E hr => by
  delta f_next_entries
  exact (pssf_cons (psf_setO (i := 2) sc_next_entries.nd peo_dictT)
      (pssf_cons (psf_for PassesOwn.never rfl (pif_seq (pef_var (i := 0))) (pgf_name (i := 3) sc_next_entries.nd) (pssf_one (psf_for PassesOwn.never rfl (pif_enum (t.z_enumerate) (paf_cons (pef_var (i := 3)) paf_nil)) (pgf_tup rfl (pgsf_cons (pgf_name (i := 4) sc_next_entries.nd) (pgsf_cons (pgf_name (i := 5) sc_next_entries.nd) pgsf_nil))) (pssf_one (psf_if (ptf_cp c_ge (pef_var (i := 5)) (pef_var (i := 1))) (pssf_one (psf_putT (i := 2) (hu_of hr) (pef_call [] (g_put_sorted.cal hr) (paf_cons (pef_var (i := 3)) (paf_cons (pef_var (i := 4)) (paf_cons (pef_sub (pef_var (i := 5)) (pef_var (i := 1))) paf_nil))) (hm := len_dd (len_cons (len_cons (len_cons len_nil))))) pef_bl)) pssf_nil)))))
      (pssf_one (psf_ret (pef_bt b_tuple (t.z_tuple) (paf_cons (pef_frz (peo_bf (b_sorted hr) (t.z_sorted) (paf_cons (pef_frz (peo_keysT (i := 2) rfl rfl (t.z_list))) paf_nil))) paf_nil))))))
theorem g_next_entries_ (t : Txt K mg T) : Df P w K mg base T "next_entries" 2 (spD T 2 F_next_entries) [] := Df.mkD t.d_next_entries sc_next_entries (p_next_entries t (g_put_sorted_ t)) (fun _ _ _ _ _ _ us hl => match us, hl with | [_, _], _ => rfl)
theorem p_layers_of (t : Txt K mg T) (g_checked_couple : Df P w K mg base T "checked_couple" 5 (spD T 2 F_checked_couple) []) (g_next_entries : Df P w K mg base T "next_entries" 2 (spD T 2 F_next_entries) []) : Body P w K mg base T "layers_of" s_layers_of ["pool", "wish", "coins", "amounts", "layers", "coin", "layer"] 5 f_layers_of := fun f cdv A outer s H E hr => by
  delta f_layers_of
  exact (pssf_cons (psf_tgt (pef_call [] (g_checked_couple.cal hr) (paf_cons (pef_var (i := 0)) (paf_cons (pef_var (i := 1)) paf_nil)) (hm := len_dd (len_cons (len_cons len_nil)))) (pgf_tup rfl (pgsf_cons (pgf_name (i := 2) sc_layers_of.nd) (pgsf_cons (pgf_name (i := 3) sc_layers_of.nd) pgsf_nil))))
      (pssf_cons (psf_setO (i := 4) sc_layers_of.nd (peo_lst (paf_cons (pef_tup (paf_cons (pef_bt b_tuple (t.z_tuple) (paf_cons (pef_frz (peo_bf (b_sorted hr) (t.z_sorted) (paf_cons (pef_var (i := 3)) paf_nil))) paf_nil)) paf_nil)) paf_nil)))
      (pssf_cons (psf_for PassesOwn.never rfl (pif_seq (pef_revT (pef_var (i := 2)))) (pgf_name (i := 5) sc_layers_of.nd) (pssf_cons (psf_set (i := 6) sc_layers_of.nd (pef_call [] (g_next_entries.cal hr) (paf_cons (pef_lend 4 (pef_ix (pef_var (i := 4)) (pef_neg pef_int))) (paf_cons (pef_var (i := 5)) paf_nil)) (hm := len_dd (len_cons (len_cons len_nil)))))
      (pssf_cons (psf_if (ptf_cp c_gt (pef_bf b_len (t.z_len) (paf_cons (pef_var (i := 6)) paf_nil)) (pef_globE t.k_MOST_ENTRIES)) (pssf_one psf_never) pssf_nil)
      (pssf_cons (psf_app (i := 4) (pef_var (i := 6)))
      (pssf_one (psf_if (ptf_not (ptf_tru (pef_var (i := 6)))) (pssf_one (psf_ret (pef_lend 4 (pef_bt b_tuple (t.z_tuple) (paf_cons (pef_var (i := 4)) paf_nil))))) pssf_nil))))))
      (pssf_one (psf_ret (pef_lend 4 (pef_bt b_tuple (t.z_tuple) (paf_cons (pef_var (i := 4)) paf_nil))))))))
theorem g_layers_of_ (t : Txt K mg T) : Df P w K mg base T "layers_of" 6 (spD T 2 F_layers_of) [] := Df.mkD t.d_layers_of sc_layers_of (p_layers_of t (g_checked_couple_ t) (g_next_entries_ t)) (fun _ _ _ _ _ _ us hl => match us, hl with | [_, _], _ => rfl)
theorem p_earlier_entry (t : Txt K mg T) (g_put_sorted : Df P w K mg base T "put_sorted" 1 (spD T 3 F_put_sorted) []) : Body P w K mg base T "earlier_entry" s_earlier_entry ["layer", "entry", "coin", "found", "place", "lack", "earlier"] 1 f_earlier_entry := fun f cdv A outer s H E hr => by
  delta f_earlier_entry
  exact (pssf_cons (psf_setLcF (i := 3) (own := [("place", 4), ("lack", 5)]) rfl sc_earlier_entry.nd (blkOk_by (own := [("place", 4), ("lack", 5)]) (N := ["layer", "entry", "coin", "found", "place", "lack", "earlier"]) (sc := defScope s_earlier_entry) (by decide +kernel)) (pif_enum (t.z_enumerate) (paf_cons (pef_var (i := 1)) paf_nil)) (fun _ _ _ _ _ => (pgf_tup rfl (pgsf_cons (pgf_name (i := 4) sc_earlier_entry.nd) (pgsf_cons (pgf_name (i := 5) sc_earlier_entry.nd) pgsf_nil)))) (fun _ _ _ _ _ => ptsf_nil) (fun _ _ _ _ _ => (pef_call [] (g_put_sorted.cal hr) (paf_cons (pef_var (i := 1)) (paf_cons (pef_var (i := 4)) (paf_cons (pef_add (pef_var (i := 5)) (pef_var (i := 2))) paf_nil))) (hm := len_dd (len_cons (len_cons (len_cons len_nil)))))) (hsw := sw_true rfl rfl rfl (by decide +kernel)))
      (pssf_one (psf_ret (pef_ix (pef_frz (peo_lc (own := [("earlier", 6)]) rfl sc_earlier_entry.nd (blkOk_by (own := [("earlier", 6)]) (N := ["layer", "entry", "coin", "found", "place", "lack", "earlier"]) (sc := defScope s_earlier_entry) (by decide +kernel)) (pif_seq (pef_var (i := 3))) (fun _ _ _ _ _ => (pgf_name (i := 6) sc_earlier_entry.nd)) (fun _ _ _ _ _ => (ptsf_one (ptf_cp (c_in hr) (pef_var (i := 6)) (pef_var (i := 0)) (hm := by rfl)))) (fun _ _ _ _ _ => (pef_var (i := 6))))) pef_int))))
theorem g_earlier_entry_ (t : Txt K mg T) : Df P w K mg base T "earlier_entry" 2 (spD T 3 F_earlier_entry) [] := Df.mkD t.d_earlier_entry sc_earlier_entry (p_earlier_entry t (g_put_sorted_ t)) (fun _ _ _ _ _ _ us hl => match us, hl with | [_, _, _], _ => rfl)
theorem p_chained_entries (t : Txt K mg T) (g_earlier_entry : Df P w K mg base T "earlier_entry" 2 (spD T 3 F_earlier_entry) []) : Body P w K mg base T "chained_entries" s_chained_entries ["coins", "layers", "entry", "chain", "place"] 2 f_chained_entries := fun f cdv A outer s H E hr => by
  delta f_chained_entries
  exact (pssf_cons (psf_set (i := 2) sc_chained_entries.nd (pef_ix (pef_ix (pef_var (i := 1)) (pef_neg pef_int)) pef_int))
      (pssf_cons (psf_setO (i := 3) sc_chained_entries.nd (peo_lst (paf_cons (pef_var (i := 2)) paf_nil)))
      (pssf_cons (psf_for PassesOwn.never rfl (pif_range2 (t.z_range) (paf_cons pef_int (paf_cons (pef_bf b_len (t.z_len) (paf_cons (pef_var (i := 0)) paf_nil)) paf_nil))) (pgf_name (i := 4) sc_chained_entries.nd) (pssf_cons (psf_set (i := 2) sc_chained_entries.nd (pef_call [] (g_earlier_entry.cal hr) (paf_cons (pef_ix (pef_var (i := 1)) (pef_sub (pef_bf b_len (t.z_len) (paf_cons (pef_var (i := 0)) paf_nil)) (pef_var (i := 4)))) (paf_cons (pef_var (i := 2)) (paf_cons (pef_ix (pef_var (i := 0)) (pef_sub (pef_var (i := 4)) pef_int)) paf_nil))) (hm := len_dd (len_cons (len_cons (len_cons len_nil))))))
      (pssf_one (psf_app (i := 3) (pef_var (i := 2))))))
      (pssf_one (psf_ret (pef_frz (peo_lend 3 (peo_revL (pef_var (i := 3))))))))))
theorem g_chained_entries_ (t : Txt K mg T) : Df P w K mg base T "chained_entries" 3 (spD T 2 F_chained_entries) [] := Df.mkD t.d_chained_entries sc_chained_entries (p_chained_entries t (g_earlier_entry_ t)) (fun _ _ _ _ _ _ us hl => match us, hl with | [_, _], _ => rfl)
theorem p_any_split (t : Txt K mg T) (g_checked_couple : Df P w K mg base T "checked_couple" 5 (spD T 2 F_checked_couple) []) (g_layers_of : Df P w K mg base T "layers_of" 6 (spD T 2 F_layers_of) []) (g_chained_entries : Df P w K mg base T "chained_entries" 3 (spD T 2 F_chained_entries) []) (g_put_sorted : Df P w K mg base T "put_sorted" 1 (spD T 3 F_put_sorted) []) : Body P w K mg base T "any_split" s_any_split ["pool", "wish", "coins", "amounts", "layers", "lacks", "given", "amount", "coin", "entry", "person", "purse"] 6 f_any_split := fun f cdv A outer s H E hr => by
  delta f_any_split
  exact (pssf_cons (psf_tgt (pef_call [] (g_checked_couple.cal hr) (paf_cons (pef_var (i := 0)) (paf_cons (pef_var (i := 1)) paf_nil)) (hm := len_dd (len_cons (len_cons len_nil)))) (pgf_tup rfl (pgsf_cons (pgf_name (i := 2) sc_any_split.nd) (pgsf_cons (pgf_name (i := 3) sc_any_split.nd) pgsf_nil))))
      (pssf_cons (psf_set (i := 4) sc_any_split.nd (pef_call [] (g_layers_of.cal hr) (paf_cons (pef_var (i := 2)) (paf_cons (pef_var (i := 3)) paf_nil)) (hm := len_dd (len_cons (len_cons len_nil)))))
      (pssf_cons (psf_if (ptf_not (ptf_tru (pef_ix (pef_var (i := 4)) (pef_neg pef_int)))) (pssf_one (psf_ret (pef_make (t.c_NoSplit.mk i_NoSplit hr) (paf_cons (pef_var (i := 4)) paf_nil)))) pssf_nil)
      (pssf_cons (psf_setO (i := 5) sc_any_split.nd (peo_bt b_list (t.z_list) (paf_cons (pef_var (i := 3)) paf_nil)))
      (pssf_cons (psf_setLc0 (i := 6) (own := [("amount", 7)]) rfl sc_any_split.nd (blkOk_by (own := [("amount", 7)]) (N := ["pool", "wish", "coins", "amounts", "layers", "lacks", "given", "amount", "coin", "entry", "person", "purse"]) (sc := defScope s_any_split) (by decide +kernel)) (pif_seq (pef_var (i := 3))) (fun _ _ _ _ _ => (pgf_name (i := 7) sc_any_split.nd)) (hsw := sw_true rfl rfl rfl (by decide +kernel)))
      (pssf_cons (psf_for PassesOwn.never rfl (pif_zip (t.z_zip) (paf_cons (pef_revT (pef_var (i := 2))) (paf_cons (pef_call [] (g_chained_entries.cal hr) (paf_cons (pef_var (i := 2)) (paf_cons (pef_var (i := 4)) paf_nil)) (hm := len_dd (len_cons (len_cons len_nil)))) paf_nil))) (pgf_tup rfl (pgsf_cons (pgf_name (i := 8) sc_any_split.nd) (pgsf_cons (pgf_name (i := 9) sc_any_split.nd) pgsf_nil))) (pssf_cons (psf_set (i := 10) sc_any_split.nd pef_int)
      (pssf_cons (psf_while 64 PassesOwn.never (PWf.pt (pwf_or (ptf_cp c_lt (pef_lend 5 (pef_ix (pef_var (i := 5)) (pef_var (i := 10)))) (pef_var (i := 8))) (pwf_or1 (ptf_cp (c_ne hr) (pef_call [] (g_put_sorted.cal hr) (paf_cons (pef_lend 5 (pef_bt b_tuple (t.z_tuple) (paf_cons (pef_var (i := 5)) paf_nil))) (paf_cons (pef_var (i := 10)) (paf_cons (pef_sub (pef_lend 5 (pef_ix (pef_var (i := 5)) (pef_var (i := 10)))) (pef_var (i := 8))) paf_nil))) (hm := len_dd (len_cons (len_cons (len_cons len_nil))))) (pef_var (i := 9)))))) (pssf_one (psf_aug (i := 10) sc_any_split.nd ip_addI pef_int)))
      (pssf_cons (psf_augI (i := 5) ip_subI (pef_var (i := 10)) (pef_var (i := 8)))
      (pssf_one (psf_appL (i := 6) (pef_var (i := 10)) (pef_var (i := 8))))))))
      (pssf_one (psf_ret (pef_lend 6 (pef_bt b_tuple (t.z_tuple) (paf_cons (pef_frz (peo_lc (own := [("purse", 11)]) rfl sc_any_split.nd (blkOk_by (own := [("purse", 11)]) (N := ["pool", "wish", "coins", "amounts", "layers", "lacks", "given", "amount", "coin", "entry", "person", "purse"]) (sc := defScope s_any_split) (by decide +kernel)) (pif_seq (pef_var (i := 6))) (fun _ _ _ _ _ => (pgf_name (i := 11) sc_any_split.nd)) (fun _ _ _ _ _ => ptsf_nil) (fun _ _ _ _ _ => (pef_bt b_tuple (t.z_tuple) (paf_cons (pef_frz (peo_revL (pef_var (i := 11)))) paf_nil))))) paf_nil)))))))))))
theorem g_any_split_ (t : Txt K mg T) : Df P w K mg base T "any_split" 7 (spD T 2 F_any_split) [] := Df.mkD t.d_any_split sc_any_split (p_any_split t (g_checked_couple_ t) (g_layers_of_ t) (g_chained_entries_ t) (g_put_sorted_ t)) (fun _ _ _ _ _ _ us hl => match us, hl with | [_, _], _ => rfl)
theorem p__law_turned (t : Txt K mg T) (g__law_draw : Df P w K mg base T "_law_draw" 2 (spI T 2 F__law_draw) []) : Body P w K mg base T "_law_turned" s__law_turned ["_law_hand_here", "_law_coins", "_law_out", "_law_coin"] 2 f__law_turned := fun f cdv A outer s H E hr => by
  delta f__law_turned
  exact (pssf_cons (psf_setO (i := 2) sc__law_turned.nd (peo_lst paf_nil))
      (pssf_cons (psf_for PassesOwn.never rfl (pif_seq (pef_var (i := 1))) (pgf_name (i := 3) sc__law_turned.nd) (pssf_one (psf_ins (i := 2) (pef_callI (g__law_draw.cal hr) (pai_here (i := 0) (paf_cons (pef_add (pef_lend 2 (pef_bf b_len (t.z_len) (paf_cons (pef_var (i := 2)) paf_nil))) pef_int) paf_nil)) (len_here (len_cons len_nil))) (pef_var (i := 3)))))
      (pssf_freeze 2 (pssf_one (psf_ret (pef_if (ptf_cp (c_eq hr) (pef_callI (g__law_draw.cal hr) (pai_here (i := 0) (paf_cons pef_int paf_nil)) (len_here (len_cons len_nil))) pef_int) (pef_var (i := 2)) (pef_bt b_tuple (t.z_tuple) (paf_cons (pef_var (i := 2)) paf_nil))))))))
theorem g__law_turned_ (t : Txt K mg T) : Df P w K mg base T "_law_turned" 3 (spI T 2 F__law_turned) [] := Df.mkI t.d__law_turned sc__law_turned (p__law_turned t (g__law_draw_ t)) (fun _ _ _ _ _ _ us hl => match us, hl with | [_, _], _ => rfl)
theorem p_fails_in (t : Txt K mg T)  : Body P w K mg base T "fails_in" s_fails_in ["rest", "coin", "people", "less"] 0 f_fails_in := fun f cdv A outer s H E hr => by
  delta f_fails_in
  exact (pssf_cons (psf_if (PWf.pt (pwf_or (ptf_tru (pef_isi (t.z_isinstance) (pef_var (i := 1)) (pe_tyN (t.z_bool)))) (pwf_or (ptf_not (ptf_tru (pef_isi (t.z_isinstance) (pef_var (i := 1)) (pe_tyN (t.z_int))))) (pwf_or (ptf_cp (c_eq hr) (pef_var (i := 2)) pef_int) (pwf_or1 (ptf_cp (c_notin hr) (pef_var (i := 1)) (pef_var (i := 0)) (hm := by rfl))))))) (pssf_one (psf_ret pef_bl)) pssf_nil)
      (pssf_one (psf_ret (pef_cp c_gt (pef_var (i := 1)) (pef_add (pef_div (pef_bf b_sum (t.z_sum) (paf_cons (pef_frz (peo_lc (own := [("less", 3)]) rfl sc_fails_in.nd (blkOk_by (own := [("less", 3)]) (N := ["rest", "coin", "people", "less"]) (sc := defScope s_fails_in) (by decide +kernel)) (pif_seq (pef_var (i := 0))) (fun _ _ _ _ _ => (pgf_name (i := 3) sc_fails_in.nd)) (fun _ _ _ _ _ => (ptsf_one (ptf_cp c_lt (pef_var (i := 3)) (pef_var (i := 1))))) (fun _ _ _ _ _ => (pef_var (i := 3))))) paf_nil)) (pef_sub (pef_var (i := 2)) pef_int)) pef_int)))))
theorem g_fails_in_ (t : Txt K mg T) : Df P w K mg base T "fails_in" 1 (spD T 3 F_fails_in) [] := Df.mkD t.d_fails_in sc_fails_in (p_fails_in t ) (fun _ _ _ _ _ _ us hl => match us, hl with | [_, _, _], _ => rfl)
theorem p_fallen_fault (t : Txt K mg T) (g_check_pool : Df P w K mg base T "check_pool" 3 (spD T 1 F_check_pool) []) (g_check_people_0 : Df P w K mg base T "check_people" 3 (spD T 2 F_check_people) []) (g_check_people_1 : Df P w K mg base T "check_people" 3 (spD T 2 F_check_people) [.int 1]) (g_check_lost : Df P w K mg base T "check_lost" 3 (spD T 1 F_check_lost) []) (g_has_lot : Df P w K mg base T "has_lot" 4 (spD T 2 F_has_lot) []) (g_less_lot : Df P w K mg base T "less_lot" 5 (spD T 2 F_less_lot) []) (g_fails_in : Df P w K mg base T "fails_in" 1 (spD T 3 F_fails_in) []) (g_check_wish : Df P w K mg base T "check_wish" 4 (spD T 2 F_check_wish) []) (g_any_split : Df P w K mg base T "any_split" 7 (spD T 2 F_any_split) []) : Body P w K mg base T "fallen_fault" s_fallen_fault ["pool", "people", "lost", "fallen", "coins", "lot", "rest", "wish"] 7 f_fallen_fault := fun f cdv A outer s H E hr => by
  delta f_fallen_fault
  exact (pssf_cons (psf_set (i := 4) sc_fallen_fault.nd (pef_call [] (g_check_pool.cal hr) (paf_cons (pef_var (i := 0)) paf_nil) (hm := len_dd (len_cons len_nil))))
      (pssf_cons (psf_expr (pef_call [.int 1] (g_check_people_1.cal hr) (paf_cons (pef_var (i := 1)) paf_nil) (hm := len_dd (len_cons len_nil)) (hdd := fun _ => .cons (.int _) (.nil))))
      (pssf_cons (psf_expr (pef_call [] (g_check_lost.cal hr) (paf_cons (pef_var (i := 2)) paf_nil) (hm := len_dd (len_cons len_nil))))
      (pssf_cons (psf_try (fun _ _ h => h) (pssf_one (psf_set (i := 5) sc_fallen_fault.nd (pef_call [] (g_check_pool.cal hr) (paf_cons (pef_fld (t.c_Fallen.fld (i := 0) rfl) (pef_var (i := 3))) paf_nil) (hm := len_dd (len_cons len_nil))))))
      (pssf_cons (psf_if (ptf_not (ptf_tru (pef_call [] (g_has_lot.cal hr) (paf_cons (pef_var (i := 4)) (paf_cons (pef_var (i := 5)) paf_nil)) (hm := len_dd (len_cons (len_cons len_nil)))))) (pssf_one (psf_ret pef_str)) pssf_nil)
      (pssf_cons (psf_if (ptf_cp c_gt (pef_bf b_len (t.z_len) (paf_cons (pef_var (i := 5)) paf_nil)) (pef_var (i := 2))) (pssf_one (psf_ret pef_str)) pssf_nil)
      (pssf_cons (psf_set (i := 6) sc_fallen_fault.nd (pef_call [] (g_less_lot.cal hr) (paf_cons (pef_var (i := 4)) (paf_cons (pef_var (i := 5)) paf_nil)) (hm := len_dd (len_cons (len_cons len_nil)))))
      (pssf_cons (psf_if (ptf_not (ptf_tru (pef_call [] (g_fails_in.cal hr) (paf_cons (pef_var (i := 6)) (paf_cons (pef_fld (t.c_Fallen.fld (i := 1) rfl) (pef_var (i := 3))) (paf_cons (pef_var (i := 1)) paf_nil))) (hm := len_dd (len_cons (len_cons (len_cons len_nil))))))) (pssf_one (psf_ret pef_str)) pssf_nil)
      (pssf_cons (psf_try (fun _ _ h => h) (pssf_one (psf_set (i := 7) sc_fallen_fault.nd (pef_call [] (g_check_wish.cal hr) (paf_cons (pef_fld (t.c_Fallen.fld (i := 2) rfl) (pef_var (i := 3))) (paf_cons (pef_bf b_sum (t.z_sum) (paf_cons (pef_var (i := 6)) paf_nil)) paf_nil)) (hm := len_dd (len_cons (len_cons len_nil)))))))
      (pssf_cons (psf_if (ptf_cp (c_ne hr) (pef_bf b_len (t.z_len) (paf_cons (pef_var (i := 7)) paf_nil)) (pef_var (i := 1))) (pssf_one (psf_ret pef_str)) pssf_nil)
      (pssf_one (psf_ret (pef_if (ptf_tru (pef_isiC (t.c_NoSplit.isi) (t.z_isinstance) (pef_call [] (g_any_split.cal hr) (paf_cons (pef_var (i := 6)) (paf_cons (pef_var (i := 7)) paf_nil)) (hm := len_dd (len_cons (len_cons len_nil)))))) pef_non pef_str)))))))))))))
theorem g_fallen_fault_ (t : Txt K mg T) : Df P w K mg base T "fallen_fault" 8 (spD T 4 F_fallen_fault) [] := Df.mkD t.d_fallen_fault sc_fallen_fault (p_fallen_fault t (g_check_pool_ t) (g_check_people_0_ t) (g_check_people_1_ t) (g_check_lost_ t) (g_has_lot_ t) (g_less_lot_ t) (g_fails_in_ t) (g_check_wish_ t) (g_any_split_ t)) (fun _ _ _ _ _ _ us hl => match us, hl with | [_, _, _, _], _ => rfl)
theorem p__law_layers (t : Txt K mg T)  : Body P w K mg base T "_law_layers" s__law_layers ["_law_coins", "_law_wish", "_law_rows", "_law_k", "_law_coin", "_law_known", "_law_row", "_law_at", "_law_lack"] 0 f__law_layers := fun f cdv A outer s H E hr => by
  delta f__law_layers
  exact (pssf_cons (psf_set (i := 2) sc__law_layers.nd (pef_frz (peo_lst (paf_cons (pef_bt b_tuple (t.z_tuple) (paf_cons (pef_frz (peo_bf (b_sorted hr) (t.z_sorted) (paf_cons (pef_var (i := 1)) paf_nil))) paf_nil)) paf_nil))))
      (pssf_cons (psf_for PassesOwn.never rfl (pif_range1 (t.z_range) (paf_cons (pef_bf b_len (t.z_len) (paf_cons (pef_var (i := 0)) paf_nil)) paf_nil)) (pgf_name (i := 3) sc__law_layers.nd) (pssf_cons (psf_set (i := 4) sc__law_layers.nd (pef_ix (pef_var (i := 0)) (pef_sub (pef_sub (pef_bf b_len (t.z_len) (paf_cons (pef_var (i := 0)) paf_nil)) pef_int) (pef_var (i := 3)))))
      (pssf_cons (psf_setO (i := 5) sc__law_layers.nd peo_dictT)
      (pssf_cons (psf_for PassesOwn.never rfl (pif_seq (pef_var (i := 2))) (pgf_name (i := 6) sc__law_layers.nd) (pssf_one (psf_for PassesOwn.never rfl (pif_enum (t.z_enumerate) (paf_cons (pef_var (i := 6)) paf_nil)) (pgf_tup rfl (pgsf_cons (pgf_name (i := 7) sc__law_layers.nd) (pgsf_cons (pgf_name (i := 8) sc__law_layers.nd) pgsf_nil))) (pssf_one (psf_if (ptf_cp c_ge (pef_var (i := 8)) (pef_var (i := 4))) (pssf_one (psf_putT (i := 5) (hu_of hr) (pef_bt b_tuple (t.z_tuple) (paf_cons (pef_frz (peo_bf (b_sorted hr) (t.z_sorted) (paf_cons (pef_add (pef_add (pef_cutT (pef_var (i := 6)) pof_none (pof_some (pef_var (i := 7)))) (pef_tup (paf_cons (pef_sub (pef_var (i := 8)) (pef_var (i := 4))) paf_nil))) (pef_cutT (pef_var (i := 6)) (pof_some (pef_add (pef_var (i := 7)) pef_int)) pof_none)) paf_nil))) paf_nil)) pef_bl)) pssf_nil)))))
      (pssf_cons (psf_set (i := 2) sc__law_layers.nd (pef_frz (peo_keysT (i := 5) rfl rfl (t.z_list))))
      (pssf_one (psf_if (ptf_cp c_gt (pef_bf b_len (t.z_len) (paf_cons (pef_var (i := 2)) paf_nil)) pef_int) (pssf_one (psf_ret pef_int)) pssf_nil)))))))
      (pssf_one (psf_ret (pef_if (ptf_cp c_gt (pef_bf b_len (t.z_len) (paf_cons (pef_var (i := 2)) paf_nil)) pef_int) pef_int pef_int)))))
theorem g__law_layers_ (t : Txt K mg T) : Df P w K mg base T "_law_layers" 1 (spD T 2 F__law_layers) [] := Df.mkD t.d__law_layers sc__law_layers (p__law_layers t ) (fun _ _ _ _ _ _ us hl => match us, hl with | [_, _], _ => rfl)
theorem p_is_entry (t : Txt K mg T)  : Body P w K mg base T "is_entry" s_is_entry ["entry", "people", "lack"] 0 f_is_entry := fun f cdv A outer s H E hr => by
  delta f_is_entry
  exact (pssf_cons (psf_if (PWf.pt (pwf_or (ptf_not (ptf_tru (pef_isi (t.z_isinstance) (pef_var (i := 0)) (pe_tyN (t.z_tuple))))) (pwf_or1 (ptf_cp (c_ne hr) (pef_bf b_len (t.z_len) (paf_cons (pef_var (i := 0)) paf_nil)) (pef_var (i := 1)))))) (pssf_one (psf_ret pef_bl)) pssf_nil)
      (pssf_cons (psf_for PassesOwn.never rfl (pif_seq (pef_var (i := 0))) (pgf_name (i := 2) sc_is_entry.nd) (pssf_one (psf_if (PWf.pt (pwf_or (ptf_not (ptf_tru (pef_isi (t.z_isinstance) (pef_var (i := 2)) (pe_tyN (t.z_int))))) (pwf_or (ptf_tru (pef_isi (t.z_isinstance) (pef_var (i := 2)) (pe_tyN (t.z_bool)))) (pwf_or1 (ptf_cp c_lt (pef_var (i := 2)) pef_int))))) (pssf_one (psf_ret pef_bl)) pssf_nil)))
      (pssf_one (psf_ret (pef_cp (c_eq hr) (pef_frz (peo_bt b_list (t.z_list) (paf_cons (pef_var (i := 0)) paf_nil))) (pef_frz (peo_bf (b_sorted hr) (t.z_sorted) (paf_cons (pef_frz (peo_bt b_list (t.z_list) (paf_cons (pef_var (i := 0)) paf_nil))) paf_nil))))))))
theorem g_is_entry_ (t : Txt K mg T) : Df P w K mg base T "is_entry" 1 (spD T 2 F_is_entry) [] := Df.mkD t.d_is_entry sc_is_entry (p_is_entry t ) (fun _ _ _ _ _ _ us hl => match us, hl with | [_, _], _ => rfl)
theorem p_has_form (t : Txt K mg T) (g_is_entry : Df P w K mg base T "is_entry" 1 (spD T 2 F_is_entry) []) : Body P w K mg base T "has_form" s_has_form ["layers", "people", "layer", "entry"] 1 f_has_form := fun f cdv A outer s H E hr => by
  delta f_has_form
  exact (pssf_cons (psf_if (PWf.pt (pwf_or (ptf_not (ptf_tru (pef_isi2 (t.z_isinstance) (pef_var (i := 0)) (pe_tyN (t.z_list)) (pe_tyN (t.z_tuple))))) (pwf_or1 (ptf_cp (c_eq hr) (pef_bf b_len (t.z_len) (paf_cons (pef_var (i := 0)) paf_nil)) pef_int)))) (pssf_one (psf_ret pef_bl)) pssf_nil)
      (pssf_cons (psf_for PassesOwn.never rfl (pif_seq (pef_var (i := 0))) (pgf_name (i := 2) sc_has_form.nd) (pssf_cons (psf_if (ptf_not (ptf_tru (pef_isi2 (t.z_isinstance) (pef_var (i := 2)) (pe_tyN (t.z_list)) (pe_tyN (t.z_tuple))))) (pssf_one (psf_ret pef_bl)) pssf_nil)
      (pssf_one (psf_if (ptf_cp (c_in hr) pef_bl (pef_frz (peo_lc (own := [("entry", 3)]) rfl sc_has_form.nd (blkOk_by (own := [("entry", 3)]) (N := ["layers", "people", "layer", "entry"]) (sc := defScope s_has_form) (by decide +kernel)) (pif_seq (pef_var (i := 2))) (fun _ _ _ _ _ => (pgf_name (i := 3) sc_has_form.nd)) (fun _ _ _ _ _ => ptsf_nil) (fun _ _ _ _ _ => (pef_call [] (g_is_entry.cal hr) (paf_cons (pef_var (i := 3)) (paf_cons (pef_var (i := 1)) paf_nil)) (hm := len_dd (len_cons (len_cons len_nil))))))) (hm := by rfl)) (pssf_one (psf_ret pef_bl)) pssf_nil))))
      (pssf_one (psf_ret pef_bl))))
theorem g_has_form_ (t : Txt K mg T) : Df P w K mg base T "has_form" 2 (spD T 2 F_has_form) [] := Df.mkD t.d_has_form sc_has_form (p_has_form t (g_is_entry_ t)) (fun _ _ _ _ _ _ us hl => match us, hl with | [_, _], _ => rfl)
theorem p_layers_fault (t : Txt K mg T) (g_checked_couple : Df P w K mg base T "checked_couple" 5 (spD T 2 F_checked_couple) []) (g_has_form : Df P w K mg base T "has_form" 2 (spD T 2 F_has_form) []) (g_next_entries : Df P w K mg base T "next_entries" 2 (spD T 2 F_next_entries) []) : Body P w K mg base T "layers_fault" s_layers_fault ["pool", "wish", "layers", "coins", "amounts", "place", "known", "entry"] 5 f_layers_fault := fun f cdv A outer s H E hr => by
  delta f_layers_fault
  exact (pssf_cons (psf_tgt (pef_call [] (g_checked_couple.cal hr) (paf_cons (pef_var (i := 0)) (paf_cons (pef_var (i := 1)) paf_nil)) (hm := len_dd (len_cons (len_cons len_nil)))) (pgf_tup rfl (pgsf_cons (pgf_name (i := 3) sc_layers_fault.nd) (pgsf_cons (pgf_name (i := 4) sc_layers_fault.nd) pgsf_nil))))
      (pssf_cons (psf_if (ptf_not (ptf_tru (pef_call [] (g_has_form.cal hr) (paf_cons (pef_var (i := 2)) (paf_cons (pef_bf b_len (t.z_len) (paf_cons (pef_var (i := 4)) paf_nil)) paf_nil)) (hm := len_dd (len_cons (len_cons len_nil)))))) (pssf_one (psf_ret pef_str)) pssf_nil)
      (pssf_cons (psf_if (ptf_cp c_gt (pef_bf b_len (t.z_len) (paf_cons (pef_var (i := 2)) paf_nil)) (pef_add (pef_bf b_len (t.z_len) (paf_cons (pef_var (i := 3)) paf_nil)) pef_int)) (pssf_one (psf_ret pef_str)) pssf_nil)
      (pssf_cons (psf_if (ptf_cp (c_notin hr) (pef_bt b_tuple (t.z_tuple) (paf_cons (pef_frz (peo_bf (b_sorted hr) (t.z_sorted) (paf_cons (pef_var (i := 4)) paf_nil))) paf_nil)) (pef_ix (pef_var (i := 2)) pef_int) (hm := by rfl)) (pssf_one (psf_ret pef_str)) pssf_nil)
      (pssf_cons (psf_for PassesOwn.never rfl (pif_range1 (t.z_range) (paf_cons (pef_sub (pef_bf b_len (t.z_len) (paf_cons (pef_var (i := 2)) paf_nil)) pef_int) paf_nil)) (pgf_name (i := 5) sc_layers_fault.nd) (pssf_cons (psf_setDcT (i := 6) (j := 7) (hu_of hr) rfl sc_layers_fault.nd (blkOk_by (own := [("entry", 7)]) (N := ["pool", "wish", "layers", "coins", "amounts", "place", "known", "entry"]) (sc := defScope s_layers_fault) (by decide +kernel)) (pif_seq (pef_ix (pef_var (i := 2)) (pef_add (pef_var (i := 5)) pef_int))) (fun _ _ _ _ _ => pg_name (i := 7) sc_layers_fault.nd rfl (Or.inl rfl)) (fun _ _ _ _ _ => pv 7))
      (pssf_one (psf_for PassesOwn.never rfl (pif_seq (pef_call [] (g_next_entries.cal hr) (paf_cons (pef_ix (pef_var (i := 2)) (pef_var (i := 5))) (paf_cons (pef_ix (pef_var (i := 3)) (pef_sub (pef_sub (pef_bf b_len (t.z_len) (paf_cons (pef_var (i := 3)) paf_nil)) pef_int) (pef_var (i := 5)))) paf_nil)) (hm := len_dd (len_cons (len_cons len_nil))))) (pgf_name (i := 7) sc_layers_fault.nd) (pssf_one (psf_if (ptf_hasNT (i := 6) (hu_of hr) (pef_var (i := 7))) (pssf_one (psf_ret pef_str)) pssf_nil))))))
      (pssf_one (psf_ret (pef_if (ptf_cp c_gt (pef_bf b_len (t.z_len) (paf_cons (pef_ix (pef_var (i := 2)) (pef_neg pef_int)) paf_nil)) pef_int) pef_str pef_non))))))))
theorem g_layers_fault_ (t : Txt K mg T) : Df P w K mg base T "layers_fault" 6 (spD T 3 F_layers_fault) [] := Df.mkD t.d_layers_fault sc_layers_fault (p_layers_fault t (g_checked_couple_ t) (g_has_form_ t) (g_next_entries_ t)) (fun _ _ _ _ _ _ us hl => match us, hl with | [_, _, _], _ => rfl)
theorem p__law_fallen_right (t : Txt K mg T) (g_fallen_fault : Df P w K mg base T "fallen_fault" 8 (spD T 4 F_fallen_fault) []) (g_less_lot : Df P w K mg base T "less_lot" 5 (spD T 2 F_less_lot) []) (g__law_turned : Df P w K mg base T "_law_turned" 3 (spI T 2 F__law_turned) []) (g__law_layers : Df P w K mg base T "_law_layers" 1 (spD T 2 F__law_layers) []) (g_any_split : Df P w K mg base T "any_split" 7 (spD T 2 F_any_split) []) (g_layers_fault : Df P w K mg base T "layers_fault" 6 (spD T 3 F_layers_fault) []) : Body P w K mg base T "_law_fallen_right" s__law_fallen_right ["_law_hand_here", "_law_coins", "_law_people", "_law_lost_here", "_law_told", "_law_rest", "_law_answer"] 8 f__law_fallen_right := fun f cdv A outer s H E hr => by
  delta f__law_fallen_right
  exact (pssf_cons (psf_if (PWf.pt (pwf_or (ptf_not (ptf_tru (pef_isiC (t.c_Fallen.isi) (t.z_isinstance) (pef_var (i := 4))))) (pwf_or (ptf_cp c_gt (pef_bf b_len (t.z_len) (paf_cons (pef_fld (t.c_Fallen.fld (i := 0) rfl) (pef_var (i := 4))) paf_nil)) (pef_var (i := 3))) (pwf_or1 (ptf_cp c_isnot (pef_call [] (g_fallen_fault.cal hr) (paf_cons (pef_var (i := 1)) (paf_cons (pef_var (i := 2)) (paf_cons (pef_var (i := 3)) (paf_cons (pef_var (i := 4)) paf_nil)))) (hm := len_dd (len_cons (len_cons (len_cons (len_cons len_nil)))))) pef_non))))) (pssf_one (psf_ret pef_bl)) pssf_nil)
      (pssf_cons (psf_set (i := 5) sc__law_fallen_right.nd (pef_call [] (g_less_lot.cal hr) (paf_cons (pef_callI (g__law_turned.cal hr) (pai_here (i := 0) (paf_cons (pef_var (i := 1)) paf_nil)) (len_here (len_cons len_nil))) (paf_cons (pef_fld (t.c_Fallen.fld (i := 0) rfl) (pef_var (i := 4))) paf_nil)) (hm := len_dd (len_cons (len_cons len_nil)))))
      (pssf_cons (psf_if (PWf.pt (pwf_or (ptf_cp (c_ne hr) (pef_bf b_len (t.z_len) (paf_cons (pef_fld (t.c_Fallen.fld (i := 2) rfl) (pef_var (i := 4))) paf_nil)) (pef_var (i := 2))) (pwf_or (ptf_cp (c_ne hr) (pef_bf b_sum (t.z_sum) (paf_cons (pef_fld (t.c_Fallen.fld (i := 2) rfl) (pef_var (i := 4))) paf_nil)) (pef_bf b_sum (t.z_sum) (paf_cons (pef_var (i := 5)) paf_nil))) (pwf_or1 (ptf_cp (c_ne hr) (pef_call [] (g__law_layers.cal hr) (paf_cons (pef_var (i := 5)) (paf_cons (pef_fld (t.c_Fallen.fld (i := 2) rfl) (pef_var (i := 4))) paf_nil)) (hm := len_dd (len_cons (len_cons len_nil)))) pef_int))))) (pssf_one (psf_ret pef_bl)) pssf_nil)
      (pssf_cons (psf_set (i := 6) sc__law_fallen_right.nd (pef_call [] (g_any_split.cal hr) (paf_cons (pef_var (i := 5)) (paf_cons (pef_fld (t.c_Fallen.fld (i := 2) rfl) (pef_var (i := 4))) paf_nil)) (hm := len_dd (len_cons (len_cons len_nil)))))
      (pssf_one (psf_ret (pef_and (pef_isiC (t.c_NoSplit.isi) (t.z_isinstance) (pef_var (i := 6))) (pef_one (pef_cp c_is (pef_call [] (g_layers_fault.cal hr) (paf_cons (pef_var (i := 5)) (paf_cons (pef_fld (t.c_Fallen.fld (i := 2) rfl) (pef_var (i := 4))) (paf_cons (pef_fld (t.c_NoSplit.fld (i := 0) rfl) (pef_var (i := 6))) paf_nil))) (hm := len_dd (len_cons (len_cons (len_cons len_nil))))) pef_non)))))))))
theorem g__law_fallen_right_ (t : Txt K mg T) : Df P w K mg base T "_law_fallen_right" 9 (spI T 5 F__law_fallen_right) [] := Df.mkI t.d__law_fallen_right sc__law_fallen_right (p__law_fallen_right t (g_fallen_fault_ t) (g_less_lot_ t) (g__law_turned_ t) (g__law_layers_ t) (g_any_split_ t) (g_layers_fault_ t)) (fun _ _ _ _ _ _ us hl => match us, hl with | [_, _, _, _, _], _ => rfl)
theorem p__law_drawn_lot (t : Txt K mg T) (g__law_draw : Df P w K mg base T "_law_draw" 2 (spI T 2 F__law_draw) []) : Body P w K mg base T "_law_drawn_lot" s__law_drawn_lot ["_law_hand_here", "_law_coins", "_law_lost_here", "_law_left", "_law_lot", "_law_k"] 2 f__law_drawn_lot := fun f cdv A outer s H E hr => by
  delta f__law_drawn_lot
  exact (pssf_cons (psf_setO (i := 3) sc__law_drawn_lot.nd (peo_bt b_list (t.z_list) (paf_cons (pef_var (i := 1)) paf_nil)))
      (pssf_cons (psf_setO (i := 4) sc__law_drawn_lot.nd (peo_lst paf_nil))
      (pssf_cons (psf_for PassesOwn.never rfl (pif_range1 (t.z_range) (paf_cons (pef_bf b_min2 (t.z_min) (paf_cons (pef_var (i := 2)) (paf_cons (pef_bf b_len (t.z_len) (paf_cons (pef_var (i := 1)) paf_nil)) paf_nil))) paf_nil)) (pgf_name (i := 5) sc__law_drawn_lot.nd) (pssf_one (psf_if (ptf_cp c_gt (pef_callI (g__law_draw.cal hr) (pai_here (i := 0) (paf_cons pef_int paf_nil)) (len_here (len_cons len_nil))) pef_int) (pssf_one (psf_app (i := 4) (pef_pop (i := 3) (pef_callI (g__law_draw.cal hr) (pai_here (i := 0) (paf_cons (pef_lend 3 (pef_bf b_len (t.z_len) (paf_cons (pef_var (i := 3)) paf_nil))) paf_nil)) (len_here (len_cons len_nil)))))) pssf_nil)))
      (pssf_one (psf_ret (pef_bt b_tuple (t.z_tuple) (paf_cons (pef_frz (peo_lend 4 (peo_bf (b_sorted hr) (t.z_sorted) (paf_cons (pef_var (i := 4)) paf_nil)))) paf_nil)))))))
theorem g__law_drawn_lot_ (t : Txt K mg T) : Df P w K mg base T "_law_drawn_lot" 3 (spI T 3 F__law_drawn_lot) [] := Df.mkI t.d__law_drawn_lot sc__law_drawn_lot (p__law_drawn_lot t (g__law_draw_ t)) (fun _ _ _ _ _ _ us hl => match us, hl with | [_, _, _], _ => rfl)
theorem p_check_amount (t : Txt K mg T) (g_is_whole : Df P w K mg base T "is_whole" 1 (spD T 3 F_is_whole) []) : Body P w K mg base T "check_amount" s_check_amount ["amount", "low"] 2 f_check_amount := fun f cdv A outer s H E hr => by
  delta f_check_amount
  exact (pssf_cons (psf_if (ptf_not (ptf_tru (pef_call [] (g_is_whole.cal hr) (paf_cons (pef_var (i := 0)) (paf_cons (pef_var (i := 1)) (paf_cons (pef_globE t.k_MOST_AMOUNT) paf_nil))) (hm := len_dd (len_cons (len_cons (len_cons len_nil))))))) (pssf_one psf_never) pssf_nil)
      (pssf_one (psf_ret (pef_var (i := 0)))))
theorem g_check_amount_0_ (t : Txt K mg T) : Df P w K mg base T "check_amount" 3 (spD T 2 F_check_amount) [] := Df.mkDD (n := 2) (j := 1) t.d_check_amount sc_check_amount (p_check_amount t (g_is_whole_ t)) (by simp) rfl rfl (fun _ _ _ _ _ _ _ us its hl h2 => match us, hl, its, h2 with | [_, _], _, [_], _ => ⟨_, rfl, rfl⟩)
theorem g_check_amount_1_ (t : Txt K mg T) : Df P w K mg base T "check_amount" 3 (spD T 2 F_check_amount) [.int 0] := Df.mkDD (n := 1) (j := 0) t.d_check_amount sc_check_amount (p_check_amount t (g_is_whole_ t)) (by simp) rfl rfl (fun _ _ _ _ _ _ _ us its hl h2 => match us, hl, its, h2 with | [_], _, [_], _ => ⟨_, rfl, rfl⟩)
theorem p_even_wish (t : Txt K mg T) (g_check_amount_0 : Df P w K mg base T "check_amount" 3 (spD T 2 F_check_amount) []) (g_check_amount_1 : Df P w K mg base T "check_amount" 3 (spD T 2 F_check_amount) [.int 0]) (g_check_people_0 : Df P w K mg base T "check_people" 3 (spD T 2 F_check_people) []) (g_check_people_1 : Df P w K mg base T "check_people" 3 (spD T 2 F_check_people) [.int 1]) : Body P w K mg base T "even_wish" s_even_wish ["total", "people", "person"] 3 f_even_wish := fun f cdv A outer s H E hr => by
  delta f_even_wish
  exact (pssf_cons (psf_expr (pef_call [.int 0] (g_check_amount_1.cal hr) (paf_cons (pef_var (i := 0)) paf_nil) (hm := len_dd (len_cons len_nil)) (hdd := fun _ => .cons (.int _) (.nil))))
      (pssf_cons (psf_expr (pef_call [.int 1] (g_check_people_1.cal hr) (paf_cons (pef_var (i := 1)) paf_nil) (hm := len_dd (len_cons len_nil)) (hdd := fun _ => .cons (.int _) (.nil))))
      (pssf_one (psf_ret (pef_bt b_tuple (t.z_tuple) (paf_cons (pef_frz (peo_lc (own := [("person", 2)]) rfl sc_even_wish.nd (blkOk_by (own := [("person", 2)]) (N := ["total", "people", "person"]) (sc := defScope s_even_wish) (by decide +kernel)) (pif_range1 (t.z_range) (paf_cons (pef_var (i := 1)) paf_nil)) (fun _ _ _ _ _ => (pgf_name (i := 2) sc_even_wish.nd)) (fun _ _ _ _ _ => ptsf_nil) (fun _ _ _ _ _ => (pef_add (pef_div (pef_var (i := 0)) (pef_var (i := 1))) (pef_bt b_int (t.z_int) (paf_cons (pef_cp c_lt (pef_var (i := 2)) (pef_mod (pef_var (i := 0)) (pef_var (i := 1)))) paf_nil)))))) paf_nil))))))
theorem g_even_wish_ (t : Txt K mg T) : Df P w K mg base T "even_wish" 4 (spD T 2 F_even_wish) [] := Df.mkD t.d_even_wish sc_even_wish (p_even_wish t (g_check_amount_0_ t) (g_check_amount_1_ t) (g_check_people_0_ t) (g_check_people_1_ t)) (fun _ _ _ _ _ _ us hl => match us, hl with | [_, _], _ => rfl)
theorem p__law_big (t : Txt K mg T) (g__law_draw : Df P w K mg base T "_law_draw" 2 (spI T 2 F__law_draw) []) : Body P w K mg base T "_law_big" s__law_big ["_law_hand_here", "_law_many", "_law_number", "_law_k"] 2 f__law_big := fun f cdv A outer s H E hr => by
  delta f__law_big
  exact (pssf_cons (psf_set (i := 2) sc__law_big.nd pef_int)
      (pssf_cons (psf_for PassesOwn.never rfl (pif_range1 (t.z_range) (paf_cons pef_int paf_nil)) (pgf_name (i := 3) sc__law_big.nd) (pssf_one (psf_set (i := 2) sc__law_big.nd (pef_add (pef_mul (pef_var (i := 2)) pef_int) (pef_callI (g__law_draw.cal hr) (pai_here (i := 0) (paf_cons pef_int paf_nil)) (len_here (len_cons len_nil)))))))
      (pssf_one (psf_ret (pef_mod (pef_bt b_int (t.z_int) (paf_cons (pef_var (i := 2)) paf_nil)) (pef_var (i := 1)))))))
theorem g__law_big_ (t : Txt K mg T) : Df P w K mg base T "_law_big" 3 (spI T 2 F__law_big) [] := Df.mkI t.d__law_big sc__law_big (p__law_big t (g__law_draw_ t)) (fun _ _ _ _ _ _ us hl => match us, hl with | [_, _], _ => rfl)
theorem p__law_drawn_wish (t : Txt K mg T) (g__law_big : Df P w K mg base T "_law_big" 3 (spI T 2 F__law_big) []) (g__law_draw : Df P w K mg base T "_law_draw" 2 (spI T 2 F__law_draw) []) : Body P w K mg base T "_law_drawn_wish" s__law_drawn_wish ["_law_hand_here", "_law_total", "_law_people", "_law_rest", "_law_wish", "_law_k", "_law_part"] 3 f__law_drawn_wish := fun f cdv A outer s H E hr => by
  delta f__law_drawn_wish
  exact (pssf_cons (psf_set (i := 3) sc__law_drawn_wish.nd (pef_var (i := 1)))
      (pssf_cons (psf_setO (i := 4) sc__law_drawn_wish.nd (peo_lst paf_nil))
      (pssf_cons (psf_for PassesOwn.never rfl (pif_range1 (t.z_range) (paf_cons (pef_sub (pef_var (i := 2)) pef_int) paf_nil)) (pgf_name (i := 5) sc__law_drawn_wish.nd) (pssf_cons (psf_set (i := 6) sc__law_drawn_wish.nd (pef_if (ptf_cp c_gt (pef_var (i := 3)) pef_int) (pef_mod (pef_bt b_int (t.z_int) (paf_cons (pef_callI (g__law_big.cal hr) (pai_here (i := 0) (paf_cons (pef_pow pef_int pef_int) paf_nil)) (len_here (len_cons len_nil))) paf_nil)) (pef_add (pef_var (i := 3)) pef_int)) (pef_callI (g__law_draw.cal hr) (pai_here (i := 0) (paf_cons (pef_add (pef_var (i := 3)) pef_int) paf_nil)) (len_here (len_cons len_nil)))))
      (pssf_cons (psf_ins (i := 4) (pef_callI (g__law_draw.cal hr) (pai_here (i := 0) (paf_cons (pef_add (pef_lend 4 (pef_bf b_len (t.z_len) (paf_cons (pef_var (i := 4)) paf_nil))) pef_int) paf_nil)) (len_here (len_cons len_nil))) (pef_var (i := 6)))
      (pssf_one (psf_set (i := 3) sc__law_drawn_wish.nd (pef_sub (pef_var (i := 3)) (pef_var (i := 6))))))))
      (pssf_cons (psf_ins (i := 4) (pef_callI (g__law_draw.cal hr) (pai_here (i := 0) (paf_cons (pef_add (pef_lend 4 (pef_bf b_len (t.z_len) (paf_cons (pef_var (i := 4)) paf_nil))) pef_int) paf_nil)) (len_here (len_cons len_nil))) (pef_var (i := 3)))
      (pssf_one (psf_ret (pef_lend 4 (pef_bt b_tuple (t.z_tuple) (paf_cons (pef_var (i := 4)) paf_nil)))))))))
theorem g__law_drawn_wish_ (t : Txt K mg T) : Df P w K mg base T "_law_drawn_wish" 4 (spI T 3 F__law_drawn_wish) [] := Df.mkI t.d__law_drawn_wish sc__law_drawn_wish (p__law_drawn_wish t (g__law_big_ t) (g__law_draw_ t)) (fun _ _ _ _ _ _ us hl => match us, hl with | [_, _, _], _ => rfl)
theorem p__law_less (t : Txt K mg T)  : Body P w K mg base T "_law_less" s__law_less ["_law_coins", "_law_lot", "_law_rest", "_law_coin"] 0 f__law_less := fun f cdv A outer s H E hr => by
  delta f__law_less
  exact (pssf_cons (psf_setO (i := 2) sc__law_less.nd (peo_bt b_list (t.z_list) (paf_cons (pef_var (i := 0)) paf_nil)))
      (pssf_cons (psf_for PassesOwn.never rfl (pif_seq (pef_var (i := 1))) (pgf_name (i := 3) sc__law_less.nd) (pssf_one (psf_rem (i := 2) (pef_var (i := 3)))))
      (pssf_one (psf_ret (pef_lend 2 (pef_bt b_tuple (t.z_tuple) (paf_cons (pef_var (i := 2)) paf_nil)))))))
theorem g__law_less_ (t : Txt K mg T) : Df P w K mg base T "_law_less" 1 (spD T 2 F__law_less) [] := Df.mkD t.d__law_less sc__law_less (p__law_less t ) (fun _ _ _ _ _ _ us hl => match us, hl with | [_, _], _ => rfl)
theorem p__law_wishes (t : Txt K mg T)  : Body P w K mg base T "_law_wishes" s__law_wishes ["_law_total", "_law_people", "_law_rows", "_law_k", "_law_longer", "_law_row", "_law_worth"] 0 f__law_wishes := fun f cdv A outer s H E hr => by
  delta f__law_wishes
  exact (pssf_cons (psf_set (i := 2) sc__law_wishes.nd (pef_frz (peo_lst (paf_cons (pef_tup paf_nil) paf_nil))))
      (pssf_cons (psf_for PassesOwn.never rfl (pif_range1 (t.z_range) (paf_cons (pef_sub (pef_var (i := 1)) pef_int) paf_nil)) (pgf_name (i := 3) sc__law_wishes.nd) (pssf_cons (psf_set (i := 4) sc__law_wishes.nd (pef_frz (peo_lst paf_nil)))
      (pssf_cons (psf_for PassesOwn.never rfl (pif_seq (pef_var (i := 2))) (pgf_name (i := 5) sc__law_wishes.nd) (pssf_one (psf_set (i := 4) sc__law_wishes.nd (pef_frz (peo_addL (pef_var (i := 4)) (pef_frz (peo_lc (own := [("_law_worth", 6)]) rfl sc__law_wishes.nd (blkOk_by (own := [("_law_worth", 6)]) (N := ["_law_total", "_law_people", "_law_rows", "_law_k", "_law_longer", "_law_row", "_law_worth"]) (sc := defScope s__law_wishes) (by decide +kernel)) (pif_range1 (t.z_range) (paf_cons (pef_add (pef_sub (pef_var (i := 0)) (pef_bf b_sum (t.z_sum) (paf_cons (pef_var (i := 5)) paf_nil))) pef_int) paf_nil)) (fun _ _ _ _ _ => (pgf_name (i := 6) sc__law_wishes.nd)) (fun _ _ _ _ _ => ptsf_nil) (fun _ _ _ _ _ => (pef_add (pef_var (i := 5)) (pef_tup (paf_cons (pef_var (i := 6)) paf_nil)))))))))))
      (pssf_one (psf_set (i := 2) sc__law_wishes.nd (pef_var (i := 4)))))))
      (pssf_one (psf_ret (pef_frz (peo_lc (own := [("_law_row", 5)]) rfl sc__law_wishes.nd (blkOk_by (own := [("_law_row", 5)]) (N := ["_law_total", "_law_people", "_law_rows", "_law_k", "_law_longer", "_law_row", "_law_worth"]) (sc := defScope s__law_wishes) (by decide +kernel)) (pif_seq (pef_var (i := 2))) (fun _ _ _ _ _ => (pgf_name (i := 5) sc__law_wishes.nd)) (fun _ _ _ _ _ => ptsf_nil) (fun _ _ _ _ _ => (pef_add (pef_var (i := 5)) (pef_tup (paf_cons (pef_sub (pef_var (i := 0)) (pef_bf b_sum (t.z_sum) (paf_cons (pef_var (i := 5)) paf_nil))) paf_nil))))))))))
theorem g__law_wishes_ (t : Txt K mg T) : Df P w K mg base T "_law_wishes" 1 (spD T 2 F__law_wishes) [] := Df.mkD t.d__law_wishes sc__law_wishes (p__law_wishes t ) (fun _ _ _ _ _ _ us hl => match us, hl with | [_, _], _ => rfl)
theorem p__law_whole (t : Txt K mg T)  : Body P w K mg base T "_law_whole" s__law_whole ["_law_thing"] 0 f__law_whole := fun f cdv A outer s H E hr => by
  delta f__law_whole
  exact (pssf_one (psf_ret (pef_and (pef_isi (t.z_isinstance) (pef_var (i := 0)) (pe_tyN (t.z_int))) (pef_one (pef_notT (pef_isi (t.z_isinstance) (pef_var (i := 0)) (pe_tyN (t.z_bool))))))))
theorem g__law_whole_ (t : Txt K mg T) : Df P w K mg base T "_law_whole" 1 (spD T 1 F__law_whole) [] := Df.mkD t.d__law_whole sc__law_whole (p__law_whole t ) (fun _ _ _ _ _ _ us hl => match us, hl with | [_], _ => rfl)
theorem p__law_lot_like (t : Txt K mg T) (g__law_whole : Df P w K mg base T "_law_whole" 1 (spD T 1 F__law_whole) []) : Body P w K mg base T "_law_lot_like" s__law_lot_like ["_law_told", "_law_coin"] 1 f__law_lot_like := fun f cdv A outer s H E hr => by
  delta f__law_lot_like
  exact (pssf_cons (psf_if (PWf.pt (pwf_or (ptf_not (ptf_tru (pef_isi (t.z_isinstance) (pef_var (i := 0)) (pe_tyN (t.z_tuple))))) (pwf_or1 (ptf_not (ptf_tru (pef_bf b_all (t.z_all) (paf_cons (pef_frz (peo_lc (own := [("_law_coin", 1)]) rfl sc__law_lot_like.nd (blkOk_by (own := [("_law_coin", 1)]) (N := ["_law_told", "_law_coin"]) (sc := defScope s__law_lot_like) (by decide +kernel)) (pif_seq (pef_var (i := 0))) (fun _ _ _ _ _ => (pgf_name (i := 1) sc__law_lot_like.nd)) (fun _ _ _ _ _ => ptsf_nil) (fun _ _ _ _ _ => (pef_and (pef_call [] (g__law_whole.cal hr) (paf_cons (pef_var (i := 1)) paf_nil) (hm := len_dd (len_cons len_nil))) (pef_one (pef_cp c_gt (pef_var (i := 1)) pef_int)))))) paf_nil))))))) (pssf_one (psf_ret pef_bl)) pssf_nil)
      (pssf_one (psf_ret (pef_cp (c_eq hr) (pef_frz (peo_bt b_list (t.z_list) (paf_cons (pef_var (i := 0)) paf_nil))) (pef_frz (peo_bf (b_sorted hr) (t.z_sorted) (paf_cons (pef_var (i := 0)) paf_nil)))))))
theorem g__law_lot_like_ (t : Txt K mg T) : Df P w K mg base T "_law_lot_like" 2 (spD T 1 F__law_lot_like) [] := Df.mkD t.d__law_lot_like sc__law_lot_like (p__law_lot_like t (g__law_whole_ t)) (fun _ _ _ _ _ _ us hl => match us, hl with | [_], _ => rfl)
theorem p__law_split_like (t : Txt K mg T) (g__law_lot_like : Df P w K mg base T "_law_lot_like" 2 (spD T 1 F__law_lot_like) []) : Body P w K mg base T "_law_split_like" s__law_split_like ["_law_told", "_law_many", "_law_purse"] 2 f__law_split_like := fun f cdv A outer s H E hr => by
  delta f__law_split_like
  exact (pssf_one (psf_ret (pef_and (pef_isi (t.z_isinstance) (pef_var (i := 0)) (pe_tyN (t.z_tuple))) (pef_and (pef_cp (c_eq hr) (pef_bf b_len (t.z_len) (paf_cons (pef_var (i := 0)) paf_nil)) (pef_var (i := 1))) (pef_one (pef_bf b_all (t.z_all) (paf_cons (pef_frz (peo_lc (own := [("_law_purse", 2)]) rfl sc__law_split_like.nd (blkOk_by (own := [("_law_purse", 2)]) (N := ["_law_told", "_law_many", "_law_purse"]) (sc := defScope s__law_split_like) (by decide +kernel)) (pif_seq (pef_var (i := 0))) (fun _ _ _ _ _ => (pgf_name (i := 2) sc__law_split_like.nd)) (fun _ _ _ _ _ => ptsf_nil) (fun _ _ _ _ _ => (pef_call [] (g__law_lot_like.cal hr) (paf_cons (pef_var (i := 2)) paf_nil) (hm := len_dd (len_cons len_nil)))))) paf_nil)))))))
theorem g__law_split_like_ (t : Txt K mg T) : Df P w K mg base T "_law_split_like" 3 (spD T 2 F__law_split_like) [] := Df.mkD t.d__law_split_like sc__law_split_like (p__law_split_like t (g__law_lot_like_ t)) (fun _ _ _ _ _ _ us hl => match us, hl with | [_, _], _ => rfl)
theorem p__law_is_split (t : Txt K mg T) (g__law_split_like : Df P w K mg base T "_law_split_like" 3 (spD T 2 F__law_split_like) []) : Body P w K mg base T "_law_is_split" s__law_is_split ["_law_told", "_law_coins", "_law_worths", "_law_held", "_law_purse"] 3 f__law_is_split := fun f cdv A outer s H E hr => by
  delta f__law_is_split
  exact (pssf_cons (psf_if (PWf.pt (pwf_or (ptf_not (ptf_tru (pef_isi (t.z_isinstance) (pef_var (i := 2)) (pe_tyN (t.z_tuple))))) (pwf_or1 (ptf_not (ptf_tru (pef_call [] (g__law_split_like.cal hr) (paf_cons (pef_var (i := 0)) (paf_cons (pef_bf b_len (t.z_len) (paf_cons (pef_var (i := 2)) paf_nil)) paf_nil)) (hm := len_dd (len_cons (len_cons len_nil))))))))) (pssf_one (psf_ret pef_bl)) pssf_nil)
      (pssf_cons (psf_set (i := 3) sc__law_is_split.nd (pef_frz (peo_lst paf_nil)))
      (pssf_cons (psf_for PassesOwn.never rfl (pif_seq (pef_var (i := 0))) (pgf_name (i := 4) sc__law_is_split.nd) (pssf_one (psf_set (i := 3) sc__law_is_split.nd (pef_frz (peo_addL (pef_var (i := 3)) (pef_frz (peo_bt b_list (t.z_list) (paf_cons (pef_var (i := 4)) paf_nil))))))))
      (pssf_one (psf_ret (pef_and (pef_cp (c_eq hr) (pef_frz (peo_bf (b_sorted hr) (t.z_sorted) (paf_cons (pef_var (i := 3)) paf_nil))) (pef_frz (peo_bt b_list (t.z_list) (paf_cons (pef_var (i := 1)) paf_nil)))) (pef_one (pef_cp (c_eq hr) (pef_bt b_tuple (t.z_tuple) (paf_cons (pef_frz (peo_lc (own := [("_law_purse", 4)]) rfl sc__law_is_split.nd (blkOk_by (own := [("_law_purse", 4)]) (N := ["_law_told", "_law_coins", "_law_worths", "_law_held", "_law_purse"]) (sc := defScope s__law_is_split) (by decide +kernel)) (pif_seq (pef_var (i := 0))) (fun _ _ _ _ _ => (pgf_name (i := 4) sc__law_is_split.nd)) (fun _ _ _ _ _ => ptsf_nil) (fun _ _ _ _ _ => (pef_bf b_sum (t.z_sum) (paf_cons (pef_var (i := 4)) paf_nil))))) paf_nil)) (pef_var (i := 2))))))))))
theorem g__law_is_split_ (t : Txt K mg T) : Df P w K mg base T "_law_is_split" 4 (spD T 3 F__law_is_split) [] := Df.mkD t.d__law_is_split sc__law_is_split (p__law_is_split t (g__law_split_like_ t)) (fun _ _ _ _ _ _ us hl => match us, hl with | [_, _, _], _ => rfl)
theorem p_may_take (t : Txt K mg T)  : Body P w K mg base T "may_take" s_may_take ["person", "coin", "lacks"] 0 f_may_take := fun f cdv A outer s H E hr => by
  delta f_may_take
  exact (pssf_cons (psf_if (PWf.pt (pwf_or (ptf_not (ptf_tru (pef_isi (t.z_isinstance) (pef_var (i := 0)) (pe_tyN (t.z_int))))) (pwf_or (ptf_tru (pef_isi (t.z_isinstance) (pef_var (i := 0)) (pe_tyN (t.z_bool)))) (pwf_or1 (ptf_not (ptf_ch c_le c_lt pef_int (pef_var (i := 0)) (pef_bf b_len (t.z_len) (paf_cons (pef_var (i := 2)) paf_nil)))))))) (pssf_one (psf_ret pef_bl)) pssf_nil)
      (pssf_one (psf_ret (pef_cp c_ge (pef_ix (pef_var (i := 2)) (pef_var (i := 0))) (pef_var (i := 1))))))
theorem g_may_take_ (t : Txt K mg T) : Df P w K mg base T "may_take" 1 (spD T 3 F_may_take) [] := Df.mkD t.d_may_take sc_may_take (p_may_take t ) (fun _ _ _ _ _ _ us hl => match us, hl with | [_, _, _], _ => rfl)
theorem p_first_lacking (t : Txt K mg T)  : Body P w K mg base T "first_lacking" s_first_lacking ["coin", "lacks"] 0 f_first_lacking := fun f cdv A outer s H E hr => by
  delta f_first_lacking
  exact (pssf_one (psf_ret (pef_tindex (pef_var (i := 1)) (pef_bf (b_maxS hr) (t.z_max) (paf_cons (pef_var (i := 1)) paf_nil)))))
theorem g_first_lacking_ (t : Txt K mg T) : Df P w K mg base T "first_lacking" 1 (spD T 2 F_first_lacking) [] := Df.mkD t.d_first_lacking sc_first_lacking (p_first_lacking t ) (fun _ _ _ _ _ _ us hl => match us, hl with | [_, _], _ => rfl)
theorem p_hand_out (t : Txt K mg T) (g_checked_couple : Df P w K mg base T "checked_couple" 5 (spD T 2 F_checked_couple) []) (g_first_lacking : Df P w K mg base T "first_lacking" 1 (spD T 2 F_first_lacking) []) (g_may_take : Df P w K mg base T "may_take" 1 (spD T 3 F_may_take) []) : Body P w K mg base T "hand_out" s_hand_out ["pool", "wish", "choose", "coins", "amounts", "lacks", "given", "amount", "turn", "coin", "person", "purse"] 5 f_hand_out := fun f cdv A outer s H E hr => by
  delta f_hand_out
  exact (pssf_cons (psf_tgt (pef_call [] (g_checked_couple.cal hr) (paf_cons (pef_var (i := 0)) (paf_cons (pef_var (i := 1)) paf_nil)) (hm := len_dd (len_cons (len_cons len_nil)))) (pgf_tup rfl (pgsf_cons (pgf_name (i := 3) sc_hand_out.nd) (pgsf_cons (pgf_name (i := 4) sc_hand_out.nd) pgsf_nil))))
      (pssf_cons (psf_setO (i := 5) sc_hand_out.nd (peo_bt b_list (t.z_list) (paf_cons (pef_var (i := 4)) paf_nil)))
      (pssf_cons (psf_setLc0 (i := 6) (own := [("amount", 7)]) rfl sc_hand_out.nd (blkOk_by (own := [("amount", 7)]) (N := ["pool", "wish", "choose", "coins", "amounts", "lacks", "given", "amount", "turn", "coin", "person", "purse"]) (sc := defScope s_hand_out) (by decide +kernel)) (pif_seq (pef_var (i := 4))) (fun _ _ _ _ _ => (pgf_name (i := 7) sc_hand_out.nd)) (hsw := sw_true rfl rfl rfl (by decide +kernel)))
      (pssf_cons (psf_for PassesOwn.never rfl (pif_enum (t.z_enumerate) (paf_cons (pef_revT (pef_var (i := 3))) paf_nil)) (pgf_tup rfl (pgsf_cons (pgf_name (i := 8) sc_hand_out.nd) (pgsf_cons (pgf_name (i := 9) sc_hand_out.nd) pgsf_nil))) (pssf_cons (psf_if (ptf_cp c_lt (pef_lend 5 (pef_bf b_maxL (t.z_max) (paf_cons (pef_var (i := 5)) paf_nil))) (pef_var (i := 9))) (pssf_one (psf_ret (pef_make (t.c_Stuck.mk i_Stuck hr) (paf_cons (pef_var (i := 9)) (paf_cons (pef_lend 5 (pef_bt b_tupF (t.z_tuple) (paf_cons (pef_var (i := 5)) paf_nil))) paf_nil))))) pssf_nil)
      (pssf_cons (psf_set (i := 10) sc_hand_out.nd (pef_callV (i := 2) (g_first_lacking.calV t.v_first_lacking hr) (paf_cons (pef_var (i := 9)) (paf_cons (pef_lend 5 (pef_bt b_tupF (t.z_tuple) (paf_cons (pef_var (i := 5)) paf_nil))) paf_nil)) (len_cons (len_cons len_nil))))
      (pssf_cons (psf_if (ptf_not (ptf_tru (pef_lend 5 (pef_call [] (g_may_take.cal hr) (paf_cons (pef_var (i := 10)) (paf_cons (pef_var (i := 9)) (paf_cons (pef_var (i := 5)) paf_nil))) (hm := len_dd (len_cons (len_cons (len_cons len_nil)))))))) (pssf_one psf_never) pssf_nil)
      (pssf_cons (psf_augI (i := 5) ip_subI (pef_var (i := 10)) (pef_var (i := 9)))
      (pssf_one (psf_appL (i := 6) (pef_var (i := 10)) (pef_var (i := 9)))))))))
      (pssf_one (psf_ret (pef_lend 6 (pef_bt b_tuple (t.z_tuple) (paf_cons (pef_frz (peo_lc (own := [("purse", 11)]) rfl sc_hand_out.nd (blkOk_by (own := [("purse", 11)]) (N := ["pool", "wish", "choose", "coins", "amounts", "lacks", "given", "amount", "turn", "coin", "person", "purse"]) (sc := defScope s_hand_out) (by decide +kernel)) (pif_seq (pef_var (i := 6))) (fun _ _ _ _ _ => (pgf_name (i := 11) sc_hand_out.nd)) (fun _ _ _ _ _ => ptsf_nil) (fun _ _ _ _ _ => (pef_bt b_tuple (t.z_tuple) (paf_cons (pef_frz (peo_revL (pef_var (i := 11)))) paf_nil))))) paf_nil)))))))))
theorem g_hand_out_ (t : Txt K mg T) : Df P w K mg base T "hand_out" 6 (spD T 3 F_hand_out) [] := Df.mkD t.d_hand_out sc_hand_out (p_hand_out t (g_checked_couple_ t) (g_first_lacking_ t) (g_may_take_ t)) (fun _ _ _ _ _ _ us hl => match us, hl with | [_, _, _], _ => rfl)
theorem p_greatest_first (t : Txt K mg T) (g_hand_out : Df P w K mg base T "hand_out" 6 (spD T 3 F_hand_out) []) : Body P w K mg base T "greatest_first" s_greatest_first ["pool", "wish"] 6 f_greatest_first := fun f cdv A outer s H E hr => by
  delta f_greatest_first
  exact (pssf_one (psf_ret (pef_call [] (g_hand_out.cal hr) (paf_cons (pef_var (i := 0)) (paf_cons (pef_var (i := 1)) (paf_cons (pef_fn t.v_first_lacking) paf_nil))) (hm := len_dd (len_cons (len_cons (len_cons len_nil)))))))
theorem g_greatest_first_ (t : Txt K mg T) : Df P w K mg base T "greatest_first" 7 (spD T 2 F_greatest_first) [] := Df.mkD t.d_greatest_first sc_greatest_first (p_greatest_first t (g_hand_out_ t)) (fun _ _ _ _ _ _ us hl => match us, hl with | [_, _], _ => rfl)
theorem p__law_rest_right (t : Txt K mg T) (g_less_lot : Df P w K mg base T "less_lot" 5 (spD T 2 F_less_lot) []) (g__law_turned : Df P w K mg base T "_law_turned" 3 (spI T 2 F__law_turned) []) (g__law_less : Df P w K mg base T "_law_less" 1 (spD T 2 F__law_less) []) (g_serves : Df P w K mg base T "serves" 5 (spD T 2 F_serves) []) (g_serves_after : Df P w K mg base T "serves_after" 6 (spD T 3 F_serves_after) []) (g__law_drawn_wish : Df P w K mg base T "_law_drawn_wish" 4 (spI T 3 F__law_drawn_wish) []) (g_even_wish : Df P w K mg base T "even_wish" 4 (spD T 2 F_even_wish) []) (g__law_wishes : Df P w K mg base T "_law_wishes" 1 (spD T 2 F__law_wishes) []) (g__law_is_split : Df P w K mg base T "_law_is_split" 4 (spD T 3 F__law_is_split) []) (g_greatest_first : Df P w K mg base T "greatest_first" 7 (spD T 2 F_greatest_first) []) : Body P w K mg base T "_law_rest_right" s__law_rest_right ["_law_hand_here", "_law_coins", "_law_people", "_law_lot", "_law_left", "_law_rest", "_law_total", "_law_wishes_here", "_law_wish"] 7 f__law_rest_right := fun f cdv A outer s H E hr => by
  delta f__law_rest_right
  exact (pssf_cons (psf_set (i := 5) sc__law_rest_right.nd (pef_call [] (g_less_lot.cal hr) (paf_cons (pef_callI (g__law_turned.cal hr) (pai_here (i := 0) (paf_cons (pef_var (i := 1)) paf_nil)) (len_here (len_cons len_nil))) (paf_cons (pef_var (i := 3)) paf_nil)) (hm := len_dd (len_cons (len_cons len_nil)))))
      (pssf_cons (psf_if (PWf.pt (pwf_or (ptf_cp (c_ne hr) (pef_var (i := 5)) (pef_call [] (g__law_less.cal hr) (paf_cons (pef_var (i := 1)) (paf_cons (pef_var (i := 3)) paf_nil)) (hm := len_dd (len_cons (len_cons len_nil))))) (pwf_or (ptf_cp c_isnot (pef_call [] (g_serves.cal hr) (paf_cons (pef_var (i := 5)) (paf_cons (pef_var (i := 2)) paf_nil)) (hm := len_dd (len_cons (len_cons len_nil)))) pef_non) (pwf_or1 (ptf_cp c_isnot (pef_call [] (g_serves_after.cal hr) (paf_cons (pef_var (i := 5)) (paf_cons (pef_var (i := 2)) (paf_cons (pef_var (i := 4)) paf_nil))) (hm := len_dd (len_cons (len_cons (len_cons len_nil))))) pef_non))))) (pssf_one (psf_ret pef_bl)) pssf_nil)
      (pssf_cons (psf_set (i := 6) sc__law_rest_right.nd (pef_bf b_sum (t.z_sum) (paf_cons (pef_var (i := 5)) paf_nil)))
      (pssf_cons (psf_set (i := 7) sc__law_rest_right.nd (pef_frz (peo_lst (paf_cons (pef_call [] (g_even_wish.cal hr) (paf_cons (pef_var (i := 6)) (paf_cons (pef_var (i := 2)) paf_nil)) (hm := len_dd (len_cons (len_cons len_nil)))) (paf_cons (pef_callI (g__law_drawn_wish.cal hr) (pai_here (i := 0) (paf_cons (pef_var (i := 6)) (paf_cons (pef_var (i := 2)) paf_nil))) (len_here (len_cons (len_cons len_nil)))) (paf_cons (pef_callI (g__law_drawn_wish.cal hr) (pai_here (i := 0) (paf_cons (pef_var (i := 6)) (paf_cons (pef_var (i := 2)) paf_nil))) (len_here (len_cons (len_cons len_nil)))) paf_nil))))))
      (pssf_cons (psf_if (ptf_cp c_lt (pef_var (i := 6)) pef_int) (pssf_one (psf_set (i := 7) sc__law_rest_right.nd (pef_frz (peo_addL (pef_var (i := 7)) (pef_call [] (g__law_wishes.cal hr) (paf_cons (pef_var (i := 6)) (paf_cons (pef_var (i := 2)) paf_nil)) (hm := len_dd (len_cons (len_cons len_nil)))))))) pssf_nil)
      (pssf_cons (psf_for PassesOwn.never rfl (pif_seq (pef_var (i := 7))) (pgf_name (i := 8) sc__law_rest_right.nd) (pssf_one (psf_if (ptf_not (ptf_tru (pef_call [] (g__law_is_split.cal hr) (paf_cons (pef_call [] (g_greatest_first.cal hr) (paf_cons (pef_var (i := 5)) (paf_cons (pef_var (i := 8)) paf_nil)) (hm := len_dd (len_cons (len_cons len_nil)))) (paf_cons (pef_var (i := 5)) (paf_cons (pef_var (i := 8)) paf_nil))) (hm := len_dd (len_cons (len_cons (len_cons len_nil))))))) (pssf_one (psf_ret pef_bl)) pssf_nil)))
      (pssf_one (psf_ret pef_bl))))))))
theorem g__law_rest_right_ (t : Txt K mg T) : Df P w K mg base T "_law_rest_right" 8 (spI T 5 F__law_rest_right) [] := Df.mkI t.d__law_rest_right sc__law_rest_right (p__law_rest_right t (g_less_lot_ t) (g__law_turned_ t) (g__law_less_ t) (g_serves_ t) (g_serves_after_ t) (g__law_drawn_wish_ t) (g_even_wish_ t) (g__law_wishes_ t) (g__law_is_split_ t) (g_greatest_first_ t)) (fun _ _ _ _ _ _ us hl => match us, hl with | [_, _, _, _, _], _ => rfl)
theorem p_law (t : Txt K mg T) (g__law_few_people : Df P w K mg base T "_law_few_people" 3 (spI T 1 F__law_few_people) []) (g__law_lost : Df P w K mg base T "_law_lost" 3 (spI T 1 F__law_lost) []) (g__law_loss_pool : Df P w K mg base T "_law_loss_pool" 4 (spI T 4 F__law_loss_pool) []) (g_serves_after : Df P w K mg base T "serves_after" 6 (spD T 3 F_serves_after) []) (g__law_turned : Df P w K mg base T "_law_turned" 3 (spI T 2 F__law_turned) []) (g__law_fallen_right : Df P w K mg base T "_law_fallen_right" 9 (spI T 5 F__law_fallen_right) []) (g__law_drawn_lot : Df P w K mg base T "_law_drawn_lot" 3 (spI T 3 F__law_drawn_lot) []) (g__law_rest_right : Df P w K mg base T "_law_rest_right" 8 (spI T 5 F__law_rest_right) []) (g_most_lost : Df P w K mg base T "most_lost" 4 (spD T 2 F_most_lost) []) (f : Addr) (cdv : Value) (A : Around) (outer : List Env) (s : Shared) (H : Hp) (E : XK) (hr : Room 9 (A.deeper (envOfC "law" (defScope s_law) s.heap.objs.size f cdv))) : PSsf (cxOf CX0 P w K mg base ["_law_script", "_law_hand_here", "_law_people", "_law_lost_here", "_law_coins", "_law_told", "_law_k", "_law_lot", "_law_borne"] "law" (defScope s_law) f cdv A outer s H E).nox T ((defBody s_law).drop 1) f_law := by
  delta f_law
  exact (pssf_cons (psf_set (i := 2) sc_law.nd (pef_callI (g__law_few_people.cal hr) (pai_here (i := 1) paf_nil) (len_here len_nil)))
      (pssf_cons (psf_set (i := 3) sc_law.nd (pef_callI (g__law_lost.cal hr) (pai_here (i := 1) paf_nil) (len_here len_nil)))
      (pssf_cons (psf_set (i := 4) sc_law.nd (pef_callI (g__law_loss_pool.cal hr) (pai_here (i := 1) (paf_cons pef_int (paf_cons (pef_var (i := 2)) (paf_cons (pef_var (i := 3)) paf_nil)))) (len_here (len_cons (len_cons (len_cons len_nil))))))
      (pssf_cons (psf_set (i := 5) sc_law.nd (pef_call [] (g_serves_after.cal hr) (paf_cons (pef_callI (g__law_turned.cal hr) (pai_here (i := 1) (paf_cons (pef_var (i := 4)) paf_nil)) (len_here (len_cons len_nil))) (paf_cons (pef_var (i := 2)) (paf_cons (pef_var (i := 3)) paf_nil))) (hm := len_dd (len_cons (len_cons (len_cons len_nil))))))
      (pssf_cons (psf_if (ptf_cp c_isnot (pef_var (i := 5)) pef_non) (pssf_one (psf_ret (pef_callI (g__law_fallen_right.cal hr) (pai_here (i := 1) (paf_cons (pef_var (i := 4)) (paf_cons (pef_var (i := 2)) (paf_cons (pef_var (i := 3)) (paf_cons (pef_var (i := 5)) paf_nil))))) (len_here (len_cons (len_cons (len_cons (len_cons len_nil)))))))) pssf_nil)
      (pssf_cons (psf_for PassesOwn.never rfl (pif_range1 (t.z_range) (paf_cons pef_int paf_nil)) (pgf_name (i := 6) sc_law.nd) (pssf_cons (psf_set (i := 7) sc_law.nd (pef_callI (g__law_drawn_lot.cal hr) (pai_here (i := 1) (paf_cons (pef_var (i := 4)) (paf_cons (pef_var (i := 3)) paf_nil))) (len_here (len_cons (len_cons len_nil)))))
      (pssf_one (psf_if (ptf_not (ptf_tru (pef_callI (g__law_rest_right.cal hr) (pai_here (i := 1) (paf_cons (pef_var (i := 4)) (paf_cons (pef_var (i := 2)) (paf_cons (pef_var (i := 7)) (paf_cons (pef_sub (pef_var (i := 3)) (pef_bf b_len (t.z_len) (paf_cons (pef_var (i := 7)) paf_nil))) paf_nil))))) (len_here (len_cons (len_cons (len_cons (len_cons len_nil)))))))) (pssf_one (psf_ret pef_bl)) pssf_nil))))
      (pssf_cons (psf_set (i := 8) sc_law.nd (pef_call [] (g_most_lost.cal hr) (paf_cons (pef_var (i := 4)) (paf_cons (pef_var (i := 2)) paf_nil)) (hm := len_dd (len_cons (len_cons len_nil)))))
      (pssf_cons (psf_if (ptf_cp c_is (pef_var (i := 8)) pef_non) (pssf_one (psf_ret (pef_cp c_is (pef_call [] (g_serves_after.cal hr) (paf_cons (pef_var (i := 4)) (paf_cons (pef_var (i := 2)) (paf_cons pef_int paf_nil))) (hm := len_dd (len_cons (len_cons (len_cons len_nil))))) pef_non))) pssf_nil)
      (pssf_cons (psf_if (PWf.pt (pwf_or (ptf_cp c_lt (pef_var (i := 8)) (pef_var (i := 3))) (pwf_or1 (ptf_cp c_isnot (pef_call [] (g_serves_after.cal hr) (paf_cons (pef_var (i := 4)) (paf_cons (pef_var (i := 2)) (paf_cons (pef_var (i := 8)) paf_nil))) (hm := len_dd (len_cons (len_cons (len_cons len_nil))))) pef_non)))) (pssf_one (psf_ret pef_bl)) pssf_nil)
      (pssf_one (psf_ret (pef_callI (g__law_fallen_right.cal hr) (pai_here (i := 1) (paf_cons (pef_var (i := 4)) (paf_cons (pef_var (i := 2)) (paf_cons (pef_add (pef_var (i := 8)) pef_int) (paf_cons (pef_call [] (g_serves_after.cal hr) (paf_cons (pef_var (i := 4)) (paf_cons (pef_var (i := 2)) (paf_cons (pef_add (pef_var (i := 8)) pef_int) paf_nil))) (hm := len_dd (len_cons (len_cons (len_cons len_nil))))) paf_nil))))) (len_here (len_cons (len_cons (len_cons (len_cons len_nil)))))))))))))))))
theorem p_law_ (t : Txt K mg T) (f : Addr) (cdv : Value) (A : Around) (outer : List Env) (s : Shared) (H : Hp) (E : XK) (hr : Room 9 (A.deeper (envOfC "law" (defScope s_law) s.heap.objs.size f cdv))) : PSsf (cxOf CX0 P w K mg base ["_law_script", "_law_hand_here", "_law_people", "_law_lost_here", "_law_coins", "_law_told", "_law_k", "_law_lot", "_law_borne"] "law" (defScope s_law) f cdv A outer s H E).nox T ((defBody s_law).drop 1) f_law := p_law t (g__law_few_people_ t) (g__law_lost_ t) (g__law_loss_pool_ t) (g_serves_after_ t) (g__law_turned_ t) (g__law_fallen_right_ t) (g__law_drawn_lot_ t) (g__law_rest_right_ t) (g_most_lost_ t) f cdv A outer s H E hr
end
end K79
end

section
set_option Elab.async false
set_option linter.all false
set_option autoImplicit false
set_option maxRecDepth 100000
set_option maxHeartbeats 4000000
namespace K79
open PySem PySem.Spec PyProof.Rows L2 Fl
section
variable {P : Program} {w : World} {K : PySem.W.Frag} {mg : Str → Option Value} {base : Heap} {T : Tab}
theorem ok_hand {f : Addr} {fd : FuncData} (F : Fun K "_law_hand" "_law_hand" s__law_hand f fd) (z1 : mg "enumerate" = none) (z2 : mg "int" = none) (z3 : mg "abs" = none) : FnOk P w K mg base CX0 1 f fd ["_law_script"] (spHand K) := by
  refine F.ok sc__law_hand (fun vs H Q E h => ?_) (fun cdv A outer s H vs Q E hr h => ?_)
  · obtain ⟨a, ns, rfl, _⟩ := h
    rfl
  · obtain ⟨a, ns, rfl, hS, hlen, q⟩ := h
    refine ⟨_, pss_cons (ps_set (i := 1) sc__law_hand.nd rfl (.inl rfl) pe_int) (pss_cons (ps_for PassesOwn.never rfl (pi_enum (by rfl) z1 (pa_cons (pv 0) pa_nil)) (pg_tup rfl (pgs_cons (pg_name (i := 2) sc__law_hand.nd rfl (.inl rfl)) (pgs_cons (pg_name (i := 3) sc__law_hand.nd rfl (.inl rfl)) pgs_nil)))
        (pss_one (ps_set (i := 1) sc__law_hand.nd rfl (.inl rfl) (pe_op op_mod (pe_callTy call_int1 (by rfl) z2 (by decide +kernel) (pa_cons (pe_op op_add (pe_op op_mul (pv 1) pe_int) (pe_op op_mul (pe_callTy call_int1 (by rfl) z2 (by decide +kernel) (pa_cons (pv 3) pa_nil)) (pe_op op_add (pv 2) pe_int))) pa_nil)) pe_int))))
      (pss_one (ps_ret (pe_lst (pa_cons (pe_lc (own := [("_law_cell", 3)]) (g := gName 3) (tt := tYes) rfl sc__law_hand.nd (pi_list (pv 0)) (blkOk_by (own := [("_law_cell", 3)]) (N := ["_law_script", "_law_total", "_law_k", "_law_cell"]) (sc := defScope s__law_hand) (by decide +kernel)) (fun _ _ _ _ _ => pg_name (i := 3) sc__law_hand.nd rfl (Or.inl rfl)) (fun _ _ _ _ _ => pts_nil)
        (fun _ _ _ _ _ => pe_callB call_abs (by rfl) z3 (by decide +kernel) (pa_cons (pe_callTy call_int1 (by rfl) z2 (by decide +kernel) (pa_cons (pv 3) pa_nil)) pa_nil))) (pa_cons pe_int (pa_cons pe_int (pa_cons (pv 1) pa_nil)))))))), ?_⟩
    refine ⟨.ref a, rfl, a, ns.map V.int, rfl, hS, ?_⟩
    refine for_it (walk_enum (xs := ns.map V.int)) (fun i σ H' => ∃ (t : Int) (y2 y3 : Option V), σ = [some (.ref a), some (.int t), y2, y3] ∧ Same H H' ∧ handTot t i (ns.drop i) = handTot 0 0 ns ∧ -(2 ^ 64) < t ∧ t < 2 ^ 64) ?_ ?_ ?_ ?_
    · exact ⟨0, none, none, rfl, Same.refl H, rfl, by decide, by decide⟩
    · rintro i σ H' _ ⟨t, y2, y3, _, sm, _⟩
      exact sm.seq hS
    · rintro i x σ H1 H2 hi ⟨t, y2, y3, rfl, sm, ht, b1, b2⟩ ⟨p, x1, x2, rfl, hp, rfl, hx1, hx2⟩
      have hi' : i < ns.length := by simpa using hi
      cases hx1
      have ex : x2 = .int ns[i] := by
        have hx2 : (ns.map V.int)[i]? = some x2 := hx2
        rw [List.getElem?_map, List.getElem?_eq_getElem hi'] at hx2
        exact (Option.some.inj hx2).symm
      subst ex
      have hl6 : (i : Int) + 7 < 2 ^ 64 := by omega
      refine ⟨p, [.int (i : Nat), .int ns[i]], rfl, .inl (.inl upd_same), rfl, .int (i : Nat), [.int ns[i]], rfl, .int ns[i], [], rfl, rfl, ?_⟩
      refine ⟨.int t, rfl, t, 31, rfl, rfl, .inl ⟨b1, b2⟩, .int ns[i], rfl, .inl ⟨ns[i], rfl, .int (i : Nat), rfl, (i : Nat), 7, rfl, rfl, ns[i], (i : Nat) + 7, rfl, rfl, .inr ⟨by omega, hl6⟩, _, _, rfl, rfl, .inl ⟨_, rfl, _, 2147483629, rfl, rfl, (show (0 : Int) < 2147483629 by decide), ?_⟩⟩⟩
      refine ⟨_, _, _, rfl, fun b o e => ?_, ?_, ?_, ?_⟩
      · rw [upd_ne (ne_of_none (sm b o e) hp)]
        exact sm b o e
      · rw [List.drop_eq_getElem_cons hi'] at ht
        exact ht
      · have := Int.emod_nonneg (t * 31 + ns[i] * ((i : Nat) + 7)) (show (2147483629 : Int) ≠ 0 by decide)
        omega
      · have := Int.emod_lt_of_pos (t * 31 + ns[i] * ((i : Nat) + 7)) (show (0 : Int) < 2147483629 by decide)
        omega
    · rintro σ H1 ⟨t, y2, y3, rfl, sm, ht, b1, b2⟩
      rw [List.length_map, List.drop_length] at ht
      have ht : t = handTot 0 0 ns := ht
      subst ht
      have hS1 := sm.seq hS
      refine ⟨.ref a, rfl, a, rfl, ⟨_, hS1⟩, fun D hD => ?_⟩
      refine lc_it (walk_list (xs := ns.map V.int)) (fun i H' => H' = upd H1 D (.lst ((ns.take i).map fun n => .int (absI n)))) rfl ?_ ?_ ?_
      · rintro i H' _ rfl
        exact Same.seq (fun b o e => by rw [upd_ne (ne_of_none e hD)]; exact e) hS1
      · rintro i x H2 H3 hi rfl ⟨rfl, hx⟩
        have hi' : i < ns.length := by simpa using hi
        have ex : x = .int ns[i] := by
          rw [List.getElem?_map, List.getElem?_eq_getElem hi'] at hx
          exact (Option.some.inj hx).symm
        subst ex
        refine ⟨rfl, ?_⟩
        unfold tYes
        dsimp only
        rw [if_pos rfl]
        refine ⟨.int ns[i], rfl, .inl ⟨ns[i], rfl, ns[i], rfl, _, upd_same, ?_, ?_⟩⟩
        · exact small1000 (by simp; omega)
        · rw [L2.upd_upd, List.take_add_one, List.getElem?_eq_getElem hi', List.map_append]
          rfl
      · rintro H2 rfl
        have e : (ns.take (ns.map V.int).length) = ns := by rw [List.length_map]; exact List.take_length
        rw [e]
        refine ⟨.int (handTot 0 0 ns), rfl, Nat.le_of_lt (small1000 (show 4 ≤ 1000 by decide)), fun p hp => ?_⟩
        have nD : p ≠ D := fun z => by rw [z, upd_same] at hp; cases hp
        have hp1 : H1 p = none := by rw [upd_ne nD] at hp; exact hp
        refine q _ p D (fun b o e => ?_) (sm.free hp1) (sm.free hD) nD ?_ upd_same
        · have e1 := sm b o e
          rw [upd_ne (ne_of_none e1 hp1), upd_ne (ne_of_none e1 hD)]
          exact e1
        · rw [upd_ne (Ne.symm nD), upd_same]
theorem ok_law {f : Addr} {fd : FuncData} (t : Txt K mg T) (F : Fun K "law" "law" s_law f fd) (hf : LawTrue f_law 7) : FnOk P w K mg base CX0 10 f fd ["_law_script"] (spLaw K) := by
  obtain ⟨fH, fdH, FH, gH⟩ := t.d__law_hand
  have bH : Binds K fdH ["_law_script"] [] := FH.binds fun _ _ _ _ _ _ us hl => match us, hl with | [_], _ => rfl
  refine F.ok sc_law (fun vs H Q E h => ?_) (fun cdv A outer s H vs Q E hr h => ?_)
  · obtain ⟨a, ns, rfl, _⟩ := h
    rfl
  · obtain ⟨a, ns, rfl, hS, hlen, q⟩ := h
    refine ⟨_, pss_cons (ps_set (i := 1) sc_law.nd rfl (.inl rfl) (pe_call ((ok_hand FH t.z_enumerate t.z_int t.z_abs).mono (by decide)) hr (by rfl) gH FH.kp bH .nil pass0 (pa_cons (pv 0) pa_nil))) (p_law_ t f cdv A outer s H E hr).ps, ?_⟩
    refine ⟨.ref a, rfl, a, ns, rfl, hS, by omega, fun H' p qq sm hp hq ne h1 h2 => ?_⟩
    exact law_run hf hlen sm hp hq ne h1 h2 rfl q
end
end K79
end

section
set_option Elab.async false
set_option linter.all false
set_option autoImplicit false
set_option maxRecDepth 100000
set_option maxHeartbeats 4000000
namespace K79
open PySem PySem.Spec PyProof.Rows L2 Fl
theorem all_mk {l : PySem.W.OpenLaw} {w : World} {K : PySem.W.Frag} {h : Heap} {mg : Str → Option Value} {fa : Addr} (hl : LawTrue f_law 7) (X : K.In h) (G : h.Ns mainGlobals mg) (hfa : mg "law" = some (.ref fa))
    {f0 : Addr} {oc0 kV0 dc0 pm0 cd0 ct0 : Value} {od0 an0 : Option Addr} {sl0 : Array (Option Value)}
    {f1 : Addr} {oc1 kV1 dc1 pm1 cd1 ct1 : Value} {od1 an1 : Option Addr} {sl1 : Array (Option Value)}
    {f2 : Addr} {oc2 kV2 dc2 pm2 cd2 ct2 : Value} {od2 an2 : Option Addr} {sl2 : Array (Option Value)}
    {f3 : Addr} {oc3 kV3 dc3 pm3 cd3 ct3 : Value} {od3 an3 : Option Addr} {sl3 : Array (Option Value)}
    {f4 : Addr} {oc4 kV4 dc4 pm4 cd4 ct4 : Value} {od4 an4 : Option Addr} {sl4 : Array (Option Value)}
    {f5 : Addr} {oc5 kV5 dc5 pm5 cd5 ct5 : Value} {od5 an5 : Option Addr} {sl5 : Array (Option Value)}
    {f6 : Addr} {oc6 kV6 dc6 pm6 cd6 ct6 : Value} {od6 an6 : Option Addr} {sl6 : Array (Option Value)}
    {f7 : Addr} {oc7 kV7 dc7 pm7 cd7 ct7 : Value} {od7 an7 : Option Addr} {sl7 : Array (Option Value)}
    {f8 : Addr} {oc8 kV8 dc8 pm8 cd8 ct8 : Value} {od8 an8 : Option Addr} {sl8 : Array (Option Value)}
    {f9 : Addr} {oc9 kV9 dc9 pm9 cd9 ct9 : Value} {od9 an9 : Option Addr} {sl9 : Array (Option Value)}
    {f10 : Addr} {oc10 kV10 dc10 pm10 cd10 ct10 : Value} {od10 an10 : Option Addr} {sl10 : Array (Option Value)}
    {f11 : Addr} {oc11 kV11 dc11 pm11 cd11 ct11 : Value} {od11 an11 : Option Addr} {sl11 : Array (Option Value)}
    {T11 : Addr} {to11 : Value} {td11 : Option Addr} {tn11 : Nat} {ts11 : Array (Option Value)} {tk11_0 : Tok}
    {f12 : Addr} {oc12 kV12 dc12 pm12 cd12 ct12 : Value} {od12 an12 : Option Addr} {sl12 : Array (Option Value)}
    {f13 : Addr} {oc13 kV13 dc13 pm13 cd13 ct13 : Value} {od13 an13 : Option Addr} {sl13 : Array (Option Value)}
    {f14 : Addr} {oc14 kV14 dc14 pm14 cd14 ct14 : Value} {od14 an14 : Option Addr} {sl14 : Array (Option Value)}
    {f15 : Addr} {oc15 kV15 dc15 pm15 cd15 ct15 : Value} {od15 an15 : Option Addr} {sl15 : Array (Option Value)}
    {f16 : Addr} {oc16 kV16 dc16 pm16 cd16 ct16 : Value} {od16 an16 : Option Addr} {sl16 : Array (Option Value)}
    {f17 : Addr} {oc17 kV17 dc17 pm17 cd17 ct17 : Value} {od17 an17 : Option Addr} {sl17 : Array (Option Value)}
    {f18 : Addr} {oc18 kV18 dc18 pm18 cd18 ct18 : Value} {od18 an18 : Option Addr} {sl18 : Array (Option Value)}
    {f19 : Addr} {oc19 kV19 dc19 pm19 cd19 ct19 : Value} {od19 an19 : Option Addr} {sl19 : Array (Option Value)}
    {f20 : Addr} {oc20 kV20 dc20 pm20 cd20 ct20 : Value} {od20 an20 : Option Addr} {sl20 : Array (Option Value)}
    {f21 : Addr} {oc21 kV21 dc21 pm21 cd21 ct21 : Value} {od21 an21 : Option Addr} {sl21 : Array (Option Value)}
    {f22 : Addr} {oc22 kV22 dc22 pm22 cd22 ct22 : Value} {od22 an22 : Option Addr} {sl22 : Array (Option Value)}
    {f23 : Addr} {oc23 kV23 dc23 pm23 cd23 ct23 : Value} {od23 an23 : Option Addr} {sl23 : Array (Option Value)}
    {f24 : Addr} {oc24 kV24 dc24 pm24 cd24 ct24 : Value} {od24 an24 : Option Addr} {sl24 : Array (Option Value)}
    {f25 : Addr} {oc25 kV25 dc25 pm25 cd25 ct25 : Value} {od25 an25 : Option Addr} {sl25 : Array (Option Value)}
    {f26 : Addr} {oc26 kV26 dc26 pm26 cd26 ct26 : Value} {od26 an26 : Option Addr} {sl26 : Array (Option Value)}
    {f27 : Addr} {oc27 kV27 dc27 pm27 cd27 ct27 : Value} {od27 an27 : Option Addr} {sl27 : Array (Option Value)}
    {f28 : Addr} {oc28 kV28 dc28 pm28 cd28 ct28 : Value} {od28 an28 : Option Addr} {sl28 : Array (Option Value)}
    {f29 : Addr} {oc29 kV29 dc29 pm29 cd29 ct29 : Value} {od29 an29 : Option Addr} {sl29 : Array (Option Value)}
    {f30 : Addr} {oc30 kV30 dc30 pm30 cd30 ct30 : Value} {od30 an30 : Option Addr} {sl30 : Array (Option Value)}
    {f31 : Addr} {oc31 kV31 dc31 pm31 cd31 ct31 : Value} {od31 an31 : Option Addr} {sl31 : Array (Option Value)}
    {f32 : Addr} {oc32 kV32 dc32 pm32 cd32 ct32 : Value} {od32 an32 : Option Addr} {sl32 : Array (Option Value)}
    {f33 : Addr} {oc33 kV33 dc33 pm33 cd33 ct33 : Value} {od33 an33 : Option Addr} {sl33 : Array (Option Value)}
    {f34 : Addr} {oc34 kV34 dc34 pm34 cd34 ct34 : Value} {od34 an34 : Option Addr} {sl34 : Array (Option Value)}
    {f35 : Addr} {oc35 kV35 dc35 pm35 cd35 ct35 : Value} {od35 an35 : Option Addr} {sl35 : Array (Option Value)}
    {f36 : Addr} {oc36 kV36 dc36 pm36 cd36 ct36 : Value} {od36 an36 : Option Addr} {sl36 : Array (Option Value)}
    {f37 : Addr} {oc37 kV37 dc37 pm37 cd37 ct37 : Value} {od37 an37 : Option Addr} {sl37 : Array (Option Value)}
    {f38 : Addr} {oc38 kV38 dc38 pm38 cd38 ct38 : Value} {od38 an38 : Option Addr} {sl38 : Array (Option Value)}
    {f39 : Addr} {oc39 kV39 dc39 pm39 cd39 ct39 : Value} {od39 an39 : Option Addr} {sl39 : Array (Option Value)}
    {f40 : Addr} {oc40 kV40 dc40 pm40 cd40 ct40 : Value} {od40 an40 : Option Addr} {sl40 : Array (Option Value)}
    {f41 : Addr} {oc41 kV41 dc41 pm41 cd41 ct41 : Value} {od41 an41 : Option Addr} {sl41 : Array (Option Value)}
    {f42 : Addr} {oc42 kV42 dc42 pm42 cd42 ct42 : Value} {od42 an42 : Option Addr} {sl42 : Array (Option Value)}
    {f43 : Addr} {oc43 kV43 dc43 pm43 cd43 ct43 : Value} {od43 an43 : Option Addr} {sl43 : Array (Option Value)}
    {T43 : Addr} {to43 : Value} {td43 : Option Addr} {tn43 : Nat} {ts43 : Array (Option Value)} {tk43_0 : Tok}
    {f44 : Addr} {oc44 kV44 dc44 pm44 cd44 ct44 : Value} {od44 an44 : Option Addr} {sl44 : Array (Option Value)}
    {f45 : Addr} {oc45 kV45 dc45 pm45 cd45 ct45 : Value} {od45 an45 : Option Addr} {sl45 : Array (Option Value)}
    {f46 : Addr} {oc46 kV46 dc46 pm46 cd46 ct46 : Value} {od46 an46 : Option Addr} {sl46 : Array (Option Value)}
    {f47 : Addr} {oc47 kV47 dc47 pm47 cd47 ct47 : Value} {od47 an47 : Option Addr} {sl47 : Array (Option Value)}
    {f48 : Addr} {oc48 kV48 dc48 pm48 cd48 ct48 : Value} {od48 an48 : Option Addr} {sl48 : Array (Option Value)}
    {f49 : Addr} {oc49 kV49 dc49 pm49 cd49 ct49 : Value} {od49 an49 : Option Addr} {sl49 : Array (Option Value)}
    {f50 : Addr} {oc50 kV50 dc50 pm50 cd50 ct50 : Value} {od50 an50 : Option Addr} {sl50 : Array (Option Value)}
    {f51 : Addr} {oc51 kV51 dc51 pm51 cd51 ct51 : Value} {od51 an51 : Option Addr} {sl51 : Array (Option Value)}
    {f52 : Addr} {oc52 kV52 dc52 pm52 cd52 ct52 : Value} {od52 an52 : Option Addr} {sl52 : Array (Option Value)}
    {f53 : Addr} {oc53 kV53 dc53 pm53 cd53 ct53 : Value} {od53 an53 : Option Addr} {sl53 : Array (Option Value)}
    {f54 : Addr} {oc54 kV54 dc54 pm54 cd54 ct54 : Value} {od54 an54 : Option Addr} {sl54 : Array (Option Value)}
    {f55 : Addr} {oc55 kV55 dc55 pm55 cd55 ct55 : Value} {od55 an55 : Option Addr} {sl55 : Array (Option Value)}
    {f56 : Addr} {oc56 kV56 dc56 pm56 cd56 ct56 : Value} {od56 an56 : Option Addr} {sl56 : Array (Option Value)}
    {f57 : Addr} {oc57 kV57 dc57 pm57 cd57 ct57 : Value} {od57 an57 : Option Addr} {sl57 : Array (Option Value)}
    {f58 : Addr} {oc58 kV58 dc58 pm58 cd58 ct58 : Value} {od58 an58 : Option Addr} {sl58 : Array (Option Value)}
    {C0 g0 : Addr} {Ooc0 OkV0 Odc0 Opm0 Ocd0 Oct0 : Value} {Ood0 Oan0 : Option Addr} {Osl0 : Array (Option Value)}
    {C1 g1 : Addr} {Ooc1 OkV1 Odc1 Opm1 Ocd1 Oct1 : Value} {Ood1 Oan1 : Option Addr} {Osl1 : Array (Option Value)}
    {C2 g2 : Addr} {Ooc2 OkV2 Odc2 Opm2 Ocd2 Oct2 : Value} {Ood2 Oan2 : Option Addr} {Osl2 : Array (Option Value)}
    {C3 g3 : Addr} {Ooc3 OkV3 Odc3 Opm3 Ocd3 Oct3 : Value} {Ood3 Oan3 : Option Addr} {Osl3 : Array (Option Value)}
    {q_MOST_AMOUNT : Tok}
    {q_MOST_COINS : Tok}
    {q_MOST_ENTRIES : Tok}
    {q_MOST_PEOPLE : Tok}
    {q_MOST_WORTH : Tok}
    (a0 : PySem.W.nsIn K mainGlobals "_law_hand" = some (some (.ref f0)))
    (l0 : K.lookup f0 = some ⟨oc0, od0, .func (PySem.W.fnOf "_law_hand" "_law_hand" (defArgs s__law_hand) (defBody s__law_hand) (defScope s__law_hand) .none kV0 dc0 pm0 an0 cd0 ct0), sl0⟩)
    (c0 : PySem.W.codeIn K cd0 "_law_hand" = true) (k0 : PySem.W.keepIn K (.ref f0) = true)
    (a1 : PySem.W.nsIn K mainGlobals "_law_mix" = some (some (.ref f1)))
    (l1 : K.lookup f1 = some ⟨oc1, od1, .func (PySem.W.fnOf "_law_mix" "_law_mix" (defArgs s__law_mix) (defBody s__law_mix) (defScope s__law_mix) .none kV1 dc1 pm1 an1 cd1 ct1), sl1⟩)
    (c1 : PySem.W.codeIn K cd1 "_law_mix" = true) (k1 : PySem.W.keepIn K (.ref f1) = true)
    (a2 : PySem.W.nsIn K mainGlobals "_law_draw" = some (some (.ref f2)))
    (l2 : K.lookup f2 = some ⟨oc2, od2, .func (PySem.W.fnOf "_law_draw" "_law_draw" (defArgs s__law_draw) (defBody s__law_draw) (defScope s__law_draw) .none kV2 dc2 pm2 an2 cd2 ct2), sl2⟩)
    (c2 : PySem.W.codeIn K cd2 "_law_draw" = true) (k2 : PySem.W.keepIn K (.ref f2) = true)
    (a3 : PySem.W.nsIn K mainGlobals "_law_few_people" = some (some (.ref f3)))
    (l3 : K.lookup f3 = some ⟨oc3, od3, .func (PySem.W.fnOf "_law_few_people" "_law_few_people" (defArgs s__law_few_people) (defBody s__law_few_people) (defScope s__law_few_people) .none kV3 dc3 pm3 an3 cd3 ct3), sl3⟩)
    (c3 : PySem.W.codeIn K cd3 "_law_few_people" = true) (k3 : PySem.W.keepIn K (.ref f3) = true)
    (a4 : PySem.W.nsIn K mainGlobals "_law_lost" = some (some (.ref f4)))
    (l4 : K.lookup f4 = some ⟨oc4, od4, .func (PySem.W.fnOf "_law_lost" "_law_lost" (defArgs s__law_lost) (defBody s__law_lost) (defScope s__law_lost) .none kV4 dc4 pm4 an4 cd4 ct4), sl4⟩)
    (c4 : PySem.W.codeIn K cd4 "_law_lost" = true) (k4 : PySem.W.keepIn K (.ref f4) = true)
    (a5 : PySem.W.nsIn K mainGlobals "_law_room" = some (some (.ref f5)))
    (l5 : K.lookup f5 = some ⟨oc5, od5, .func (PySem.W.fnOf "_law_room" "_law_room" (defArgs s__law_room) (defBody s__law_room) (defScope s__law_room) .none kV5 dc5 pm5 an5 cd5 ct5), sl5⟩)
    (c5 : PySem.W.codeIn K cd5 "_law_room" = true) (k5 : PySem.W.keepIn K (.ref f5) = true)
    (a6 : PySem.W.nsIn K mainGlobals "_law_bearing" = some (some (.ref f6)))
    (l6 : K.lookup f6 = some ⟨oc6, od6, .func (PySem.W.fnOf "_law_bearing" "_law_bearing" (defArgs s__law_bearing) (defBody s__law_bearing) (defScope s__law_bearing) .none kV6 dc6 pm6 an6 cd6 ct6), sl6⟩)
    (c6 : PySem.W.codeIn K cd6 "_law_bearing" = true) (k6 : PySem.W.keepIn K (.ref f6) = true)
    (a7 : PySem.W.nsIn K mainGlobals "_law_loss_pool" = some (some (.ref f7)))
    (l7 : K.lookup f7 = some ⟨oc7, od7, .func (PySem.W.fnOf "_law_loss_pool" "_law_loss_pool" (defArgs s__law_loss_pool) (defBody s__law_loss_pool) (defScope s__law_loss_pool) .none kV7 dc7 pm7 an7 cd7 ct7), sl7⟩)
    (c7 : PySem.W.codeIn K cd7 "_law_loss_pool" = true) (k7 : PySem.W.keepIn K (.ref f7) = true)
    (a8 : PySem.W.nsIn K mainGlobals "is_sequence" = some (some (.ref f8)))
    (l8 : K.lookup f8 = some ⟨oc8, od8, .func (PySem.W.fnOf "is_sequence" "is_sequence" (defArgs s_is_sequence) (defBody s_is_sequence) (defScope s_is_sequence) .none kV8 dc8 pm8 an8 cd8 ct8), sl8⟩)
    (c8 : PySem.W.codeIn K cd8 "is_sequence" = true) (k8 : PySem.W.keepIn K (.ref f8) = true)
    (a9 : PySem.W.nsIn K mainGlobals "is_whole" = some (some (.ref f9)))
    (l9 : K.lookup f9 = some ⟨oc9, od9, .func (PySem.W.fnOf "is_whole" "is_whole" (defArgs s_is_whole) (defBody s_is_whole) (defScope s_is_whole) .none kV9 dc9 pm9 an9 cd9 ct9), sl9⟩)
    (c9 : PySem.W.codeIn K cd9 "is_whole" = true) (k9 : PySem.W.keepIn K (.ref f9) = true)
    (a10 : PySem.W.nsIn K mainGlobals "check_pool" = some (some (.ref f10)))
    (l10 : K.lookup f10 = some ⟨oc10, od10, .func (PySem.W.fnOf "check_pool" "check_pool" (defArgs s_check_pool) (defBody s_check_pool) (defScope s_check_pool) .none kV10 dc10 pm10 an10 cd10 ct10), sl10⟩)
    (c10 : PySem.W.codeIn K cd10 "check_pool" = true) (k10 : PySem.W.keepIn K (.ref f10) = true)
    (a11 : PySem.W.nsIn K mainGlobals "check_people" = some (some (.ref f11)))
    (l11 : K.lookup f11 = some ⟨oc11, od11, .func (PySem.W.fnOf "check_people" "check_people" (defArgs s_check_people) (defBody s_check_people) (defScope s_check_people) (.ref T11) kV11 dc11 pm11 an11 cd11 ct11), sl11⟩)
    (c11 : PySem.W.codeIn K cd11 "check_people" = true) (k11 : PySem.W.keepIn K (.ref f11) = true)
    (lT11 : K.lookup T11 = some ⟨to11, td11, .seq (List.toArray [.int 1 tk11_0] ) tn11, ts11⟩)
    (a12 : PySem.W.nsIn K mainGlobals "check_lost" = some (some (.ref f12)))
    (l12 : K.lookup f12 = some ⟨oc12, od12, .func (PySem.W.fnOf "check_lost" "check_lost" (defArgs s_check_lost) (defBody s_check_lost) (defScope s_check_lost) .none kV12 dc12 pm12 an12 cd12 ct12), sl12⟩)
    (c12 : PySem.W.codeIn K cd12 "check_lost" = true) (k12 : PySem.W.keepIn K (.ref f12) = true)
    (a13 : PySem.W.nsIn K mainGlobals "covers_of" = some (some (.ref f13)))
    (l13 : K.lookup f13 = some ⟨oc13, od13, .func (PySem.W.fnOf "covers_of" "covers_of" (defArgs s_covers_of) (defBody s_covers_of) (defScope s_covers_of) .none kV13 dc13 pm13 an13 cd13 ct13), sl13⟩)
    (c13 : PySem.W.codeIn K cd13 "covers_of" = true) (k13 : PySem.W.keepIn K (.ref f13) = true)
    (a14 : PySem.W.nsIn K mainGlobals "first_fallen" = some (some (.ref f14)))
    (l14 : K.lookup f14 = some ⟨oc14, od14, .func (PySem.W.fnOf "first_fallen" "first_fallen" (defArgs s_first_fallen) (defBody s_first_fallen) (defScope s_first_fallen) .none kV14 dc14 pm14 an14 cd14 ct14), sl14⟩)
    (c14 : PySem.W.codeIn K cd14 "first_fallen" = true) (k14 : PySem.W.keepIn K (.ref f14) = true)
    (a15 : PySem.W.nsIn K mainGlobals "running_sums" = some (some (.ref f15)))
    (l15 : K.lookup f15 = some ⟨oc15, od15, .func (PySem.W.fnOf "running_sums" "running_sums" (defArgs s_running_sums) (defBody s_running_sums) (defScope s_running_sums) .none kV15 dc15 pm15 an15 cd15 ct15), sl15⟩)
    (c15 : PySem.W.codeIn K cd15 "running_sums" = true) (k15 : PySem.W.keepIn K (.ref f15) = true)
    (a16 : PySem.W.nsIn K mainGlobals "parted_up" = some (some (.ref f16)))
    (l16 : K.lookup f16 = some ⟨oc16, od16, .func (PySem.W.fnOf "parted_up" "parted_up" (defArgs s_parted_up) (defBody s_parted_up) (defScope s_parted_up) .none kV16 dc16 pm16 an16 cd16 ct16), sl16⟩)
    (c16 : PySem.W.codeIn K cd16 "parted_up" = true) (k16 : PySem.W.keepIn K (.ref f16) = true)
    (a17 : PySem.W.nsIn K mainGlobals "failing_places" = some (some (.ref f17)))
    (l17 : K.lookup f17 = some ⟨oc17, od17, .func (PySem.W.fnOf "failing_places" "failing_places" (defArgs s_failing_places) (defBody s_failing_places) (defScope s_failing_places) .none kV17 dc17 pm17 an17 cd17 ct17), sl17⟩)
    (c17 : PySem.W.codeIn K cd17 "failing_places" = true) (k17 : PySem.W.keepIn K (.ref f17) = true)
    (a18 : PySem.W.nsIn K mainGlobals "parted_evenly" = some (some (.ref f18)))
    (l18 : K.lookup f18 = some ⟨oc18, od18, .func (PySem.W.fnOf "parted_evenly" "parted_evenly" (defArgs s_parted_evenly) (defBody s_parted_evenly) (defScope s_parted_evenly) .none kV18 dc18 pm18 an18 cd18 ct18), sl18⟩)
    (c18 : PySem.W.codeIn K cd18 "parted_evenly" = true) (k18 : PySem.W.keepIn K (.ref f18) = true)
    (a19 : PySem.W.nsIn K mainGlobals "serves" = some (some (.ref f19)))
    (l19 : K.lookup f19 = some ⟨oc19, od19, .func (PySem.W.fnOf "serves" "serves" (defArgs s_serves) (defBody s_serves) (defScope s_serves) .none kV19 dc19 pm19 an19 cd19 ct19), sl19⟩)
    (c19 : PySem.W.codeIn K cd19 "serves" = true) (k19 : PySem.W.keepIn K (.ref f19) = true)
    (a20 : PySem.W.nsIn K mainGlobals "serves_after" = some (some (.ref f20)))
    (l20 : K.lookup f20 = some ⟨oc20, od20, .func (PySem.W.fnOf "serves_after" "serves_after" (defArgs s_serves_after) (defBody s_serves_after) (defScope s_serves_after) .none kV20 dc20 pm20 an20 cd20 ct20), sl20⟩)
    (c20 : PySem.W.codeIn K cd20 "serves_after" = true) (k20 : PySem.W.keepIn K (.ref f20) = true)
    (a21 : PySem.W.nsIn K mainGlobals "most_lost" = some (some (.ref f21)))
    (l21 : K.lookup f21 = some ⟨oc21, od21, .func (PySem.W.fnOf "most_lost" "most_lost" (defArgs s_most_lost) (defBody s_most_lost) (defScope s_most_lost) .none kV21 dc21 pm21 an21 cd21 ct21), sl21⟩)
    (c21 : PySem.W.codeIn K cd21 "most_lost" = true) (k21 : PySem.W.keepIn K (.ref f21) = true)
    (a22 : PySem.W.nsIn K mainGlobals "rest_of" = some (some (.ref f22)))
    (l22 : K.lookup f22 = some ⟨oc22, od22, .func (PySem.W.fnOf "rest_of" "rest_of" (defArgs s_rest_of) (defBody s_rest_of) (defScope s_rest_of) .none kV22 dc22 pm22 an22 cd22 ct22), sl22⟩)
    (c22 : PySem.W.codeIn K cd22 "rest_of" = true) (k22 : PySem.W.keepIn K (.ref f22) = true)
    (a23 : PySem.W.nsIn K mainGlobals "has_lot" = some (some (.ref f23)))
    (l23 : K.lookup f23 = some ⟨oc23, od23, .func (PySem.W.fnOf "has_lot" "has_lot" (defArgs s_has_lot) (defBody s_has_lot) (defScope s_has_lot) .none kV23 dc23 pm23 an23 cd23 ct23), sl23⟩)
    (c23 : PySem.W.codeIn K cd23 "has_lot" = true) (k23 : PySem.W.keepIn K (.ref f23) = true)
    (a24 : PySem.W.nsIn K mainGlobals "less_lot" = some (some (.ref f24)))
    (l24 : K.lookup f24 = some ⟨oc24, od24, .func (PySem.W.fnOf "less_lot" "less_lot" (defArgs s_less_lot) (defBody s_less_lot) (defScope s_less_lot) .none kV24 dc24 pm24 an24 cd24 ct24), sl24⟩)
    (c24 : PySem.W.codeIn K cd24 "less_lot" = true) (k24 : PySem.W.keepIn K (.ref f24) = true)
    (a25 : PySem.W.nsIn K mainGlobals "checked_amounts" = some (some (.ref f25)))
    (l25 : K.lookup f25 = some ⟨oc25, od25, .func (PySem.W.fnOf "checked_amounts" "checked_amounts" (defArgs s_checked_amounts) (defBody s_checked_amounts) (defScope s_checked_amounts) .none kV25 dc25 pm25 an25 cd25 ct25), sl25⟩)
    (c25 : PySem.W.codeIn K cd25 "checked_amounts" = true) (k25 : PySem.W.keepIn K (.ref f25) = true)
    (a26 : PySem.W.nsIn K mainGlobals "check_wish" = some (some (.ref f26)))
    (l26 : K.lookup f26 = some ⟨oc26, od26, .func (PySem.W.fnOf "check_wish" "check_wish" (defArgs s_check_wish) (defBody s_check_wish) (defScope s_check_wish) .none kV26 dc26 pm26 an26 cd26 ct26), sl26⟩)
    (c26 : PySem.W.codeIn K cd26 "check_wish" = true) (k26 : PySem.W.keepIn K (.ref f26) = true)
    (a27 : PySem.W.nsIn K mainGlobals "checked_couple" = some (some (.ref f27)))
    (l27 : K.lookup f27 = some ⟨oc27, od27, .func (PySem.W.fnOf "checked_couple" "checked_couple" (defArgs s_checked_couple) (defBody s_checked_couple) (defScope s_checked_couple) .none kV27 dc27 pm27 an27 cd27 ct27), sl27⟩)
    (c27 : PySem.W.codeIn K cd27 "checked_couple" = true) (k27 : PySem.W.keepIn K (.ref f27) = true)
    (a28 : PySem.W.nsIn K mainGlobals "put_sorted" = some (some (.ref f28)))
    (l28 : K.lookup f28 = some ⟨oc28, od28, .func (PySem.W.fnOf "put_sorted" "put_sorted" (defArgs s_put_sorted) (defBody s_put_sorted) (defScope s_put_sorted) .none kV28 dc28 pm28 an28 cd28 ct28), sl28⟩)
    (c28 : PySem.W.codeIn K cd28 "put_sorted" = true) (k28 : PySem.W.keepIn K (.ref f28) = true)
    (a29 : PySem.W.nsIn K mainGlobals "next_entries" = some (some (.ref f29)))
    (l29 : K.lookup f29 = some ⟨oc29, od29, .func (PySem.W.fnOf "next_entries" "next_entries" (defArgs s_next_entries) (defBody s_next_entries) (defScope s_next_entries) .none kV29 dc29 pm29 an29 cd29 ct29), sl29⟩)
    (c29 : PySem.W.codeIn K cd29 "next_entries" = true) (k29 : PySem.W.keepIn K (.ref f29) = true)
    (a30 : PySem.W.nsIn K mainGlobals "layers_of" = some (some (.ref f30)))
    (l30 : K.lookup f30 = some ⟨oc30, od30, .func (PySem.W.fnOf "layers_of" "layers_of" (defArgs s_layers_of) (defBody s_layers_of) (defScope s_layers_of) .none kV30 dc30 pm30 an30 cd30 ct30), sl30⟩)
    (c30 : PySem.W.codeIn K cd30 "layers_of" = true) (k30 : PySem.W.keepIn K (.ref f30) = true)
    (a31 : PySem.W.nsIn K mainGlobals "earlier_entry" = some (some (.ref f31)))
    (l31 : K.lookup f31 = some ⟨oc31, od31, .func (PySem.W.fnOf "earlier_entry" "earlier_entry" (defArgs s_earlier_entry) (defBody s_earlier_entry) (defScope s_earlier_entry) .none kV31 dc31 pm31 an31 cd31 ct31), sl31⟩)
    (c31 : PySem.W.codeIn K cd31 "earlier_entry" = true) (k31 : PySem.W.keepIn K (.ref f31) = true)
    (a32 : PySem.W.nsIn K mainGlobals "chained_entries" = some (some (.ref f32)))
    (l32 : K.lookup f32 = some ⟨oc32, od32, .func (PySem.W.fnOf "chained_entries" "chained_entries" (defArgs s_chained_entries) (defBody s_chained_entries) (defScope s_chained_entries) .none kV32 dc32 pm32 an32 cd32 ct32), sl32⟩)
    (c32 : PySem.W.codeIn K cd32 "chained_entries" = true) (k32 : PySem.W.keepIn K (.ref f32) = true)
    (a33 : PySem.W.nsIn K mainGlobals "any_split" = some (some (.ref f33)))
    (l33 : K.lookup f33 = some ⟨oc33, od33, .func (PySem.W.fnOf "any_split" "any_split" (defArgs s_any_split) (defBody s_any_split) (defScope s_any_split) .none kV33 dc33 pm33 an33 cd33 ct33), sl33⟩)
    (c33 : PySem.W.codeIn K cd33 "any_split" = true) (k33 : PySem.W.keepIn K (.ref f33) = true)
    (a34 : PySem.W.nsIn K mainGlobals "_law_turned" = some (some (.ref f34)))
    (l34 : K.lookup f34 = some ⟨oc34, od34, .func (PySem.W.fnOf "_law_turned" "_law_turned" (defArgs s__law_turned) (defBody s__law_turned) (defScope s__law_turned) .none kV34 dc34 pm34 an34 cd34 ct34), sl34⟩)
    (c34 : PySem.W.codeIn K cd34 "_law_turned" = true) (k34 : PySem.W.keepIn K (.ref f34) = true)
    (a35 : PySem.W.nsIn K mainGlobals "fails_in" = some (some (.ref f35)))
    (l35 : K.lookup f35 = some ⟨oc35, od35, .func (PySem.W.fnOf "fails_in" "fails_in" (defArgs s_fails_in) (defBody s_fails_in) (defScope s_fails_in) .none kV35 dc35 pm35 an35 cd35 ct35), sl35⟩)
    (c35 : PySem.W.codeIn K cd35 "fails_in" = true) (k35 : PySem.W.keepIn K (.ref f35) = true)
    (a36 : PySem.W.nsIn K mainGlobals "fallen_fault" = some (some (.ref f36)))
    (l36 : K.lookup f36 = some ⟨oc36, od36, .func (PySem.W.fnOf "fallen_fault" "fallen_fault" (defArgs s_fallen_fault) (defBody s_fallen_fault) (defScope s_fallen_fault) .none kV36 dc36 pm36 an36 cd36 ct36), sl36⟩)
    (c36 : PySem.W.codeIn K cd36 "fallen_fault" = true) (k36 : PySem.W.keepIn K (.ref f36) = true)
    (a37 : PySem.W.nsIn K mainGlobals "_law_layers" = some (some (.ref f37)))
    (l37 : K.lookup f37 = some ⟨oc37, od37, .func (PySem.W.fnOf "_law_layers" "_law_layers" (defArgs s__law_layers) (defBody s__law_layers) (defScope s__law_layers) .none kV37 dc37 pm37 an37 cd37 ct37), sl37⟩)
    (c37 : PySem.W.codeIn K cd37 "_law_layers" = true) (k37 : PySem.W.keepIn K (.ref f37) = true)
    (a38 : PySem.W.nsIn K mainGlobals "is_entry" = some (some (.ref f38)))
    (l38 : K.lookup f38 = some ⟨oc38, od38, .func (PySem.W.fnOf "is_entry" "is_entry" (defArgs s_is_entry) (defBody s_is_entry) (defScope s_is_entry) .none kV38 dc38 pm38 an38 cd38 ct38), sl38⟩)
    (c38 : PySem.W.codeIn K cd38 "is_entry" = true) (k38 : PySem.W.keepIn K (.ref f38) = true)
    (a39 : PySem.W.nsIn K mainGlobals "has_form" = some (some (.ref f39)))
    (l39 : K.lookup f39 = some ⟨oc39, od39, .func (PySem.W.fnOf "has_form" "has_form" (defArgs s_has_form) (defBody s_has_form) (defScope s_has_form) .none kV39 dc39 pm39 an39 cd39 ct39), sl39⟩)
    (c39 : PySem.W.codeIn K cd39 "has_form" = true) (k39 : PySem.W.keepIn K (.ref f39) = true)
    (a40 : PySem.W.nsIn K mainGlobals "layers_fault" = some (some (.ref f40)))
    (l40 : K.lookup f40 = some ⟨oc40, od40, .func (PySem.W.fnOf "layers_fault" "layers_fault" (defArgs s_layers_fault) (defBody s_layers_fault) (defScope s_layers_fault) .none kV40 dc40 pm40 an40 cd40 ct40), sl40⟩)
    (c40 : PySem.W.codeIn K cd40 "layers_fault" = true) (k40 : PySem.W.keepIn K (.ref f40) = true)
    (a41 : PySem.W.nsIn K mainGlobals "_law_fallen_right" = some (some (.ref f41)))
    (l41 : K.lookup f41 = some ⟨oc41, od41, .func (PySem.W.fnOf "_law_fallen_right" "_law_fallen_right" (defArgs s__law_fallen_right) (defBody s__law_fallen_right) (defScope s__law_fallen_right) .none kV41 dc41 pm41 an41 cd41 ct41), sl41⟩)
    (c41 : PySem.W.codeIn K cd41 "_law_fallen_right" = true) (k41 : PySem.W.keepIn K (.ref f41) = true)
    (a42 : PySem.W.nsIn K mainGlobals "_law_drawn_lot" = some (some (.ref f42)))
    (l42 : K.lookup f42 = some ⟨oc42, od42, .func (PySem.W.fnOf "_law_drawn_lot" "_law_drawn_lot" (defArgs s__law_drawn_lot) (defBody s__law_drawn_lot) (defScope s__law_drawn_lot) .none kV42 dc42 pm42 an42 cd42 ct42), sl42⟩)
    (c42 : PySem.W.codeIn K cd42 "_law_drawn_lot" = true) (k42 : PySem.W.keepIn K (.ref f42) = true)
    (a43 : PySem.W.nsIn K mainGlobals "check_amount" = some (some (.ref f43)))
    (l43 : K.lookup f43 = some ⟨oc43, od43, .func (PySem.W.fnOf "check_amount" "check_amount" (defArgs s_check_amount) (defBody s_check_amount) (defScope s_check_amount) (.ref T43) kV43 dc43 pm43 an43 cd43 ct43), sl43⟩)
    (c43 : PySem.W.codeIn K cd43 "check_amount" = true) (k43 : PySem.W.keepIn K (.ref f43) = true)
    (lT43 : K.lookup T43 = some ⟨to43, td43, .seq (List.toArray [.int 0 tk43_0] ) tn43, ts43⟩)
    (a44 : PySem.W.nsIn K mainGlobals "even_wish" = some (some (.ref f44)))
    (l44 : K.lookup f44 = some ⟨oc44, od44, .func (PySem.W.fnOf "even_wish" "even_wish" (defArgs s_even_wish) (defBody s_even_wish) (defScope s_even_wish) .none kV44 dc44 pm44 an44 cd44 ct44), sl44⟩)
    (c44 : PySem.W.codeIn K cd44 "even_wish" = true) (k44 : PySem.W.keepIn K (.ref f44) = true)
    (a45 : PySem.W.nsIn K mainGlobals "_law_big" = some (some (.ref f45)))
    (l45 : K.lookup f45 = some ⟨oc45, od45, .func (PySem.W.fnOf "_law_big" "_law_big" (defArgs s__law_big) (defBody s__law_big) (defScope s__law_big) .none kV45 dc45 pm45 an45 cd45 ct45), sl45⟩)
    (c45 : PySem.W.codeIn K cd45 "_law_big" = true) (k45 : PySem.W.keepIn K (.ref f45) = true)
    (a46 : PySem.W.nsIn K mainGlobals "_law_drawn_wish" = some (some (.ref f46)))
    (l46 : K.lookup f46 = some ⟨oc46, od46, .func (PySem.W.fnOf "_law_drawn_wish" "_law_drawn_wish" (defArgs s__law_drawn_wish) (defBody s__law_drawn_wish) (defScope s__law_drawn_wish) .none kV46 dc46 pm46 an46 cd46 ct46), sl46⟩)
    (c46 : PySem.W.codeIn K cd46 "_law_drawn_wish" = true) (k46 : PySem.W.keepIn K (.ref f46) = true)
    (a47 : PySem.W.nsIn K mainGlobals "_law_less" = some (some (.ref f47)))
    (l47 : K.lookup f47 = some ⟨oc47, od47, .func (PySem.W.fnOf "_law_less" "_law_less" (defArgs s__law_less) (defBody s__law_less) (defScope s__law_less) .none kV47 dc47 pm47 an47 cd47 ct47), sl47⟩)
    (c47 : PySem.W.codeIn K cd47 "_law_less" = true) (k47 : PySem.W.keepIn K (.ref f47) = true)
    (a48 : PySem.W.nsIn K mainGlobals "_law_wishes" = some (some (.ref f48)))
    (l48 : K.lookup f48 = some ⟨oc48, od48, .func (PySem.W.fnOf "_law_wishes" "_law_wishes" (defArgs s__law_wishes) (defBody s__law_wishes) (defScope s__law_wishes) .none kV48 dc48 pm48 an48 cd48 ct48), sl48⟩)
    (c48 : PySem.W.codeIn K cd48 "_law_wishes" = true) (k48 : PySem.W.keepIn K (.ref f48) = true)
    (a49 : PySem.W.nsIn K mainGlobals "_law_whole" = some (some (.ref f49)))
    (l49 : K.lookup f49 = some ⟨oc49, od49, .func (PySem.W.fnOf "_law_whole" "_law_whole" (defArgs s__law_whole) (defBody s__law_whole) (defScope s__law_whole) .none kV49 dc49 pm49 an49 cd49 ct49), sl49⟩)
    (c49 : PySem.W.codeIn K cd49 "_law_whole" = true) (k49 : PySem.W.keepIn K (.ref f49) = true)
    (a50 : PySem.W.nsIn K mainGlobals "_law_lot_like" = some (some (.ref f50)))
    (l50 : K.lookup f50 = some ⟨oc50, od50, .func (PySem.W.fnOf "_law_lot_like" "_law_lot_like" (defArgs s__law_lot_like) (defBody s__law_lot_like) (defScope s__law_lot_like) .none kV50 dc50 pm50 an50 cd50 ct50), sl50⟩)
    (c50 : PySem.W.codeIn K cd50 "_law_lot_like" = true) (k50 : PySem.W.keepIn K (.ref f50) = true)
    (a51 : PySem.W.nsIn K mainGlobals "_law_split_like" = some (some (.ref f51)))
    (l51 : K.lookup f51 = some ⟨oc51, od51, .func (PySem.W.fnOf "_law_split_like" "_law_split_like" (defArgs s__law_split_like) (defBody s__law_split_like) (defScope s__law_split_like) .none kV51 dc51 pm51 an51 cd51 ct51), sl51⟩)
    (c51 : PySem.W.codeIn K cd51 "_law_split_like" = true) (k51 : PySem.W.keepIn K (.ref f51) = true)
    (a52 : PySem.W.nsIn K mainGlobals "_law_is_split" = some (some (.ref f52)))
    (l52 : K.lookup f52 = some ⟨oc52, od52, .func (PySem.W.fnOf "_law_is_split" "_law_is_split" (defArgs s__law_is_split) (defBody s__law_is_split) (defScope s__law_is_split) .none kV52 dc52 pm52 an52 cd52 ct52), sl52⟩)
    (c52 : PySem.W.codeIn K cd52 "_law_is_split" = true) (k52 : PySem.W.keepIn K (.ref f52) = true)
    (a53 : PySem.W.nsIn K mainGlobals "may_take" = some (some (.ref f53)))
    (l53 : K.lookup f53 = some ⟨oc53, od53, .func (PySem.W.fnOf "may_take" "may_take" (defArgs s_may_take) (defBody s_may_take) (defScope s_may_take) .none kV53 dc53 pm53 an53 cd53 ct53), sl53⟩)
    (c53 : PySem.W.codeIn K cd53 "may_take" = true) (k53 : PySem.W.keepIn K (.ref f53) = true)
    (a54 : PySem.W.nsIn K mainGlobals "first_lacking" = some (some (.ref f54)))
    (l54 : K.lookup f54 = some ⟨oc54, od54, .func (PySem.W.fnOf "first_lacking" "first_lacking" (defArgs s_first_lacking) (defBody s_first_lacking) (defScope s_first_lacking) .none kV54 dc54 pm54 an54 cd54 ct54), sl54⟩)
    (c54 : PySem.W.codeIn K cd54 "first_lacking" = true) (k54 : PySem.W.keepIn K (.ref f54) = true)
    (a55 : PySem.W.nsIn K mainGlobals "hand_out" = some (some (.ref f55)))
    (l55 : K.lookup f55 = some ⟨oc55, od55, .func (PySem.W.fnOf "hand_out" "hand_out" (defArgs s_hand_out) (defBody s_hand_out) (defScope s_hand_out) .none kV55 dc55 pm55 an55 cd55 ct55), sl55⟩)
    (c55 : PySem.W.codeIn K cd55 "hand_out" = true) (k55 : PySem.W.keepIn K (.ref f55) = true)
    (a56 : PySem.W.nsIn K mainGlobals "greatest_first" = some (some (.ref f56)))
    (l56 : K.lookup f56 = some ⟨oc56, od56, .func (PySem.W.fnOf "greatest_first" "greatest_first" (defArgs s_greatest_first) (defBody s_greatest_first) (defScope s_greatest_first) .none kV56 dc56 pm56 an56 cd56 ct56), sl56⟩)
    (c56 : PySem.W.codeIn K cd56 "greatest_first" = true) (k56 : PySem.W.keepIn K (.ref f56) = true)
    (a57 : PySem.W.nsIn K mainGlobals "_law_rest_right" = some (some (.ref f57)))
    (l57 : K.lookup f57 = some ⟨oc57, od57, .func (PySem.W.fnOf "_law_rest_right" "_law_rest_right" (defArgs s__law_rest_right) (defBody s__law_rest_right) (defScope s__law_rest_right) .none kV57 dc57 pm57 an57 cd57 ct57), sl57⟩)
    (c57 : PySem.W.codeIn K cd57 "_law_rest_right" = true) (k57 : PySem.W.keepIn K (.ref f57) = true)
    (a58 : PySem.W.nsIn K mainGlobals "law" = some (some (.ref f58)))
    (l58 : K.lookup f58 = some ⟨oc58, od58, .func (PySem.W.fnOf "law" "law" (defArgs s_law) (defBody s_law) (defScope s_law) .none kV58 dc58 pm58 an58 cd58 ct58), sl58⟩)
    (c58 : PySem.W.codeIn K cd58 "law" = true) (k58 : PySem.W.keepIn K (.ref f58) = true)
    (A0 : PySem.W.nsIn K mainGlobals "Stuck" = some (some (.ref C0)))
    (pg0 : PySem.W.plainGet K C0 Str.empty = true) (hd0 : PySem.W.hasDictIn K C0 = true) (po0 : PySem.W.plainOver K C0 = true) (sa0 : PySem.W.findIn K (.ref C0) "__setattr__" = some (some (.builtin "object.__setattr__")))
    (ha0 : PySem.W.findIn K (.ref C0) "__class__" = some (some (.builtin "object.__class__"))) (hn0 : PySem.W.specialIn K (.builtin "object.__class__") "__get__" = some (some (.builtin "getset_descriptor.__get__"))) (ht0 : PySem.W.takesIn K (.builtin "object.__class__") = some true) (hm0 : PySem.W.mroIn K C0 (.type "object") = some true)
    (ic0 : PySem.W.isClsIn K C0 = true) (ty0 : PySem.W.typeIn K (.ref C0) = some (.type "type"))
    (na0_0 : PySem.W.findIn K (.ref C0) "coin" = some none)
    (na0_1 : PySem.W.findIn K (.ref C0) "lacks" = some none)
    (m10 : PySem.W.makesIn K C0 = true) (m20 : PySem.W.findIn K (.ref C0) "__init__" = some (some (.ref g0))) (m30 : PySem.W.isFn K (.ref g0) = true) (m40 : PySem.W.keepIn K (.ref C0) = true)
    (L0 : K.lookup g0 = some ⟨Ooc0, Ood0, .func (PySem.W.fnOf "__init__" "Stuck.__init__" (defArgs s_Stuck) (defBody s_Stuck) (defScope s_Stuck) .none OkV0 Odc0 Opm0 Oan0 Ocd0 Oct0), Osl0⟩) (Oc0 : PySem.W.codeIn K Ocd0 "Stuck.__init__" = true) (Ok0 : PySem.W.keepIn K (.ref g0) = true)
    (A1 : PySem.W.nsIn K mainGlobals "NoSplit" = some (some (.ref C1)))
    (pg1 : PySem.W.plainGet K C1 Str.empty = true) (hd1 : PySem.W.hasDictIn K C1 = true) (po1 : PySem.W.plainOver K C1 = true) (sa1 : PySem.W.findIn K (.ref C1) "__setattr__" = some (some (.builtin "object.__setattr__")))
    (ha1 : PySem.W.findIn K (.ref C1) "__class__" = some (some (.builtin "object.__class__"))) (hn1 : PySem.W.specialIn K (.builtin "object.__class__") "__get__" = some (some (.builtin "getset_descriptor.__get__"))) (ht1 : PySem.W.takesIn K (.builtin "object.__class__") = some true) (hm1 : PySem.W.mroIn K C1 (.type "object") = some true)
    (ic1 : PySem.W.isClsIn K C1 = true) (ty1 : PySem.W.typeIn K (.ref C1) = some (.type "type"))
    (na1_0 : PySem.W.findIn K (.ref C1) "layers" = some none)
    (m11 : PySem.W.makesIn K C1 = true) (m21 : PySem.W.findIn K (.ref C1) "__init__" = some (some (.ref g1))) (m31 : PySem.W.isFn K (.ref g1) = true) (m41 : PySem.W.keepIn K (.ref C1) = true)
    (L1 : K.lookup g1 = some ⟨Ooc1, Ood1, .func (PySem.W.fnOf "__init__" "NoSplit.__init__" (defArgs s_NoSplit) (defBody s_NoSplit) (defScope s_NoSplit) .none OkV1 Odc1 Opm1 Oan1 Ocd1 Oct1), Osl1⟩) (Oc1 : PySem.W.codeIn K Ocd1 "NoSplit.__init__" = true) (Ok1 : PySem.W.keepIn K (.ref g1) = true)
    (A2 : PySem.W.nsIn K mainGlobals "Unserved" = some (some (.ref C2)))
    (pg2 : PySem.W.plainGet K C2 Str.empty = true) (hd2 : PySem.W.hasDictIn K C2 = true) (po2 : PySem.W.plainOver K C2 = true) (sa2 : PySem.W.findIn K (.ref C2) "__setattr__" = some (some (.builtin "object.__setattr__")))
    (ha2 : PySem.W.findIn K (.ref C2) "__class__" = some (some (.builtin "object.__class__"))) (hn2 : PySem.W.specialIn K (.builtin "object.__class__") "__get__" = some (some (.builtin "getset_descriptor.__get__"))) (ht2 : PySem.W.takesIn K (.builtin "object.__class__") = some true) (hm2 : PySem.W.mroIn K C2 (.type "object") = some true)
    (ic2 : PySem.W.isClsIn K C2 = true) (ty2 : PySem.W.typeIn K (.ref C2) = some (.type "type"))
    (na2_0 : PySem.W.findIn K (.ref C2) "place" = some none)
    (na2_1 : PySem.W.findIn K (.ref C2) "wish" = some none)
    (m12 : PySem.W.makesIn K C2 = true) (m22 : PySem.W.findIn K (.ref C2) "__init__" = some (some (.ref g2))) (m32 : PySem.W.isFn K (.ref g2) = true) (m42 : PySem.W.keepIn K (.ref C2) = true)
    (L2 : K.lookup g2 = some ⟨Ooc2, Ood2, .func (PySem.W.fnOf "__init__" "Unserved.__init__" (defArgs s_Unserved) (defBody s_Unserved) (defScope s_Unserved) .none OkV2 Odc2 Opm2 Oan2 Ocd2 Oct2), Osl2⟩) (Oc2 : PySem.W.codeIn K Ocd2 "Unserved.__init__" = true) (Ok2 : PySem.W.keepIn K (.ref g2) = true)
    (A3 : PySem.W.nsIn K mainGlobals "Fallen" = some (some (.ref C3)))
    (pg3 : PySem.W.plainGet K C3 Str.empty = true) (hd3 : PySem.W.hasDictIn K C3 = true) (po3 : PySem.W.plainOver K C3 = true) (sa3 : PySem.W.findIn K (.ref C3) "__setattr__" = some (some (.builtin "object.__setattr__")))
    (ha3 : PySem.W.findIn K (.ref C3) "__class__" = some (some (.builtin "object.__class__"))) (hn3 : PySem.W.specialIn K (.builtin "object.__class__") "__get__" = some (some (.builtin "getset_descriptor.__get__"))) (ht3 : PySem.W.takesIn K (.builtin "object.__class__") = some true) (hm3 : PySem.W.mroIn K C3 (.type "object") = some true)
    (ic3 : PySem.W.isClsIn K C3 = true) (ty3 : PySem.W.typeIn K (.ref C3) = some (.type "type"))
    (na3_0 : PySem.W.findIn K (.ref C3) "lot" = some none)
    (na3_1 : PySem.W.findIn K (.ref C3) "coin" = some none)
    (na3_2 : PySem.W.findIn K (.ref C3) "wish" = some none)
    (m13 : PySem.W.makesIn K C3 = true) (m23 : PySem.W.findIn K (.ref C3) "__init__" = some (some (.ref g3))) (m33 : PySem.W.isFn K (.ref g3) = true) (m43 : PySem.W.keepIn K (.ref C3) = true)
    (L3 : K.lookup g3 = some ⟨Ooc3, Ood3, .func (PySem.W.fnOf "__init__" "Fallen.__init__" (defArgs s_Fallen) (defBody s_Fallen) (defScope s_Fallen) .none OkV3 Odc3 Opm3 Oan3 Ocd3 Oct3), Osl3⟩) (Oc3 : PySem.W.codeIn K Ocd3 "Fallen.__init__" = true) (Ok3 : PySem.W.keepIn K (.ref g3) = true)
    (z_abs : PySem.W.nsIn K mainGlobals "abs" = some none)
    (z_all : PySem.W.nsIn K mainGlobals "all" = some none)
    (z_bool : PySem.W.nsIn K mainGlobals "bool" = some none)
    (z_divmod : PySem.W.nsIn K mainGlobals "divmod" = some none)
    (z_enumerate : PySem.W.nsIn K mainGlobals "enumerate" = some none)
    (z_int : PySem.W.nsIn K mainGlobals "int" = some none)
    (z_isinstance : PySem.W.nsIn K mainGlobals "isinstance" = some none)
    (z_len : PySem.W.nsIn K mainGlobals "len" = some none)
    (z_list : PySem.W.nsIn K mainGlobals "list" = some none)
    (z_max : PySem.W.nsIn K mainGlobals "max" = some none)
    (z_min : PySem.W.nsIn K mainGlobals "min" = some none)
    (z_range : PySem.W.nsIn K mainGlobals "range" = some none)
    (z_sorted : PySem.W.nsIn K mainGlobals "sorted" = some none)
    (z_sum : PySem.W.nsIn K mainGlobals "sum" = some none)
    (z_tuple : PySem.W.nsIn K mainGlobals "tuple" = some none)
    (z_zip : PySem.W.nsIn K mainGlobals "zip" = some none)
    (v_MOST_AMOUNT : PySem.W.nsIn K mainGlobals "MOST_AMOUNT" = some (some (.int 12000000000 q_MOST_AMOUNT)))
    (v_MOST_COINS : PySem.W.nsIn K mainGlobals "MOST_COINS" = some (some (.int 12 q_MOST_COINS)))
    (v_MOST_ENTRIES : PySem.W.nsIn K mainGlobals "MOST_ENTRIES" = some (some (.int 400 q_MOST_ENTRIES)))
    (v_MOST_PEOPLE : PySem.W.nsIn K mainGlobals "MOST_PEOPLE" = some (some (.int 5 q_MOST_PEOPLE)))
    (v_MOST_WORTH : PySem.W.nsIn K mainGlobals "MOST_WORTH" = some (some (.int 1000000000 q_MOST_WORTH))) :
    ∃ fd : FuncData, (∀ (s : Shared) (v : Value), BindsTo s fd ⟨[v], []⟩ [("_law_script", v)]) ∧ ∀ base : Heap, K.In base → base.Ns mainGlobals mg → FnOk l.prog w K mg base CX0 10 fa fd ["_law_script"] (spLaw K) := by
  have nas0 : ∀ n ∈ (["coin", "lacks"] : List Str), NoAttr K C0 n := fun n hn => by
    simp only [List.mem_cons, List.not_mem_nil, or_false] at hn
    rcases hn with rfl | rfl
    · exact na0_0
    · exact na0_1
  have nas1 : ∀ n ∈ (["layers"] : List Str), NoAttr K C1 n := fun n hn => by
    simp only [List.mem_cons, List.not_mem_nil, or_false] at hn
    subst hn
    exact na1_0
  have nas2 : ∀ n ∈ (["place", "wish"] : List Str), NoAttr K C2 n := fun n hn => by
    simp only [List.mem_cons, List.not_mem_nil, or_false] at hn
    rcases hn with rfl | rfl
    · exact na2_0
    · exact na2_1
  have nas3 : ∀ n ∈ (["lot", "coin", "wish"] : List Str), NoAttr K C3 n := fun n hn => by
    simp only [List.mem_cons, List.not_mem_nil, or_false] at hn
    rcases hn with rfl | rfl | rfl
    · exact na3_0
    · exact na3_1
    · exact na3_2
  have t : Txt K mg { cls := fun c => if c = 0 then some (C0, ["coin", "lacks"]) else if c = 1 then some (C1, ["layers"]) else if c = 2 then some (C2, ["place", "wish"]) else if c = 3 then some (C3, ["lot", "coin", "wish"]) else none, fns := fun c => if c = 0 then some f54 else none } := ⟨lies_mk X G a0 l0 c0 k0,
    lies_mk X G a1 l1 c1 k1,
    lies_mk X G a2 l2 c2 k2,
    lies_mk X G a3 l3 c3 k3,
    lies_mk X G a4 l4 c4 k4,
    lies_mk X G a5 l5 c5 k5,
    lies_mk X G a6 l6 c6 k6,
    lies_mk X G a7 l7 c7 k7,
    lies_mk X G a8 l8 c8 k8,
    lies_mk X G a9 l9 c9 k9,
    lies_mk X G a10 l10 c10 k10,
    liesD_mk (its := [.int 1 tk11_0]) X G a11 l11 c11 k11 lT11 rfl (.cons ⟨_, rfl⟩ (.nil)) (by simp),
    lies_mk X G a12 l12 c12 k12,
    lies_mk X G a13 l13 c13 k13,
    lies_mk X G a14 l14 c14 k14,
    lies_mk X G a15 l15 c15 k15,
    lies_mk X G a16 l16 c16 k16,
    lies_mk X G a17 l17 c17 k17,
    lies_mk X G a18 l18 c18 k18,
    lies_mk X G a19 l19 c19 k19,
    lies_mk X G a20 l20 c20 k20,
    lies_mk X G a21 l21 c21 k21,
    lies_mk X G a22 l22 c22 k22,
    lies_mk X G a23 l23 c23 k23,
    lies_mk X G a24 l24 c24 k24,
    lies_mk X G a25 l25 c25 k25,
    lies_mk X G a26 l26 c26 k26,
    lies_mk X G a27 l27 c27 k27,
    lies_mk X G a28 l28 c28 k28,
    lies_mk X G a29 l29 c29 k29,
    lies_mk X G a30 l30 c30 k30,
    lies_mk X G a31 l31 c31 k31,
    lies_mk X G a32 l32 c32 k32,
    lies_mk X G a33 l33 c33 k33,
    lies_mk X G a34 l34 c34 k34,
    lies_mk X G a35 l35 c35 k35,
    lies_mk X G a36 l36 c36 k36,
    lies_mk X G a37 l37 c37 k37,
    lies_mk X G a38 l38 c38 k38,
    lies_mk X G a39 l39 c39 k39,
    lies_mk X G a40 l40 c40 k40,
    lies_mk X G a41 l41 c41 k41,
    lies_mk X G a42 l42 c42 k42,
    liesD_mk (its := [.int 0 tk43_0]) X G a43 l43 c43 k43 lT43 rfl (.cons ⟨_, rfl⟩ (.nil)) (by simp),
    lies_mk X G a44 l44 c44 k44,
    lies_mk X G a45 l45 c45 k45,
    lies_mk X G a46 l46 c46 k46,
    lies_mk X G a47 l47 c47 k47,
    lies_mk X G a48 l48 c48 k48,
    lies_mk X G a49 l49 c49 k49,
    lies_mk X G a50 l50 c50 k50,
    lies_mk X G a51 l51 c51 k51,
    lies_mk X G a52 l52 c52 k52,
    lies_mk X G a53 l53 c53 k53,
    lies_mk X G a54 l54 c54 k54,
    lies_mk X G a55 l55 c55 k55,
    lies_mk X G a56 l56 c56 k56,
    lies_mk X G a57 l57 c57 k57,
    lies_mk X G a58 l58 c58 k58,
    liesC_mk X G A0 (clsOk_mk ⟨pg0, hd0, po0, sa0⟩ ha0 hn0 ht0 hm0 ic0 ty0) (by rfl) (nas0) m10 m20 m30 m40 L0 Oc0 Ok0,
    liesC_mk X G A1 (clsOk_mk ⟨pg1, hd1, po1, sa1⟩ ha1 hn1 ht1 hm1 ic1 ty1) (by rfl) (nas1) m11 m21 m31 m41 L1 Oc1 Ok1,
    liesC_mk X G A2 (clsOk_mk ⟨pg2, hd2, po2, sa2⟩ ha2 hn2 ht2 hm2 ic2 ty2) (by rfl) (nas2) m12 m22 m32 m42 L2 Oc2 Ok2,
    liesC_mk X G A3 (clsOk_mk ⟨pg3, hd3, po3, sa3⟩ ha3 hn3 ht3 hm3 ic3 ty3) (by rfl) (nas3) m13 m23 m33 m43 L3 Oc3 Ok3,
    PySem.W.mg_none_of X G z_abs,
    PySem.W.mg_none_of X G z_all,
    PySem.W.mg_none_of X G z_bool,
    PySem.W.mg_none_of X G z_divmod,
    PySem.W.mg_none_of X G z_enumerate,
    PySem.W.mg_none_of X G z_int,
    PySem.W.mg_none_of X G z_isinstance,
    PySem.W.mg_none_of X G z_len,
    PySem.W.mg_none_of X G z_list,
    PySem.W.mg_none_of X G z_max,
    PySem.W.mg_none_of X G z_min,
    PySem.W.mg_none_of X G z_range,
    PySem.W.mg_none_of X G z_sorted,
    PySem.W.mg_none_of X G z_sum,
    PySem.W.mg_none_of X G z_tuple,
    PySem.W.mg_none_of X G z_zip,
    const_mk X G v_MOST_AMOUNT,
    const_mk X G v_MOST_COINS,
    const_mk X G v_MOST_ENTRIES,
    const_mk X G v_MOST_PEOPLE,
    const_mk X G v_MOST_WORTH,
    ⟨_, PySem.W.mg_of X G a54, rfl⟩⟩
  have e := hfa.symm.trans (PySem.W.mg_of X G a58)
  cases e
  exact ⟨PySem.W.fnOf "law" "law" (defArgs s_law) (defBody s_law) (defScope s_law) .none kV58 dc58 pm58 an58 cd58 ct58, fun s v => .of_eq rfl, fun base _ _ => ok_law t (fun_mk l58 c58 k58) hl⟩
end K79
end

section
set_option linter.all false
set_option maxRecDepth 100000
set_option maxHeartbeats 1000000
namespace K79
open Fl PySem
theorem m_is_whole (i lo hi : Int) : F_is_whole [.int i, .int lo, .int hi] = some (.sh (.bl (decide (lo ≤ i ∧ i ≤ hi)))) := by
  by_cases h1 : lo ≤ i <;> simp [F_is_whole, f_is_whole, isB, okN, h1]
theorem m_check_people (p lo : Int) (h : lo ≤ p) (h2 : p ≤ 5) : F_check_people [.int p, .int lo] = some (.sh (.int p)) := by
  simp [F_check_people, f_check_people, m_is_whole, h, h2]
theorem m_is_sequence (d : D) (l : List D) (h : dSeq d = some l) (lo hi : Int) : F_is_sequence [d, .int lo, .int hi] = some (.sh (.bl (decide (lo ≤ l.length ∧ (l.length : Int) ≤ hi)))) := by
  cases d with
  | tup m => simp at h; subst h; by_cases h1 : lo ≤ m.length <;> simp [F_is_sequence, f_is_sequence, isB, okN, h1]
  | tp m => simp at h; subst h; by_cases h1 : lo ≤ m.length <;> simp [F_is_sequence, f_is_sequence, isB, okN, h1]
  | lst m => simp at h; subst h; by_cases h1 : lo ≤ m.length <;> simp [F_is_sequence, f_is_sequence, isB, okN, h1]
  | _ => simp at h
def okCoins (ns : List Int) : Prop := ns.length ≤ 12 ∧ ∀ n ∈ ns, 1 ≤ n ∧ n ≤ 1000000000
theorem okCoins.sort {ns : List Int} (h : okCoins ns) : okCoins (sortI ns) := ⟨by rw [sortI_len]; exact h.1, fun n hn => h.2 n (sortI_mem.mp hn)⟩
theorem loop_check (x : Option Slot) : ∀ (ns : List Int) (k : Nat) (a b : Option Slot), (∀ n ∈ ns, 1 ≤ n ∧ n ≤ 1000000000) →
    ∃ a' b', forL t_check_pool_0 b_check_pool_1 (enumL k (ns.map D.int)) [x, a, b] = some (.nx [x, a', b'])
  | [], k, a, b, _ => ⟨a, b, by simp [enumL, forL]⟩
  | n :: ns, k, a, b, h => by
    obtain ⟨a', b', e⟩ := loop_check x ns (k + 1) (some (.sh (.int (k : Nat)))) (some (.sh (.int n))) fun m hm => h m (by simp [hm])
    have hn := h n (by simp)
    refine ⟨a', b', ?_⟩
    rw [← e]
    simp [enumL, forL, t_check_pool_0, b_check_pool_1, m_is_whole, hn.1, hn.2]
theorem m_check_pool (d : D) (ns : List Int) (hd : dSeq d = some (ns.map .int)) (ok : okCoins ns) : F_check_pool [d] = some (.sh (.tup ((sortI ns).map .int))) := by
  have hl : (ns.length : Int) ≤ 12 := by have := ok.1; omega
  obtain ⟨a', b', e⟩ := loop_check (some (.sh d)) ns 0 none none ok.2
  cases d with
  | tup m => simp at hd; subst hd; simp [F_check_pool, f_check_pool, m_is_sequence, hl, e, canSort_ints ns (by omega), isort_ints]
  | tp m => simp at hd; subst hd; simp [F_check_pool, f_check_pool, m_is_sequence, hl, e, canSort_ints ns (by omega), isort_ints]
  | lst m => simp at hd; subst hd; simp [F_check_pool, f_check_pool, m_is_sequence, hl, e, canSort_ints ns (by omega), isort_ints]
  | _ => simp at hd
end K79
end

section
set_option linter.all false
set_option maxRecDepth 100000
set_option maxHeartbeats 1000000
namespace K79
open Fl PySem
theorem atI_nat' {α : Type} (l : List α) (k : Nat) : L2.atI l (k : Int) = l[k]? := by
  unfold L2.atI L2.ixN
  by_cases h : k < l.length
  · simp [h]
  · simp [h, List.getElem?_eq_none (Nat.not_lt.mp h)]
theorem m_parted_up (t p : Int) (h : 0 < p) (h2 : p ≤ 5) : F_parted_up [.int t, .int p] = some (.sh (.int (-(-t / p)))) := by
  simp [F_parted_up, f_parted_up, h, show p < 18446744073709551616 by omega]
def psums : Int → List Int → List Int
  | _, [] => []
  | r, c :: cs => (r + c) :: psums (r + c) cs
theorem psums_len : ∀ (cs : List Int) (r : Int), (psums r cs).length = cs.length
  | [], _ => rfl
  | c :: cs, r => by simp [psums, psums_len cs]
theorem loop_sums (x : Option Slot) : ∀ (cs out : List Int) (r : Int) (a : Option Slot), out.length + cs.length < 1000000 →
    ∃ a', forL t_running_sums_0 b_running_sums_1 (cs.map D.int) [x, some (.own true (.lst (out.map D.int))), some (.sh (.int r)), a] =
      some (.nx [x, some (.own true (.lst ((out ++ psums r cs).map D.int))), some (.sh (.int (r + cs.sum))), a'])
  | [], out, r, a, _ => ⟨a, by simp [forL, psums]⟩
  | c :: cs, out, r, a, h => by
    obtain ⟨a', e⟩ := loop_sums x cs (out ++ [r + c]) (r + c) (some (.sh (.int c))) (by simp at h ⊢; omega)
    refine ⟨a', ?_⟩
    simp at h
    simp [psums, Int.add_assoc] at e ⊢
    rw [← e]
    simp [forL, t_running_sums_0, b_running_sums_1, many, show out.length < 1000000 by omega]
theorem noLs_ints : ∀ l : List Int, noLs (l.map D.int) = true
  | [] => rfl
  | x :: l => by simp [noLs, noL, noLs_ints l]
theorem noL_tup (l : List Int) : noL (.tup (l.map D.int)) = true := by simp [noL, noLs_ints]
theorem m_running_sums (cs : List Int) (h : cs.length ≤ 1000) : F_running_sums [.tup (cs.map .int)] = some (.sh (.tup ((psums 0 cs).map .int))) := by
  obtain ⟨a', e⟩ := loop_sums (some (.sh (.tup (cs.map .int)))) cs [] 0 none (by simp; omega)
  simp at e
  simp [F_running_sums, f_running_sums, e, noL, noLs_ints, many]
def failL (p : Int) : List Int → Nat → Int → List Int
  | [], _, _ => []
  | c :: cs, k, r => if -(-(r + c) / p) < c then (k : Int) :: failL p cs (k + 1) (r + c) else failL p cs (k + 1) (r + c)
theorem loop_fail (p : Int) (h : 0 < p) (h2 : p ≤ 5) (x y : D) (sums : List Int) : ∀ (cs : List Int) (k : Nat) (r : Int), sums.drop k = psums r cs →
    lcL t_failing_places_0 c_failing_places_1 e_failing_places_2 [4, 5] (enumL k (cs.map D.int)) [some (.sh x), some (.sh (.int p)), some (.sh y), some (.sh (.tup (sums.map .int))), none, none] =
      some ((failL p cs k r).map D.int, [some (.sh x), some (.sh (.int p)), some (.sh y), some (.sh (.tup (sums.map .int))), none, none])
  | [], k, r, _ => by simp [enumL, lcL, failL]
  | c :: cs, k, r, hd => by
    have hk : sums[k]? = some (r + c) := by
      have : (sums.drop k)[0]? = some (r + c) := by rw [hd]; simp [psums]
      simpa using this
    have hd2 : sums.drop (k + 1) = psums (r + c) cs := by
      have : (sums.drop k).drop 1 = psums (r + c) cs := by rw [hd]; simp [psums]
      simpa [List.drop_drop] using this
    have e := loop_fail p h h2 x y sums cs (k + 1) (r + c) hd2
    simp [t_failing_places_0, c_failing_places_1, e_failing_places_2] at e
    by_cases hc : -(-(r + c) / p) < c
    · simp [enumL, lcL, noOwn, noOwn1, wipeF, backF, t_failing_places_0, c_failing_places_1, e_failing_places_2, atI_nat', hk, m_parted_up, h, h2, hc, failL, e]
    · simp [enumL, lcL, noOwn, noOwn1, wipeF, backF, t_failing_places_0, c_failing_places_1, e_failing_places_2, atI_nat', hk, m_parted_up, h, h2, hc, failL, e]
theorem failL_len (p : Int) : ∀ (cs : List Int) (k : Nat) (r : Int), (failL p cs k r).length ≤ cs.length
  | [], _, _ => Nat.le_refl _
  | c :: cs, k, r => by
    have := failL_len p cs (k + 1) (r + c)
    simp only [failL]
    split
    · simp; omega
    · simp; omega
theorem enumL_ints_len (k : Nat) (cs : List Int) : (enumL k (cs.map D.int)).length = cs.length := by rw [enumL_len]; simp
theorem m_failing_places (p : Int) (h : 1 ≤ p) (h2 : p ≤ 5) (d : D) (ns : List Int) (hd : dSeq d = some (ns.map .int)) (ok : okCoins ns) : F_failing_places [d, .int p] = some (.sh (.tup ((failL p (sortI ns) 0 0).map .int))) := by
  have e := loop_fail p (by omega) h2 d (.tup ((sortI ns).map .int)) (psums 0 (sortI ns)) (sortI ns) 0 0 (by simp)
  have hl := (ok.sort).1
  simp [F_failing_places, f_failing_places, m_check_pool d ns hd ok, m_check_people p 1 h h2, m_running_sums (sortI ns) (by omega), e, enumL_ints_len, many, show (sortI ns).length < 1000000 by omega]
def evenly (a q : Int) : List Int := (List.range q.toNat).map fun (i : Nat) => if (i : Int) < a % q then a / q + 1 else a / q
theorem loop_even (x y : D) (each more : Int) : ∀ (ks : List Int),
    lcL t_parted_evenly_0 c_parted_evenly_1 e_parted_evenly_2 [4] (ks.map D.int) [some (.sh x), some (.sh y), some (.sh (.int each)), some (.sh (.int more)), none] =
      some ((ks.map fun i => if i < more then each + 1 else each).map D.int, [some (.sh x), some (.sh y), some (.sh (.int each)), some (.sh (.int more)), none])
  | [] => by simp [lcL]
  | k :: ks => by
    have e := loop_even x y each more ks
    simp [t_parted_evenly_0, c_parted_evenly_1, e_parted_evenly_2] at e
    by_cases hc : k < more
    · simp [lcL, noOwn, noOwn1, wipeF, backF, t_parted_evenly_0, c_parted_evenly_1, e_parted_evenly_2, hc, e]
    · simp [lcL, noOwn, noOwn1, wipeF, backF, t_parted_evenly_0, c_parted_evenly_1, e_parted_evenly_2, hc, e]
theorem rngL_map (n : Nat) : rngL 0 n = ((List.range n).map fun i => ((i : Nat) : Int)).map D.int := by
  unfold rngL
  simp
theorem m_parted_evenly (a q : Int) (h : 1 ≤ q) (h2 : q ≤ 5) : F_parted_evenly [.int a, .int q] = some (.sh (.tup ((evenly a q).map .int))) := by
  have e := loop_even (.int a) (.int q) (a / q) (a % q) ((List.range q.toNat).map fun i => ((i : Nat) : Int))
  rw [← rngL_map] at e
  have hs : small q = true := by unfold small; exact decide_eq_true (by omega)
  simp [F_parted_evenly, f_parted_evenly, show 0 < q by omega, show q < 1073741824 by omega, hs, e, rngL_len, many, show q.toNat < 1000000 by omega, evenly]
end K79
end

section
set_option linter.all false
set_option maxRecDepth 100000
set_option maxHeartbeats 1000000
namespace K79
open Fl PySem
theorem sortI_sortI (l : List Int) : sortI (sortI l) = sortI l := sortI_id (sortI_sorted l)
theorem failL_nat (p : Int) : ∀ (cs : List Int) (k : Nat) (r : Int), ∀ z ∈ failL p cs k r, ∃ j : Nat, z = (j : Int) ∧ k ≤ j ∧ j < k + cs.length
  | [], _, _, z, h => by simp [failL] at h
  | c :: cs, k, r, z, h => by
    simp only [failL] at h
    split at h
    · rcases List.mem_cons.mp h with h | h
      · exact ⟨k, h, Nat.le_refl _, by simp⟩
      · obtain ⟨j, e, h1, h2⟩ := failL_nat p cs (k + 1) (r + c) z h
        exact ⟨j, e, by omega, by simp; omega⟩
    · obtain ⟨j, e, h1, h2⟩ := failL_nat p cs (k + 1) (r + c) z h
      exact ⟨j, e, by omega, by simp; omega⟩
def wishS (p : Int) (cs : List Int) (k : Nat) : List Int :=
  (-(-(cs.take (k + 1)).sum / p) + (cs.drop (k + 1)).sum) :: evenly ((cs.take (k + 1)).sum - -(-(cs.take (k + 1)).sum / p)) (p - 1)
def serveD (p : Int) (cs : List Int) : D := match failL p cs 0 0 with
  | [] => .non
  | k :: _ => .obj 2 [.int k, .tup ((wishS p cs k.toNat).map .int)]
theorem cut_take (l : List D) (k : Nat) (h : k < l.length) : cutD l none (some ((k : Int) + 1)) = l.take (k + 1) := by
  unfold cutD
  have : HT.sIx l.length l.length (some ((k : Int) + 1)) = k + 1 := by
    have := HT.sIx_nat l.length l.length (k + 1)
    rw [show ((k + 1 : Nat) : Int) = (k : Int) + 1 by omega] at this
    rw [this]
    omega
  rw [this, HT.sIx_none]
  simp
theorem cut_drop (l : List D) (k : Nat) (h : k < l.length) : cutD l (some ((k : Int) + 1)) none = l.drop (k + 1) := by
  unfold cutD
  have : HT.sIx l.length 0 (some ((k : Int) + 1)) = k + 1 := by
    have := HT.sIx_nat l.length 0 (k + 1)
    rw [show ((k + 1 : Nat) : Int) = (k : Int) + 1 by omega] at this
    rw [this]
    omega
  rw [this, HT.sIx_none]
  rw [List.take_of_length_le (by simp)]
theorem asI_take (l : List Int) (n : Nat) : asI ((l.map D.int).take n) = some (l.take n) := by rw [← List.map_take]; exact asI_map _
theorem asI_drop (l : List Int) (n : Nat) : asI ((l.map D.int).drop n) = some (l.drop n) := by rw [← List.map_drop]; exact asI_map _
theorem evenly_len (a q : Int) : (evenly a q).length = q.toNat := by simp [evenly]
theorem m_serves (p : Int) (h : 2 ≤ p) (h2 : p ≤ 5) (d : D) (ns : List Int) (hd : dSeq d = some (ns.map .int)) (ok : okCoins ns) : F_serves [d, .int p] = some (.sh (serveD p (sortI ns))) := by
  have hl := (ok.sort).1
  have ef := m_failing_places p (by omega) h2 (.tup ((sortI ns).map .int)) (sortI ns) rfl ok.sort
  rw [sortI_sortI] at ef
  unfold serveD
  cases e : failL p (sortI ns) 0 0 with
  | nil =>
    rw [e] at ef
    simp [F_serves, f_serves, m_check_pool d ns hd ok, ef]
  | cons z rest =>
    rw [e] at ef
    obtain ⟨k, rfl, _, hk⟩ := failL_nat p (sortI ns) 0 0 z (by rw [e]; simp)
    have hk' : k < ((sortI ns).map D.int).length := by simp; omega
    have q1 := cut_take ((sortI ns).map D.int) k hk'
    have q2 := cut_drop ((sortI ns).map D.int) k hk'
    simp [F_serves, f_serves, m_check_pool d ns hd ok, ef, L2.atI, L2.ixN, q1, q2, asI_take, asI_drop, m_parted_up, show 0 < p by omega, h2, m_parted_evenly _ (p - 1) (by omega) (by omega), evenly_len, many, wishS, show 1 + (p - 1).toNat ≤ 1000000 by omega, show 1 + (p.toNat - 1) ≤ 1000000 by omega]
end K79
end

section
set_option linter.all false
set_option maxRecDepth 100000
set_option maxHeartbeats 1000000
namespace K79
open Fl PySem
theorem m_law_mix (n t : Int) : ∃ r, F__law_mix [.int n, .int t] = some (.sh (.int r)) := by
  have h1 : ∀ z : Int, -18446744073709551616 < z % 2147483647 ∧ z % 2147483647 < 18446744073709551616 := fun z => by
    have := Int.emod_nonneg z (show (2147483647 : Int) ≠ 0 by decide)
    have := Int.emod_lt_of_pos z (show (0 : Int) < 2147483647 by decide)
    omega
  have h2 : ∀ z : Int, -18446744073709551616 < z % 2147483399 ∧ z % 2147483399 < 18446744073709551616 := fun z => by
    have := Int.emod_nonneg z (show (2147483399 : Int) ≠ 0 by decide)
    have := Int.emod_lt_of_pos z (show (0 : Int) < 2147483399 by decide)
    omega
  simp [F__law_mix, f__law_mix, h1, h2]
def hdO (cells : List Int) (pos : Nat) (rest tot : Int) : O := .lst [.lst (cells.map .int), .int (pos : Int), .int rest, .int tot]
theorem m_law_draw (cells : List Int) (pos : Nat) (rest tot many : Int) (hm : 0 < many) (hm2 : many < 18446744073709551616) :
    ∃ (d : Int) (pos' : Nat) (rest' tot' : Int), F__law_draw [] (hdO cells pos rest tot) [.int many] = some (.sh (.int d), hdO cells pos' rest' tot') ∧ 0 ≤ d ∧ d < many := by
  have md : ∀ z : Int, 0 ≤ z % many ∧ z % many < many := fun z => ⟨Int.emod_nonneg z (by omega), Int.emod_lt_of_pos z hm⟩
  by_cases h4 : 0 < rest
  · have h1 : ¬ rest = 0 := by omega
    refine ⟨rest % many, pos, rest / many, tot, ?_, md _⟩
    simp [F__law_draw, f__law_draw, hdO, L2.atI, L2.ixN, noL, fit, eqD, h1, h4, hm, hm2]
  · by_cases h1 : rest = 0 ∧ pos < cells.length
    · obtain ⟨h1, h2⟩ := h1
      have hc : L2.atI (cells.map D.int) (pos : Int) = some (.int cells[pos]) := by
        rw [atI_nat', List.getElem?_map, List.getElem?_eq_getElem h2]
        rfl
      by_cases h3 : cells[pos] < 1000000000000000000
      · obtain ⟨r, hr⟩ := m_law_mix (cells[pos] % 2147483647) ((pos : Int) + 1)
        refine ⟨r % many, pos + 1, rest, tot, ?_, md _⟩
        subst h1
        simp [F__law_draw, f__law_draw, hdO, hc, L2.atI, L2.ixN, noL, fit, eqD, h2, h3, hm, hr]
      · refine ⟨cells[pos] % many, pos + 1, cells[pos] / many, tot, ?_, md _⟩
        subst h1
        simp [F__law_draw, f__law_draw, hdO, hc, L2.atI, L2.ixN, noL, fit, eqD, h2, h3, hm, hm2, show 0 < cells[pos] by omega]
    · obtain ⟨r, hr⟩ := m_law_mix ((tot + 1) % 2147483629) (pos : Int)
      refine ⟨r % many, pos, rest, (tot + 1) % 2147483629, ?_, md _⟩
      by_cases h1' : rest = 0
      · have h2 : ¬ pos < cells.length := fun z => h1 ⟨h1', z⟩
        subst h1'
        simp [F__law_draw, f__law_draw, hdO, L2.atI, L2.ixN, noL, fit, eqD, h2, hm, hr]
      · simp [F__law_draw, f__law_draw, hdO, L2.atI, L2.ixN, noL, fit, eqD, h1', h4, hm, hr]
end K79
end

section
set_option linter.all false
set_option maxRecDepth 100000
set_option maxHeartbeats 2000000
namespace K79
open Fl PySem
theorem ceil_room {p r c : Int} (hp : 2 ≤ p) (hp5 : p ≤ 5) : -(-(r + c) / p) < c ↔ r / (p - 1) + 1 < c := by
  have : p = 2 ∨ p = 3 ∨ p = 4 ∨ p = 5 := by omega
  rcases this with rfl | rfl | rfl | rfl <;> omega
theorem failL_ok {p : Int} (hp : 2 ≤ p) (hp5 : p ≤ 5) : ∀ {l : List Int} {r : Int} {k : Nat}, okL p r l → failL p l k r = []
  | [], _, _, _ => rfl
  | c :: cs, r, k, ⟨h1, h2, h3⟩ => by
    unfold failL
    rw [if_neg (by rw [ceil_room hp hp5]; omega)]
    exact failL_ok hp hp5 h3
theorem failL_bad {p : Int} (hp : 2 ≤ p) (hp5 : p ≤ 5) : ∀ {l : List Int} {r : Int} {k : Nat}, (∀ c ∈ l, 1 ≤ c) → failL p l k r = [] → okL p r l
  | [], _, _, _, _ => True.intro
  | c :: cs, r, k, h, e => by
    unfold failL at e
    split at e
    · cases e
    · rename_i hc
      rw [ceil_room hp hp5] at hc
      exact ⟨h c (by simp), by omega, failL_bad hp hp5 (fun d hd => h d (by simp [hd])) e⟩
def isUn : D → Bool
  | .obj 2 _ => true
  | _ => false
theorem serveD_good {p : Int} (hp : 2 ≤ p) (hp5 : p ≤ 5) {l : List Int} (h : okL p 0 l) : serveD p l = .non := by
  unfold serveD
  rw [failL_ok hp hp5 h]
theorem serveD_bad {p : Int} (hp : 2 ≤ p) (hp5 : p ≤ 5) {l : List Int} (hc : ∀ c ∈ l, 1 ≤ c) (h : ¬ okL p 0 l) : ∃ k w, serveD p l = .obj 2 [.int k, .tup w] := by
  unfold serveD
  cases e : failL p l 0 0 with
  | nil => exact absurd (failL_bad hp hp5 hc e) h
  | cons z r => exact ⟨_, _, rfl⟩
/-! ### what may be put -/
def HandOk (o : O) : Prop := ∃ cells pos rest tot, o = hdO cells pos rest tot
theorem HandOk.one {o : O} (h : HandOk o) : o.one = true := by obtain ⟨c, p, r, t, rfl⟩ := h; rfl
theorem draw {o : O} (h : HandOk o) {many : Int} (hm : 0 < many) (hm2 : many < 18446744073709551616) : ∃ d o', F__law_draw [] o [.int many] = some (.sh (.int d), o') ∧ HandOk o' ∧ 0 ≤ d ∧ d < many := by
  obtain ⟨c, p, r, t, rfl⟩ := h
  obtain ⟨d, p', r', t', e, h1, h2⟩ := m_law_draw c p r t many hm hm2
  exact ⟨d, _, e, ⟨c, p', r', t', rfl⟩, h1, h2⟩
theorem m_whole (i : Int) : F__law_whole [.int i] = some (.sh (.bl true)) := by simp [F__law_whole, f__law_whole, isB, okN]
/-! ### coins -/
theorem okCoins_good {p : Int} (hp : 2 ≤ p) {cs : List Int} (h : Good p cs) (hl : cs.length ≤ 12) : okCoins cs := by
  refine ⟨hl, fun n hn => ⟨h.pos n hn, ?_⟩⟩
  have := le_sum h.pos n hn
  have := h.sum hp 12 hl
  omega
theorem serves_good {p : Int} (hp : 2 ≤ p) (hp5 : p ≤ 5) {cs : List Int} (h : Good p cs) (hl : cs.length ≤ 12) : F_serves [.lst (cs.map .int), .int p] = some (.sh .non) := by
  rw [m_serves p hp hp5 _ cs rfl (okCoins_good hp h hl), serveD_good hp hp5 h]
theorem hdO_lst {o : O} (h : HandOk o) : ∃ l, o = .lst l := by obtain ⟨c, p, r, t, rfl⟩ := h; exact ⟨_, rfl⟩
theorem cutL_take (l : List D) (k : Nat) (h : k ≤ l.length) : cutD l none (some (k : Int)) = l.take k := by
  unfold cutD
  rw [HT.sIx_nat, HT.sIx_none, Nat.min_eq_left h]
  simp
theorem mem_set' {l : List Int} {k : Nat} {v x : Int} (h : x ∈ l.set k v) : x ∈ l ∨ x = v := List.mem_or_eq_of_mem_set h
theorem ixN_nat {n k : Nat} (h : k < n) : L2.ixN n (k : Int) = some k := by simp [L2.ixN, h]
theorem asI_cons (c : Int) (r : List Int) : asI (.int c :: r.map D.int) = some (c :: r) := asI_map (c :: r)
theorem fArgs_of {α : Type} {g : List D → Option α} {fs : FA} {ρ ρ' : Fenv} {ds : List D} {z : α} (h : fs ρ = some (ds, ρ')) (h2 : g ds = some z) : fArgs g fs ρ = some (z, ρ') := by
  unfold fArgs
  rw [h]
  simp only [Option.bind_some]
  rw [h2]
  rfl
theorem fSeq_nx {f g : FS} {ρ ρ' : Fenv} (h : f ρ = some (.nx ρ')) : fSeq f g ρ = g ρ' := by simp only [fSeq, h, Option.bind_some]
theorem fnI_rt {fb : FS} {n : Nat} {o o' : O} {post : List D} {ρ0 ρ : Fenv} {s : Slot} (h0 : some (.own false o) :: (post.map (fun d => some (.sh d)) ++ List.replicate (n - (0 + 1 + post.length)) none) = ρ0) (h : fb ρ0 = some (.rt s ρ)) (hρ : ρ[0]? = some (some (.own false o'))) (h1 : o.one = true) (h2 : o'.one = true) : fnI fb n [] o post = some (s, o') := by
  subst h0
  unfold fnI outI
  simp only [List.map_nil, List.nil_append, List.length_nil, List.cons_append]
  rw [h]
  simp only [hρ, h1, h2, Bool.and_self, if_true]
end K79
end

section
set_option linter.all false
set_option maxRecDepth 100000
set_option maxHeartbeats 2000000
set_option autoImplicit false
namespace K79
open Fl PySem
def putS (e : List Int) (i : Nat) (w : Int) : List Int := sortI (e.take i ++ [w] ++ e.drop (i + 1))
def tupI (e : List Int) : D := .tup (e.map .int)
theorem m_put_sorted (e : List Int) (i : Nat) (w : Int) (h : i < e.length) (hl : e.length ≤ 1000) : F_put_sorted [tupI e, .int (i : Int), .int w] = some (.sh (tupI (putS e i w))) := by
  have q1 := cutL_take (e.map D.int) i (by simp; omega)
  have q2 := cut_drop (e.map D.int) i (by simpa using h)
  have hs : (e.take i ++ [w] ++ e.drop (i + 1)).length ≤ 1000000 := by simp; omega
  have q3 := dSort_tup (e.take i ++ [w] ++ e.drop (i + 1)) hs
  have c1 := canSort_ints _ hs
  have c2 := isort_ints (e.take i ++ [w] ++ e.drop (i + 1))
  simp at c1 c2
  have hm : min i e.length + 1 + (e.length - (i + 1)) ≤ 1000000 := by omega
  have hm2 : min i e.length + 1 ≤ 1000000 := by omega
  have hm3 : min i e.length + (e.length - (i + 1) + 1) ≤ 1000000 := by omega
  simp [F_put_sorted, f_put_sorted, tupI, putS, q1, q2, many, hm, hm2, hm3, c1, c2]
/-! ### the keys of a layer -/
def kv (keys : List (List Int)) : List (List L2.Key × D) := keys.map fun k => (k.map Sum.inl, .bl true)
def addK (keys : List (List Int)) (k : List Int) : List (List Int) := if k ∈ keys then keys else keys ++ [k]
theorem inl_inj : ∀ a b : List Int, (a.map (Sum.inl : Int → L2.Key)) = b.map Sum.inl ↔ a = b := fun a b => by
  constructor
  · intro h
    exact (List.map_inj_right (fun x y z => Sum.inl.inj z)).mp h
  · rintro rfl; rfl
theorem putG_add (keys : List (List Int)) (k : List Int) : putG (kv keys) (k.map Sum.inl) (.bl true) = kv (addK keys k) := by
  have h1 : ((kv keys).any fun kv => decide (kv.1 = (k.map Sum.inl : List L2.Key))) = decide (k ∈ keys) := by
    unfold kv
    induction keys with
    | nil => simp
    | cons a l ih =>
      simp only [List.map_cons, List.any_cons, ih]
      by_cases h : a = k
      · subst h; simp
      · have : ¬ (a.map (Sum.inl : Int → L2.Key)) = k.map Sum.inl := fun z => h ((inl_inj a k).mp z)
        simp [this, h, Ne.symm h]
  have h2 : (kv keys).map (fun kv => if kv.1 = (k.map Sum.inl : List L2.Key) then (kv.1, D.bl true) else kv) = kv keys := by
    unfold kv
    rw [List.map_map]
    apply List.map_congr_left
    intro a _
    simp
  unfold putG addK
  rw [h1, h2]
  by_cases h : k ∈ keys
  · simp [h]
  · simp [h, kv]
theorem keysOf_ints : ∀ e : List Int, keysOf (e.map D.int) = some (e.map Sum.inl)
  | [] => rfl
  | x :: e => by simp [keysOf, keyOf, keysOf_ints e]
theorem keyT_tup (e : List Int) : keyT (tupI e) = some (e.map Sum.inl) := keysOf_ints e
theorem addK_len (keys : List (List Int)) (k : List Int) : (addK keys k).length ≤ keys.length + 1 := by
  unfold addK
  split
  · omega
  · simp
theorem kv_len (keys : List (List Int)) : (kv keys).length = keys.length := by simp [kv]
def addIn (coin : Int) (entry : List Int) : Nat → List Int → List (List Int) → List (List Int)
  | _, [], keys => keys
  | k, lack :: r, keys => if coin ≤ lack then addIn coin entry (k + 1) r (addK keys (putS entry k (lack - coin))) else addIn coin entry (k + 1) r keys
theorem addIn_len (coin : Int) (entry : List Int) : ∀ (k : Nat) (r : List Int) (keys : List (List Int)), (addIn coin entry k r keys).length ≤ keys.length + r.length
  | _, [], keys => by simp [addIn]
  | k, lack :: r, keys => by
    unfold addIn
    split
    · have := addIn_len coin entry (k + 1) r (addK keys (putS entry k (lack - coin)))
      have := addK_len keys (putS entry k (lack - coin))
      simp; omega
    · have := addIn_len coin entry (k + 1) r keys
      simp; omega
theorem loop_in (x : Option Slot) (coin : Int) (entry : List Int) (hl : entry.length ≤ 1000) : ∀ (r : List Int) (k : Nat) (keys : List (List Int)) (a b : Option Slot), k + r.length ≤ entry.length → keys.length + r.length ≤ 100000 →
    ∃ a' b', forL t_next_entries_0 b_next_entries_1 (enumL k (r.map D.int)) [x, some (.sh (.int coin)), some (.own true (.dT (kv keys))), some (.sh (tupI entry)), a, b] =
      some (.nx [x, some (.sh (.int coin)), some (.own true (.dT (kv (addIn coin entry k r keys)))), some (.sh (tupI entry)), a', b'])
  | [], k, keys, a, b, _, _ => ⟨a, b, by simp [enumL, forL, addIn]⟩
  | lack :: r, k, keys, a, b, h, hk => by
    simp at h hk
    by_cases hc : coin ≤ lack
    · have := addK_len keys (putS entry k (lack - coin))
      obtain ⟨a', b', e⟩ := loop_in x coin entry hl r (k + 1) (addK keys (putS entry k (lack - coin))) (some (.sh (.int (k : Int)))) (some (.sh (.int lack))) (by omega) (by omega)
      refine ⟨a', b', ?_⟩
      unfold addIn
      rw [if_pos hc, ← e]
      have q := m_put_sorted entry k (lack - coin) (by omega) hl
      have hkl : keys.length < 1000000 := by omega
      simp [enumL, forL, t_next_entries_0, b_next_entries_1, hc, q, isOwnT, keyT_tup, kv_len, many, hkl, putG_add]
    · obtain ⟨a', b', e⟩ := loop_in x coin entry hl r (k + 1) keys (some (.sh (.int (k : Int)))) (some (.sh (.int lack))) (by omega) (by omega)
      refine ⟨a', b', ?_⟩
      unfold addIn
      rw [if_neg hc, ← e]
      simp [enumL, forL, t_next_entries_0, b_next_entries_1, hc]
end K79
end

section
set_option linter.all false
set_option maxRecDepth 100000
set_option maxHeartbeats 2000000
set_option autoImplicit false
namespace K79
open Fl PySem
def addAll (coin : Int) : List (List Int) → List (List Int) → List (List Int)
  | [], keys => keys
  | e :: r, keys => addAll coin r (addIn coin e 0 e keys)
theorem addAll_len (coin : Int) (p : Nat) : ∀ (r keys : List (List Int)), (∀ e ∈ r, e.length = p) → (addAll coin r keys).length ≤ keys.length + p * r.length
  | [], keys, _ => by simp [addAll]
  | e :: r, keys, h => by
    have h1 := addAll_len coin p r (addIn coin e 0 e keys) fun x hx => h x (by simp [hx])
    have h2 := addIn_len coin e 0 e keys
    have h3 := h e (by simp)
    simp only [addAll, List.length_cons, Nat.mul_add, Nat.mul_one]
    omega
theorem mem_addK (keys : List (List Int)) (k x : List Int) : x ∈ addK keys k ↔ x ∈ keys ∨ x = k := by
  unfold addK
  split
  · rename_i h
    constructor
    · exact Or.inl
    · rintro (h1 | rfl)
      · exact h1
      · exact h
  · simp
theorem mem_addIn (coin : Int) (entry x : List Int) : ∀ (k : Nat) (r : List Int) (keys : List (List Int)), x ∈ addIn coin entry k r keys ↔ x ∈ keys ∨ ∃ i lack, r[i]? = some lack ∧ coin ≤ lack ∧ x = putS entry (k + i) (lack - coin)
  | k, [], keys => by simp [addIn]
  | k, lack :: r, keys => by
    have hs : (∃ i l, (lack :: r)[i]? = some l ∧ coin ≤ l ∧ x = putS entry (k + i) (l - coin)) ↔ (coin ≤ lack ∧ x = putS entry k (lack - coin)) ∨ (∃ i l, r[i]? = some l ∧ coin ≤ l ∧ x = putS entry (k + 1 + i) (l - coin)) := by
      constructor
      · rintro ⟨i, l, h1, h2, h3⟩
        cases i with
        | zero => simp at h1; subst h1; exact .inl ⟨h2, h3⟩
        | succ i => exact .inr ⟨i, l, by simpa using h1, h2, by rw [h3]; congr 1; omega⟩
      · rintro (⟨h2, h3⟩ | ⟨i, l, h1, h2, h3⟩)
        · exact ⟨0, lack, rfl, h2, h3⟩
        · exact ⟨i + 1, l, by simpa using h1, h2, by rw [h3]; congr 1; omega⟩
    rw [hs]
    unfold addIn
    split
    · rename_i hc
      rw [mem_addIn coin entry x (k + 1) r, mem_addK, or_assoc]
      simp [hc]
    · rename_i hc
      rw [mem_addIn coin entry x (k + 1) r]
      simp [hc]
theorem mem_addAll (coin : Int) (x : List Int) : ∀ (r keys : List (List Int)), x ∈ addAll coin r keys ↔ x ∈ keys ∨ ∃ e ∈ r, ∃ i lack, e[i]? = some lack ∧ coin ≤ lack ∧ x = putS e i (lack - coin)
  | [], keys => by simp [addAll]
  | e :: r, keys => by
    unfold addAll
    rw [mem_addAll coin x r, mem_addIn, or_assoc]
    simp
theorem loop_all (l0 : Option Slot) (coin : Int) (p : Nat) (hp : p ≤ 5) : ∀ (r keys : List (List Int)) (a b c : Option Slot), (∀ e ∈ r, e.length = p) → keys.length + p * r.length ≤ 100000 →
    ∃ a' b' c', forL t_next_entries_2 b_next_entries_3 (r.map tupI) [l0, some (.sh (.int coin)), some (.own true (.dT (kv keys))), a, b, c] =
      some (.nx [l0, some (.sh (.int coin)), some (.own true (.dT (kv (addAll coin r keys)))), a', b', c'])
  | [], keys, a, b, c, _, _ => ⟨a, b, c, by simp [forL, addAll]⟩
  | e :: r, keys, a, b, c, h, hk => by
    have he := h e (by simp)
    simp only [List.length_cons, Nat.mul_add, Nat.mul_one] at hk
    have hl := addIn_len coin e 0 e keys
    obtain ⟨b1, c1, e1⟩ := loop_in l0 coin e (by omega) e 0 keys b c (by omega) (by omega)
    obtain ⟨a', b', c', e2⟩ := loop_all l0 coin p hp r (addIn coin e 0 e keys) (some (.sh (tupI e))) b1 c1 (fun x hx => h x (by simp [hx])) (by omega)
    refine ⟨a', b', c', ?_⟩
    unfold addAll
    rw [← e2]
    have ed : dEnum [tupI e] = some (enumL 0 (e.map D.int)) := by simp [dEnum, tupI]
    simp [-dEnum, forL, t_next_entries_2, b_next_entries_3, ed, e1]
def leT (a b : List Int) : Bool := leD (tupI a) (tupI b)
def nextE (coin : Int) (layer : List (List Int)) : List (List Int) := isort leT (addAll coin layer [])
theorem mem_nextE (coin : Int) (layer : List (List Int)) (x : List Int) : x ∈ nextE coin layer ↔ ∃ e ∈ layer, ∃ i lack, e[i]? = some lack ∧ coin ≤ lack ∧ x = putS e i (lack - coin) := by
  unfold nextE
  rw [(isort_perm leT _).mem_iff, mem_addAll]
  simp
theorem putS_len {e : List Int} {i : Nat} {w : Int} (h : i < e.length) : (putS e i w).length = e.length := by
  unfold putS
  rw [sortI_len]
  simp; omega
theorem nextE_lens {coin : Int} {layer : List (List Int)} {p : Nat} (h : ∀ e ∈ layer, e.length = p) : ∀ e ∈ nextE coin layer, e.length = p := by
  intro x hx
  obtain ⟨e, he, i, l, h1, h2, rfl⟩ := (mem_nextE coin layer x).mp hx
  rw [putS_len (by exact (List.getElem?_eq_some_iff.mp h1).1)]
  exact h e he
theorem nextE_len (coin : Int) (layer : List (List Int)) {p : Nat} (h : ∀ e ∈ layer, e.length = p) : (nextE coin layer).length ≤ p * layer.length := by
  unfold nextE
  rw [isort_length]
  have := addAll_len coin p layer [] h
  simpa using this
theorem likeDs_ints : ∀ a b : List Int, likeDs (a.map .int) (b.map .int) = true
  | [], [] => by simp [likeDs]
  | [], _ :: _ => by simp [likeDs]
  | _ :: _, [] => by simp [likeDs]
  | a :: l, b :: m => by simp [likeDs, likeD, likeDs_ints l m]
theorem fits_tups (n : Nat) : ∀ l : List (List Int), fits (n + 1) (l.map tupI) = true
  | [] => by simp
  | a :: l => by simp [tupI, fits_ints]; exact fits_tups n l
theorem canSort_tups (l : List (List Int)) {p : Nat} (hp : 0 < p) (h : ∀ e ∈ l, e.length = p) (hl : l.length ≤ 1000000) : canSort (l.map tupI) = true := by
  unfold canSort
  rw [fits_tups 6]
  have h1 : likeAll (l.map tupI) = true := by
    unfold likeAll
    rw [List.all_eq_true]
    intro x hx
    rw [List.all_eq_true]
    intro y hy
    obtain ⟨a, _, rfl⟩ := List.mem_map.mp hx
    obtain ⟨b, _, rfl⟩ := List.mem_map.mp hy
    simp [tupI, likeD, likeDs_ints]
  have h2 : (l.map tupI).all tup1 = true := by
    rw [List.all_eq_true]
    intro x hx
    obtain ⟨a, ha, rfl⟩ := List.mem_map.mp hx
    have := h a ha
    cases a with
    | nil => simp at this; omega
    | cons x r => simp [tupI, tup1]
  rw [h1, h2]
  simp [many]
  exact hl
theorem dSort_tups (l : List (List Int)) {p : Nat} (hp : 0 < p) (h : ∀ e ∈ l, e.length = p) (hl : l.length ≤ 1000000) : dSort (.lst (l.map tupI)) = some ((isort leT l).map tupI) := by
  show (if canSort (l.map tupI) then some (isort leD (l.map tupI)) else none) = _
  rw [if_pos (canSort_tups l hp h hl), isort_map tupI (leb := leT) (fun _ _ => rfl)]
def lay (l : List (List Int)) : D := .tup (l.map tupI)
theorem keys_kv (keys : List (List Int)) : (kv keys).map (fun kv => D.tup (kv.1.map keyD)) = keys.map tupI := by
  unfold kv tupI
  rw [List.map_map]
  apply List.map_congr_left
  intro a _
  simp
  intro x _
  rfl
theorem addIn_lens (coin : Int) (layer : List (List Int)) {p : Nat} (h : ∀ e ∈ layer, e.length = p) : ∀ e ∈ addAll coin layer [], e.length = p := by
  intro x hx
  exact nextE_lens h x ((isort_perm leT _).mem_iff.mpr hx)
theorem m_next_entries (layer : List (List Int)) (coin : Int) {p : Nat} (hp : 0 < p) (hp5 : p ≤ 5) (h : ∀ e ∈ layer, e.length = p) (hl : layer.length ≤ 10000) :
    F_next_entries [lay layer, .int coin] = some (.sh (lay (nextE coin layer))) := by
  have hm : p * layer.length ≤ 5 * layer.length := Nat.mul_le_mul_right _ hp5
  obtain ⟨a, b, c, e⟩ := loop_all (some (.sh (lay layer))) coin p hp5 layer [] none none none h (by simp; omega)
  have h2 := addAll_len coin p layer [] h
  simp at h2
  have hs := dSort_tups (addAll coin layer []) hp (addIn_lens coin layer h) (by omega)
  have hk := keys_kv (addAll coin layer [])
  rw [show kv [] = [] from rfl] at e
  simp only [lay] at e
  simp [-dSort, F_next_entries, f_next_entries, lay, nextE, e, hk, hs]
end K79
end

section
set_option linter.all false
set_option maxRecDepth 100000
set_option maxHeartbeats 2000000
set_option autoImplicit false
namespace K79
open Fl PySem
/-! ### the checked couple -/
theorem perm_sum {l m : List Int} (h : l.Perm m) : l.sum = m.sum := by
  induction h with
  | nil => rfl
  | cons x _ ih => simp [ih]
  | swap x y l => simp; omega
  | trans _ _ h1 h2 => rw [h1, h2]
structure okWish (ws : List Int) : Prop where
  one : 1 ≤ ws.length
  five : ws.length ≤ 5
  all : ∀ w ∈ ws, 0 ≤ w ∧ w ≤ 12000000000
theorem loop_wish (x : Option Slot) : ∀ (ws : List Int) (k : Nat) (a b : Option Slot), (∀ n ∈ ws, 0 ≤ n ∧ n ≤ 12000000000) →
    ∃ a' b', forL t_checked_amounts_0 b_checked_amounts_1 (enumL k (ws.map D.int)) [x, a, b] = some (.nx [x, a', b'])
  | [], k, a, b, _ => ⟨a, b, by simp [enumL, forL]⟩
  | w :: ws, k, a, b, h => by
    obtain ⟨a', b', e⟩ := loop_wish x ws (k + 1) (some (.sh (.int (k : Int)))) (some (.sh (.int w))) fun n hn => h n (by simp [hn])
    have hw := h w (by simp)
    refine ⟨a', b', ?_⟩
    rw [← e]
    simp [enumL, forL, t_checked_amounts_0, b_checked_amounts_1, m_is_whole, hw]
theorem m_checked_amounts (d : D) (ws : List Int) (hd : d = .lst (ws.map .int) ∨ d = .tup (ws.map .int)) (ok : okWish ws) : F_checked_amounts [d] = some (.sh (tupI ws)) := by
  obtain ⟨a, b, e⟩ := loop_wish (some (.sh d)) ws 0 none none ok.all
  have hs : dSeq d = some (ws.map .int) := by rcases hd with rfl | rfl <;> rfl
  have h1 := m_is_sequence d (ws.map .int) hs 1 5
  have g1 := ok.one
  have g2 := ok.five
  have g3 : (1 : Int) ≤ ws.length := by omega
  have g4 : (ws.length : Int) ≤ 5 := by omega
  simp [g3, g4] at h1
  rcases hd with rfl | rfl <;> simp [F_checked_amounts, f_checked_amounts, h1, e, tupI]
theorem m_check_wish (d : D) (ws : List Int) (s : Int) (hd : d = .lst (ws.map .int) ∨ d = .tup (ws.map .int)) (ok : okWish ws) (hs : ws.sum = s) : F_check_wish [d, .int s] = some (.sh (tupI ws)) := by
  simp [F_check_wish, f_check_wish, m_checked_amounts d ws hd ok, tupI, hs]
theorem m_checked_couple (d e : D) (ns ws : List Int) (hd : dSeq d = some (ns.map .int)) (ok : okCoins ns) (he : e = .lst (ws.map .int) ∨ e = .tup (ws.map .int)) (okw : okWish ws) (hs : ws.sum = ns.sum) :
    F_checked_couple [d, e] = some (.sh (.tup [tupI (sortI ns), tupI ws])) := by
  have h := m_check_wish e ws (sortI ns).sum he okw (by rw [hs, perm_sum (sortI_perm ns)])
  simp [F_checked_couple, f_checked_couple, m_check_pool d ns hd ok, h, tupI, many]
/-! ### the layers -/
def lays : List Int → List (List Int) → List (List (List Int))
  | [], L => [L]
  | c :: r, L => if nextE c L = [] then [L, []] else L :: lays r (nextE c L)
theorem noLs_tups : ∀ l : List (List Int), noLs (l.map tupI) = true
  | [] => by simp [noLs]
  | a :: l => by simp [noLs, tupI, noLs_ints]; exact noLs_tups l
theorem noL_lay (l : List (List Int)) : noL (lay l) = true := by simp [lay, noLs_tups]
theorem noLs_lays : ∀ l : List (List (List Int)), noLs (l.map lay) = true
  | [] => by simp [noLs]
  | a :: l => by simp [noLs, noL_lay]; exact noLs_lays l
theorem lay_last (ds : List (List (List Int))) (L : List (List Int)) : dIx (.lst ((ds ++ [L]).map lay)) (.int (-1)) = some (lay L) := by
  have h1 : (1 : Int) ≤ (ds.length : Int) + 1 := by omega
  have h2 : (-1 + ((ds.length : Int) + 1)).toNat = ds.length := by omega
  simp [L2.atI, L2.ixN, h1, h2]
theorem loop_lays (p : Nat) (hp : 0 < p) (hp5 : p ≤ 5) (x0 x1 x2 x3 : Option Slot) : ∀ (r : List Int) (ds : List (List (List Int))) (L : List (List Int)) (a b : Option Slot), (∀ e ∈ L, e.length = p) → (∀ l ∈ lays r L, l.length ≤ 400) → ds.length + r.length ≤ 1000 →
    (∃ ρ, forL t_layers_of_0 b_layers_of_1 (r.map D.int) [x0, x1, x2, x3, some (.own true (.lst ((ds ++ [L]).map lay))), a, b] = some (.rt (.sh (.tup ((ds ++ lays r L).map lay))) ρ)) ∨
    (∃ a' b', forL t_layers_of_0 b_layers_of_1 (r.map D.int) [x0, x1, x2, x3, some (.own true (.lst ((ds ++ [L]).map lay))), a, b] = some (.nx [x0, x1, x2, x3, some (.own true (.lst ((ds ++ lays r L).map lay))), a', b']))
  | [], ds, L, a, b, h, _, _ => .inr ⟨a, b, by simp [forL, lays]⟩
  | c :: r, ds, L, a, b, h, h4, hl => by
    have hL : L.length ≤ 400 := h4 L (by unfold lays; split <;> simp)
    have hn := m_next_entries L c hp hp5 h (by omega)
    have hi := lay_last ds L
    have nl := noL_lay L
    have hlen : ds.length + 1 < 1000000 := by simp at hl; omega
    by_cases he : nextE c L = []
    · left
      have nls := noLs_lays (ds ++ [L, []])
      refine ⟨[x0, x1, x2, x3, some (.own true (.lst ((ds ++ [L, []]).map lay))), some (.sh (.int c)), some (.sh (lay []))], ?_⟩
      rw [he] at hn
      simp [-dIx, lay] at hn hi nl nls
      unfold lays
      rw [if_pos he]
      simp [-dIx, forL, t_layers_of_0, b_layers_of_1, lay, hn, hi, nl, nls, many, hlen]
    · have h5 : (nextE c L).length ≤ 400 := h4 _ (by
        unfold lays
        rw [if_neg he]
        cases r with
        | nil => simp [lays]
        | cons c2 r2 => unfold lays; split <;> simp)
      have hrec := loop_lays p hp hp5 x0 x1 x2 x3 r (ds ++ [L]) (nextE c L) (some (.sh (.int c))) (some (.sh (lay (nextE c L)))) (nextE_lens h) (fun l hx => h4 l (by
        unfold lays
        rw [if_neg he]
        exact .tail _ hx)) (by simp at hl ⊢; omega)
      have hst : forL t_layers_of_0 b_layers_of_1 ((c :: r).map D.int) [x0, x1, x2, x3, some (.own true (.lst ((ds ++ [L]).map lay))), a, b] =
          forL t_layers_of_0 b_layers_of_1 (r.map D.int) [x0, x1, x2, x3, some (.own true (.lst ((ds ++ [L] ++ [nextE c L]).map lay))), some (.sh (.int c)), some (.sh (lay (nextE c L)))] := by
        have h6 : ¬ (400 : Int) < (nextE c L).length := by omega
        have h7 : dTruth (lay (nextE c L)) = some true := by
          cases hx : nextE c L with
          | nil => exact absurd hx he
          | cons y ys => simp [lay]
        have h8 : dLen (lay (nextE c L)) = some (.int (nextE c L).length) := by simp [lay]
        simp [-dIx] at hi
        simp [-dIx, -dTruth, -dLen, forL, t_layers_of_0, b_layers_of_1, hn, hi, nl, h6, h7, h8, many, hlen]
      rw [hst]
      have el : ds ++ lays (c :: r) L = (ds ++ [L]) ++ lays r (nextE c L) := by
        conv => lhs; unfold lays
        rw [if_neg he]; simp
      rw [el]
      exact hrec
theorem m_layers_of (d e : D) (ns ws : List Int) (hd : dSeq d = some (ns.map .int)) (ok : okCoins ns) (he : e = .lst (ws.map .int) ∨ e = .tup (ws.map .int)) (okw : okWish ws) (hs : ws.sum = ns.sum)
    (h4 : ∀ l ∈ lays (sortI ns).reverse [sortI ws], l.length ≤ 400) (hns : ns.length ≤ 1000) : F_layers_of [d, e] = some (.sh (.tup ((lays (sortI ns).reverse [sortI ws]).map lay))) := by
  have h1 := m_checked_couple d e ns ws hd ok he okw hs
  have g2 := okw.five
  have h2 := dSort_tup ws (by omega)
  have hlen : (sortI ns).length ≤ 1000 := by rw [sortI_len]; exact hns
  have nls := noLs_lays (lays (sortI ns).reverse [sortI ws])
  have hl := loop_lays ws.length okw.one okw.five (some (.sh d)) (some (.sh e)) (some (.sh (tupI (sortI ns)))) (some (.sh (tupI ws))) (sortI ns).reverse [] [sortI ws] none none (by simp [sortI_len]) h4 (by simpa using hlen)
  simp [tupI] at h1
  simp [lay, tupI] at hl nls
  rcases hl with ⟨ρ, h⟩ | ⟨a, b, h⟩ <;> simp [-dSort, F_layers_of, f_layers_of, h1, h2, h, nls, lay, tupI, many]
end K79
end

section
set_option linter.all false
set_option maxRecDepth 100000
set_option maxHeartbeats 2000000
namespace K79
open Fl PySem
def rgD (k n : Nat) : List D := (List.range' k n).map fun (i : Nat) => .int (i : Int)
theorem rngL_rg (n : Nat) : rngL 0 n = rgD 0 n := by
  unfold rngL rgD
  rw [List.range_eq_range']
  simp
theorem loop_checkF (x : Option Slot) : ∀ (ns : List Int) (k : Nat) (a b : Option Slot), (∀ n ∈ ns, 1 ≤ n ∧ n ≤ 1000000000) →
    ∃ a' b', forL t_check_poolF_0 b_check_poolF_1 (enumL k (ns.map D.int)) [x, a, b] = some (.nx [x, a', b'])
  | [], k, a, b, _ => ⟨a, b, by simp [enumL, forL]⟩
  | n :: ns, k, a, b, h => by
    obtain ⟨a', b', e⟩ := loop_checkF x ns (k + 1) (some (.sh (.int (k : Nat)))) (some (.sh (.int n))) fun m hm => h m (by simp [hm])
    have hn := h n (by simp)
    refine ⟨a', b', ?_⟩
    rw [← e]
    simp [enumL, forL, t_check_poolF_0, b_check_poolF_1, m_is_whole, hn.1, hn.2]
theorem m_check_poolF (d : D) (ns : List Int) (hd : dSeq d = some (ns.map .int)) (ok : okCoins ns) : F_check_poolF [d] = some (.sh (.tp ((sortI ns).map .int))) := by
  have hl : (ns.length : Int) ≤ 12 := by have := ok.1; omega
  obtain ⟨a', b', e⟩ := loop_checkF (some (.sh d)) ns 0 none none ok.2
  cases d with
  | tup m => simp at hd; subst hd; simp [F_check_poolF, f_check_poolF, m_is_sequence, hl, e, canSort_ints ns (by omega), isort_ints]
  | tp m => simp at hd; subst hd; simp [F_check_poolF, f_check_poolF, m_is_sequence, hl, e, canSort_ints ns (by omega), isort_ints]
  | lst m => simp at hd; subst hd; simp [F_check_poolF, f_check_poolF, m_is_sequence, hl, e, canSort_ints ns (by omega), isort_ints]
  | _ => simp at hd
/-! ### lots within a pool -/
def hasL (cs ls : List Int) : Bool := ls.all fun c => decide (ls.count c ≤ cs.count c)
theorem loop_has (x0 x1 : Option Slot) (cs ls : List Int) : ∀ r : List Int, lcL t_has_lot_0 c_has_lot_1 e_has_lot_2 [4] (r.map D.int) [x0, x1, some (.sh (.tp (cs.map .int))), some (.sh (.tp (ls.map .int))), none] =
    some (r.map fun c => .bl (decide (ls.count c ≤ cs.count c)), [x0, x1, some (.sh (.tp (cs.map .int))), some (.sh (.tp (ls.map .int))), none])
  | [] => rfl
  | c :: r => by
    have ih := loop_has x0 x1 cs ls r
    simp [lcL, noOwn, noOwn1, wipeF, backF, t_has_lot_0, c_has_lot_1, e_has_lot_2] at ih ⊢
    simp [ih]
theorem asB_map (bs : List Bool) : asB (bs.map D.bl) = some bs := by
  induction bs with
  | nil => rfl
  | cons b bs ih => simp [asB, ih]
theorem m_has_lot (d e : D) (cs ls : List Int) (hd : dSeq d = some (cs.map .int)) (ok : okCoins cs) (he : dSeq e = some (ls.map .int)) (okl : okCoins ls) : F_has_lot [d, e] = some (.sh (.bl (hasL (sortI cs) (sortI ls)))) := by
  have h1 := m_check_poolF d cs hd ok
  have h2 := m_check_poolF e ls he okl
  have h3 := loop_has (some (.sh d)) (some (.sh e)) (sortI cs) (sortI ls) (sortI ls)
  have hl : (sortI ls).length < 1000000 := by rw [sortI_len]; have := okl.1; omega
  have h4 := asB_map ((sortI ls).map fun c => decide ((sortI ls).count c ≤ (sortI cs).count c))
  rw [List.map_map] at h4
  have h5 : ((fun x => D.bl x) ∘ fun c => decide ((sortI ls).count c ≤ (sortI cs).count c)) = fun c => D.bl (decide ((sortI ls).count c ≤ (sortI cs).count c)) := rfl
  rw [h5] at h4
  simp [F_has_lot, f_has_lot, h1, h2, h3, many, hl, h4, hasL]
/-- the coins of cs without those of ls -/
def less : List Int → List Int → List Int
  | cs, [] => cs
  | cs, l :: ls => less (cs.erase l) ls
def Cl (ls cs : List Int) : Prop := ∀ c, ls.count c ≤ cs.count c
theorem Cl.mem {l : Int} {ls cs : List Int} (h : Cl (l :: ls) cs) : l ∈ cs := by
  have := h l
  rw [List.count_cons_self] at this
  exact List.count_pos_iff.mp (by omega)
theorem Cl.tail {l : Int} {ls cs : List Int} (h : Cl (l :: ls) cs) : Cl ls (cs.erase l) := fun c => by
  have := h c
  rw [List.count_erase]
  rw [List.count_cons] at this
  by_cases q : l = c
  · subst q; simp at this ⊢; omega
  · have q' : (l == c) = false := by simpa using q
    have q2 : (c == l) = false := by simpa using fun z : c = l => q z.symm
    simp [q', q2] at this ⊢
    omega
theorem count_perm {l m : List Int} (h : l.Perm m) (c : Int) : l.count c = m.count c := h.count_eq c
theorem hasL_iff (cs ls : List Int) : hasL (sortI cs) (sortI ls) = true ↔ Cl ls cs := by
  unfold hasL Cl
  rw [List.all_eq_true]
  constructor
  · intro h c
    by_cases hc : c ∈ ls
    · have := h c (sortI_mem.mpr hc)
      rw [decide_eq_true_eq, count_perm (sortI_perm ls), count_perm (sortI_perm cs)] at this
      exact this
    · rw [List.count_eq_zero.mpr hc]; omega
  · intro h c _
    rw [decide_eq_true_eq, count_perm (sortI_perm ls), count_perm (sortI_perm cs)]
    exact h c
theorem less_perm : ∀ {ls cs : List Int}, Cl ls cs → (ls ++ less cs ls).Perm cs
  | [], cs, _ => by simp [less]
  | l :: ls, cs, h => by
    have e := less_perm h.tail
    rw [less, List.cons_append]
    exact (e.cons l).trans (List.perm_cons_erase h.mem).symm
theorem less_sublist : ∀ (ls cs : List Int), (less cs ls).Sublist cs
  | [], cs => List.Sublist.refl _
  | l :: ls, cs => (less_sublist ls (cs.erase l)).trans List.erase_sublist
theorem loop_rest (x0 x1 : Option Slot) : ∀ (ls cs : List Int) (a : Option Slot), Cl ls cs → ∃ a', forL t_rest_of_0 b_rest_of_1 (ls.map D.int) [x0, x1, some (.own true (.lst (cs.map .int))), a] = some (.nx [x0, x1, some (.own true (.lst ((less cs ls).map .int))), a'])
  | [], cs, a, _ => ⟨a, by simp [forL, less]⟩
  | l :: ls, cs, a, h => by
    obtain ⟨a', e⟩ := loop_rest x0 x1 ls (cs.erase l) (some (.sh (.int l))) h.tail
    refine ⟨a', ?_⟩
    rw [less, ← e]
    have hm := h.mem
    simp [forL, t_rest_of_0, b_rest_of_1, hm]
theorem m_rest_of (d e : D) (cs ls : List Int) (hd : dSeq d = some (cs.map .int)) (he : dSeq e = some (ls.map .int)) (h : Cl ls cs) (hl : cs.length ≤ 1000) : F_rest_of [d, e] = some (.sh (tupI (less cs ls))) := by
  obtain ⟨a', e1⟩ := loop_rest (some (.sh d)) (some (.sh e)) ls cs none h
  have h2 : dItems d = some (cs.map .int) := by cases d <;> first | exact hd | cases hd
  have hno := noLs_ints (less cs ls)
  have h3 : (less cs ls).length ≤ 1000 := Nat.le_trans (less_sublist ls cs).length_le hl
  simp [-dItems, -dSeq, F_rest_of, f_rest_of, h2, he, e1, hno, tupI, noL]
theorem loop_less (x0 x1 : Option Slot) : ∀ (ls cs : List Int) (a : Option Slot), Cl ls cs → ∃ a', forL t__law_less_0 b__law_less_1 (ls.map D.int) [x0, x1, some (.own true (.lst (cs.map .int))), a] = some (.nx [x0, x1, some (.own true (.lst ((less cs ls).map .int))), a'])
  | [], cs, a, _ => ⟨a, by simp [forL, less]⟩
  | l :: ls, cs, a, h => by
    obtain ⟨a', e⟩ := loop_less x0 x1 ls (cs.erase l) (some (.sh (.int l))) h.tail
    refine ⟨a', ?_⟩
    rw [less, ← e]
    have hm := h.mem
    simp [forL, t__law_less_0, b__law_less_1, hm]
theorem m_law_less (d e : D) (cs ls : List Int) (hd : dSeq d = some (cs.map .int)) (he : dSeq e = some (ls.map .int)) (h : Cl ls cs) (hl : cs.length ≤ 1000) : F__law_less [d, e] = some (.sh (tupI (less cs ls))) := by
  obtain ⟨a', e1⟩ := loop_less (some (.sh d)) (some (.sh e)) ls cs none h
  have h2 : dItems d = some (cs.map .int) := by cases d <;> first | exact hd | cases hd
  have hno := noLs_ints (less cs ls)
  simp [-dItems, -dSeq, F__law_less, f__law_less, h2, he, e1, hno, tupI, noL]
theorem m_less_lot (d e : D) (cs ls : List Int) (hd : dSeq d = some (cs.map .int)) (ok : okCoins cs) (he : dSeq e = some (ls.map .int)) (okl : okCoins ls) (h : Cl ls cs) : F_less_lot [d, e] = some (.sh (tupI (less (sortI cs) ls))) := by
  have h1 := m_has_lot d e cs ls hd ok he okl
  rw [(hasL_iff cs ls).mpr h] at h1
  have h2 := m_check_pool d cs hd ok
  have h3 := m_rest_of (.tup ((sortI cs).map .int)) e (sortI cs) ls rfl he (fun c => by rw [count_perm (sortI_perm cs)]; exact h c) (by rw [sortI_len]; have := ok.1; omega)
  simp [F_less_lot, f_less_lot, h1, h2, h3]
end K79
end

section
set_option linter.all false
set_option maxRecDepth 100000
set_option maxHeartbeats 2000000
namespace K79
open Fl PySem
theorem last_ix (out : List Int) (t : Int) : dIx (.lst ((out ++ [t]).map D.int)) (.int (-1)) = some (.int t) := by
  have h1 : (1 : Int) ≤ (out.length : Int) + 1 := by omega
  have h2 : (-1 + ((out.length : Int) + 1)).toNat = out.length := by omega
  simp [L2.atI, L2.ixN, h1, h2]
theorem loop_cov (x0 x1 x4 : Option Slot) : ∀ (cs out : List Int) (t : Int) (a : Option Slot), out.length + cs.length < 900000 →
    ∃ a', forL t_covers_of_0 b_covers_of_1 (cs.map D.int) [x0, x1, some (.own true (.lst ((out ++ [t]).map .int))), a, x4] = some (.nx [x0, x1, some (.own true (.lst ((out ++ t :: psums t cs).map .int))), a', x4])
  | [], out, t, a, _ => ⟨a, by simp [forL, psums]⟩
  | c :: cs, out, t, a, h => by
    have h : out.length + cs.length + 1 < 900000 := h
    obtain ⟨a', e⟩ := loop_cov x0 x1 x4 cs (out ++ [t]) (t + c) (some (.sh (.int c))) (by simp; omega)
    refine ⟨a', ?_⟩
    rw [psums]
    have e2 : out ++ t :: (t + c) :: psums (t + c) cs = out ++ [t] ++ (t + c) :: psums (t + c) cs := by simp
    rw [e2, ← e]
    have h1 := last_ix out t
    have hl : out.length + 1 < 1000000 := by omega
    simp [-dIx] at h1
    simp [-dIx, forL, t_covers_of_0, b_covers_of_1, h1, many, hl]
def cov (cs : List Int) (lost : Int) (k : Nat) : Int := (cs.take ((k : Int) - lost).toNat).sum
theorem psums_get : ∀ (cs : List Int) (t : Int) (j : Nat), j ≤ cs.length → (t :: psums t cs)[j]? = some (t + (cs.take j).sum)
  | cs, t, 0, _ => by simp
  | [], t, j + 1, h => by simp at h
  | c :: cs, t, j + 1, h => by
    have := psums_get cs (t + c) j (by simpa using h)
    rw [psums, List.getElem?_cons_succ, this, List.take_succ_cons, List.sum_cons, Int.add_assoc]
theorem loop_cov2 (x0 x3 : Option Slot) (cs : List Int) (lost : Int) (h0 : 0 ≤ lost) : ∀ (n k : Nat), k + n ≤ cs.length →
    lcL t_covers_of_2 c_covers_of_3 e_covers_of_4 [4] (rgD k n) [x0, some (.sh (.int lost)), some (.own true (.lst ((0 :: psums 0 cs).map .int))), x3, none] =
      some ((List.range' k n).map fun i => .int (cov cs lost i), [x0, some (.sh (.int lost)), some (.own true (.lst ((0 :: psums 0 cs).map .int))), x3, none])
  | 0, k, _ => by simp [rgD, lcL]
  | n + 1, k, h => by
    have ih := loop_cov2 x0 x3 cs lost h0 n (k + 1) (by omega)
    have hr : rgD k (n + 1) = .int (k : Int) :: rgD (k + 1) n := by simp [rgD, List.range'_succ]
    rw [hr, List.range'_succ]
    have hj : ((k : Int) - lost).toNat ≤ cs.length := by omega
    have hg := psums_get cs 0 ((k : Int) - lost).toNat hj
    have hix : dIx (.lst ((0 :: psums 0 cs).map D.int)) (.int (if (k : Int) - lost > 0 then (k : Int) - lost else 0)) = some (.int (cov cs lost k)) := by
      have hlen : (0 :: psums 0 cs).length = cs.length + 1 := by simp [psums_len]
      have e1 : (if (k : Int) - lost > 0 then (k : Int) - lost else 0) = ((((k : Int) - lost).toNat : Nat) : Int) := by split <;> omega
      rw [e1]
      show L2.atI ((0 :: psums 0 cs).map D.int) _ = _
      rw [atI_nat', List.getElem?_map, hg]
      simp [cov]
    have hno : noLs ((0 :: psums 0 cs).map D.int) = true := noLs_ints _
    simp [-dIx] at hix hno
    simp [-dIx, t_covers_of_2, c_covers_of_3, e_covers_of_4] at ih
    simp [-dIx, lcL, noOwn, noOwn1, wipeF, backF, t_covers_of_2, c_covers_of_3, e_covers_of_4, hix, hno, ih]
theorem m_covers_of (d : D) (cs : List Int) (lost : Int) (hd : dSeq d = some (cs.map .int)) (h0 : 0 ≤ lost) (hl : cs.length ≤ 1000) : F_covers_of [d, .int lost] = some (.sh (.lst ((List.range cs.length).map fun i => .int (cov cs lost i)))) := by
  obtain ⟨a', e1⟩ := loop_cov (some (.sh d)) (some (.sh (.int lost))) none cs [] 0 none (by simp; omega)
  have e2 := loop_cov2 (some (.sh d)) a' cs lost h0 cs.length 0 (by omega)
  have e3 : dLen d = some (.int (cs.length : Nat)) := by
    cases d <;> first | (simp at hd; subst hd; simp) | cases hd
  have e4 : dRng1 [.int ((cs.length : Nat) : Int)] = some (rgD 0 cs.length) := by rw [← rngL_rg]; exact dRng1_nat _ (by omega)
  have hlr : (rgD 0 cs.length).length < many := by
    unfold rgD many
    rw [List.length_map, List.length_range']
    omega
  have s1 : fSetO 2 (fLst (fArgs dLst (fCons (fC (.int 0)) fNil))) [some (.sh d), some (.sh (.int lost)), none, none, none] = some (.nx [some (.sh d), some (.sh (.int lost)), some (.own true (.lst (([] ++ [(0 : Int)]).map D.int))), none, none]) := by simp [many]
  have s2 : fFor (fUn dSeq (fVar 0)) t_covers_of_0 b_covers_of_1 [some (.sh d), some (.sh (.int lost)), some (.own true (.lst (([] ++ [(0 : Int)]).map D.int))), none, none] = some (.nx [some (.sh d), some (.sh (.int lost)), some (.own true (.lst ((0 :: psums 0 cs).map D.int))), a', none]) := by
    simp only [fFor, fUn, fVar, List.getElem?_cons_zero, Option.bind_some, hd, Option.map_some]
    exact e1
  have s3 : fRet (fFrz (fLst (fLc (fArgs dRng1 (fCons (fArgs (d1 dLen) (fCons (fVar 0) fNil)) fNil)) t_covers_of_2 c_covers_of_3 e_covers_of_4 [4]))) [some (.sh d), some (.sh (.int lost)), some (.own true (.lst ((0 :: psums 0 cs).map D.int))), a', none] = some (.rt (.sh (.lst ((List.range cs.length).map fun i => .int (cov cs lost i)))) [some (.sh d), some (.sh (.int lost)), some (.own true (.lst ((0 :: psums 0 cs).map D.int))), a', none]) := by
    have q : fArgs dRng1 (fCons (fArgs (d1 dLen) (fCons (fVar 0) fNil)) fNil) [some (.sh d), some (.sh (.int lost)), some (.own true (.lst ((0 :: psums 0 cs).map D.int))), a', none] = some (rgD 0 cs.length, [some (.sh d), some (.sh (.int lost)), some (.own true (.lst ((0 :: psums 0 cs).map D.int))), a', none]) := by
      refine fArgs_of (ds := [.int (cs.length : Nat)]) ?_ e4
      simp [-dLen, e3]
    simp only [fRet, fFrz, fLst, fLc, q, Option.bind_some, if_pos hlr, e2, O.frz, if_true, O.toD]
    rw [List.range_eq_range']
  have s0 : f_covers_of ([d, .int lost].map (fun d => some (.sh d)) ++ List.replicate (5 - [d, D.int lost].length) none) = some (.rt (.sh (.lst ((List.range cs.length).map fun i => .int (cov cs lost i)))) [some (.sh d), some (.sh (.int lost)), some (.own true (.lst ((0 :: psums 0 cs).map D.int))), a', none]) := by
    unfold f_covers_of
    show fSeq _ _ [some (.sh d), some (.sh (.int lost)), none, none, none] = _
    rw [fSeq_nx s1, fSeq_nx s2, s3]
  unfold F_covers_of fnD
  rw [s0]
  rfl
end K79
end

section
set_option linter.all false
set_option maxRecDepth 100000
set_option maxHeartbeats 2000000
namespace K79
open Fl PySem
/-- the first place whose coin is above the room of its cover -/
def ff (p lost : Int) (cs : List Int) : List Int → Nat → Option Nat
  | [], _ => none
  | c :: r, k => if cov cs lost k / (p - 1) + 1 < c then some k else ff p lost cs r (k + 1)
def optN : Option Nat → D
  | none => .non
  | some k => .int (k : Int)
def covD (cs : List Int) (lost : Int) : D := .lst ((List.range cs.length).map fun i => .int (cov cs lost i))
theorem cov_ix (cs : List Int) (lost : Int) (k : Nat) (h : k < cs.length) : dIx (covD cs lost) (.int (k : Int)) = some (.int (cov cs lost k)) := by
  show L2.atI ((List.range cs.length).map fun i => D.int (cov cs lost i)) _ = _
  rw [atI_nat', List.getElem?_map, List.getElem?_range h]
  rfl
theorem loop_ff (x0 x2 : Option Slot) {p : Int} (hp : 2 ≤ p) (hp5 : p ≤ 5) (lost : Int) (cs : List Int) : ∀ (r : List Int) (k : Nat) (a b : Option Slot), k + r.length = cs.length →
    (∃ a' b', ff p lost cs r k = none ∧ forL t_first_fallen_0 b_first_fallen_1 (enumL k (r.map D.int)) [x0, some (.sh (.int p)), x2, some (.sh (covD cs lost)), a, b] = some (.nx [x0, some (.sh (.int p)), x2, some (.sh (covD cs lost)), a', b'])) ∨
    ∃ j ρ, ff p lost cs r k = some j ∧ forL t_first_fallen_0 b_first_fallen_1 (enumL k (r.map D.int)) [x0, some (.sh (.int p)), x2, some (.sh (covD cs lost)), a, b] = some (.rt (.sh (.int (j : Int))) ρ)
  | [], k, a, b, _ => .inl ⟨a, b, rfl, by simp [enumL, forL]⟩
  | c :: r, k, a, b, h => by
    have hk : k < cs.length := by simp at h; omega
    have hix := cov_ix cs lost k hk
    have hp1 : 1 < p := by omega
    have hp3 : p - 1 < 18446744073709551616 := by omega
    by_cases hc : cov cs lost k / (p - 1) + 1 < c
    · generalize covD cs lost = cd at hix ⊢
      refine .inr ⟨k, [x0, some (.sh (.int p)), x2, some (.sh cd), some (.sh (.int k)), some (.sh (.int c))], by simp [ff, hc], ?_⟩
      simp [-dIx, enumL, forL, t_first_fallen_0, b_first_fallen_1, hix, hp1, hp3, hc]
    · have ih := loop_ff x0 x2 hp hp5 lost cs r (k + 1) (some (.sh (.int (k : Nat)))) (some (.sh (.int c))) (by simp at h; omega)
      have hf : ff p lost cs (c :: r) k = ff p lost cs r (k + 1) := by simp [ff, hc]
      rw [hf]
      generalize covD cs lost = cd at hix ih ⊢
      have e : forL t_first_fallen_0 b_first_fallen_1 (enumL k ((c :: r).map D.int)) [x0, some (.sh (.int p)), x2, some (.sh cd), a, b] = forL t_first_fallen_0 b_first_fallen_1 (enumL (k + 1) (r.map D.int)) [x0, some (.sh (.int p)), x2, some (.sh cd), some (.sh (.int (k : Nat))), some (.sh (.int c))] := by
        simp [-dIx, enumL, forL, t_first_fallen_0, b_first_fallen_1, hix, hp1, hp3, hc]
      rw [e]
      exact ih
theorem ff_lt {p lost : Int} {cs : List Int} : ∀ {r : List Int} {k j : Nat}, ff p lost cs r k = some j → k ≤ j ∧ j < k + r.length ∧ ∃ c, r[j - k]? = some c ∧ cov cs lost j / (p - 1) + 1 < c
  | [], k, j, h => by cases h
  | c :: r, k, j, h => by
    unfold ff at h
    split at h
    · rename_i hc
      cases h
      exact ⟨Nat.le_refl _, by simp, c, by simp, hc⟩
    · obtain ⟨a, b, d, e1, e2⟩ := ff_lt h
      refine ⟨by omega, by simp; omega, d, ?_, e2⟩
      rw [show j - k = (j - (k + 1)) + 1 by omega, List.getElem?_cons_succ]
      exact e1
theorem ff_none {p lost : Int} {cs : List Int} : ∀ {r : List Int} {k : Nat}, ff p lost cs r k = none ↔ ∀ i c, r[i]? = some c → c ≤ cov cs lost (k + i) / (p - 1) + 1
  | [], k => by simp [ff]
  | c :: r, k => by
    unfold ff
    split
    · rename_i hc
      constructor
      · intro h; cases h
      · intro h
        have := h 0 c (by simp)
        simp at this
        omega
    · rename_i hc
      rw [ff_none]
      constructor
      · intro h i d e
        cases i with
        | zero => simp at e; subst e; simp; omega
        | succ i =>
          have := h i d (by simpa using e)
          rw [show k + (i + 1) = k + 1 + i by omega]
          exact this
      · intro h i d e
        have := h (i + 1) d (by simpa using e)
        rw [show k + (i + 1) = k + 1 + i by omega] at this
        exact this
theorem m_first_fallen (d : D) {p : Int} (hp : 2 ≤ p) (hp5 : p ≤ 5) (cs : List Int) (lost : Int) (hd : dSeq d = some (cs.map .int)) (h0 : 0 ≤ lost) (hl : cs.length ≤ 1000) : F_first_fallen [d, .int p, .int lost] = some (.sh (optN (ff p lost cs cs 0))) := by
  have e1 := m_covers_of d cs lost hd h0 hl
  have e2 := loop_ff (some (.sh d)) (some (.sh (.int lost))) hp hp5 lost cs cs 0 none none (by omega)
  have e1 : F_covers_of [d, .int lost] = some (.sh (covD cs lost)) := e1
  have hp1 : ¬ p = 1 := by omega
  generalize covD cs lost = cd at e1 e2
  have e3 : dEnum [d] = some (enumL 0 (cs.map D.int)) := by simp [-dSeq, hd]
  rcases e2 with ⟨a', b', q, h⟩ | ⟨j, ρ, q, h⟩
  · rw [q]
    simp [-dSeq, -dEnum, F_first_fallen, f_first_fallen, e1, hp1, e3, h, optN]
  · rw [q]
    simp [-dSeq, -dEnum, F_first_fallen, f_first_fallen, e1, hp1, e3, h, optN]
end K79
end

section
set_option linter.all false
set_option maxRecDepth 100000
set_option maxHeartbeats 2000000
namespace K79
open Fl PySem
theorem m_check_lost (lost : Int) (h0 : 0 ≤ lost) (h1 : lost ≤ 12) : F_check_lost [.int lost] = some (.sh (.int lost)) := by
  have : ¬ 12 < lost := by omega
  have : ¬ lost < 0 := by omega
  simp [F_check_lost, f_check_lost, isB, okN, *]
theorem cut_from (l : List D) (k : Nat) (h : k ≤ l.length) : cutD l (some (k : Int)) none = l.drop k := by
  unfold cutD
  rw [HT.sIx_nat, HT.sIx_none, Nat.min_eq_left h]
  rw [List.take_of_length_le (by simp)]
theorem cut_mid (l : List D) (j k : Nat) (hj : j ≤ k) (h : k ≤ l.length) : cutD l (some (j : Int)) (some (k : Int)) = (l.drop j).take (k - j) := by
  unfold cutD
  rw [HT.sIx_nat, HT.sIx_nat, Nat.min_eq_left h, Nat.min_eq_left (by omega)]
/-- how many coins come ahead of the lost ones -/
def fst (k : Nat) (lost : Int) : Nat := ((k : Int) - lost).toNat
/-- the rest that fails -/
def fallR (cs : List Int) (lost : Int) (k : Nat) : List Int := cs.take (fst k lost) ++ cs.drop k
def fallL (cs : List Int) (lost : Int) (k : Nat) : List Int := (cs.drop (fst k lost)).take (k - fst k lost)
theorem fallR_perm (cs : List Int) (lost : Int) (h0 : 0 ≤ lost) (k : Nat) : (fallL cs lost k ++ fallR cs lost k).Perm cs := by
  have hf : fst k lost ≤ k := by unfold fst; omega
  have e : cs = cs.take (fst k lost) ++ (fallL cs lost k ++ cs.drop k) := by
    unfold fallL
    have h1 : cs.drop k = (cs.drop (fst k lost)).drop (k - fst k lost) := by rw [List.drop_drop]; congr 1; omega
    rw [h1, List.take_append_drop, List.take_append_drop]
  conv => rhs; rw [e]
  unfold fallR
  rw [← List.append_assoc, ← List.append_assoc]
  exact (List.perm_append_comm).append_right _
theorem fallR_sub (cs : List Int) (lost : Int) (h0 : 0 ≤ lost) (k : Nat) : (fallR cs lost k).Sublist cs := by
  have hf : fst k lost ≤ k := by unfold fst; omega
  unfold fallR
  conv => rhs; rw [← List.take_append_drop (fst k lost) cs]
  refine (List.Sublist.refl _).append ?_
  have h1 : cs.drop k = (cs.drop (fst k lost)).drop (k - fst k lost) := by rw [List.drop_drop]; congr 1; omega
  rw [h1]
  exact List.drop_sublist _ _
theorem okCoins.sub {cs ds : List Int} (h : okCoins cs) (s : ds.Sublist cs) : okCoins ds := ⟨Nat.le_trans s.length_le h.1, fun n hn => h.2 n (s.subset hn)⟩
theorem m_serves_after_no (d : D) {p lost : Int} (hp : 2 ≤ p) (hp5 : p ≤ 5) (h0 : 0 ≤ lost) (h12 : lost ≤ 12) (ns : List Int) (hd : dSeq d = some (ns.map .int)) (ok : okCoins ns) (h : ff p lost (sortI ns) (sortI ns) 0 = none) :
    F_serves_after [d, .int p, .int lost] = some (.sh .non) := by
  have e1 := m_check_pool d ns hd ok
  have e2 := m_check_people p 1 (by omega) hp5
  have e3 := m_check_lost lost h0 h12
  have e4 := m_first_fallen (.tup ((sortI ns).map .int)) hp hp5 (sortI ns) lost rfl h0 (by have := ok.sort.1; omega)
  rw [h] at e4
  simp [F_serves_after, f_serves_after, e1, e2, e3, e4, optN]
theorem m_serves_after_yes (d : D) {p lost : Int} (hp : 2 ≤ p) (hp5 : p ≤ 5) (h0 : 0 ≤ lost) (h12 : lost ≤ 12) (ns : List Int) (hd : dSeq d = some (ns.map .int)) (ok : okCoins ns) {k : Nat} (h : ff p lost (sortI ns) (sortI ns) 0 = some k) {c z : Int} {zs : List Int} (hc : (sortI ns)[k]? = some c)
    (hf : failL p (fallR (sortI ns) lost k) 0 0 = z :: zs) :
    F_serves_after [d, .int p, .int lost] = some (.sh (.obj 3 [tupI (fallL (sortI ns) lost k), .int c, tupI (wishS p (fallR (sortI ns) lost k) z.toNat)])) := by
  have e1 := m_check_pool d ns hd ok
  have e2 := m_check_people p 1 (by omega) hp5
  have e3 := m_check_lost lost h0 h12
  have e4 := m_first_fallen (.tup ((sortI ns).map .int)) hp hp5 (sortI ns) lost rfl h0 (by have := ok.sort.1; omega)
  rw [h] at e4
  have okr : okCoins (fallR (sortI ns) lost k) := ok.sort.sub (fallR_sub _ _ h0 _)
  have hs : (fallR (sortI ns) lost k).Pairwise (· ≤ ·) := (sortI_sorted ns).sublist (fallR_sub _ _ h0 _)
  have e5 := m_serves p hp hp5 (tupI (fallR (sortI ns) lost k)) (fallR (sortI ns) lost k) rfl okr
  rw [sortI_id hs] at e5
  unfold serveD at e5
  rw [hf] at e5
  have hkl : k < (sortI ns).length := (List.getElem?_eq_some_iff.mp hc).1
  have hfk : fst k lost ≤ k := by unfold fst; omega
  have q1 : (if (k : Int) - lost > 0 then (k : Int) - lost else 0) = ((fst k lost : Nat) : Int) := by unfold fst; split <;> omega
  have q2 := cutL_take ((sortI ns).map D.int) (fst k lost) (by simp; omega)
  have q3 := cut_from ((sortI ns).map D.int) k (by simp; omega)
  have q4 := cut_mid ((sortI ns).map D.int) (fst k lost) k hfk (by simp; omega)
  have q5 : dIx (.tup ((sortI ns).map D.int)) (.int (k : Int)) = some (.int c) := by
    show L2.atI ((sortI ns).map D.int) _ = _
    rw [atI_nat', List.getElem?_map, hc]
    rfl
  have q6 : (D.tup (((sortI ns).map D.int).take (fst k lost) ++ ((sortI ns).map D.int).drop k)) = tupI (fallR (sortI ns) lost k) := by
    unfold tupI fallR
    rw [List.map_append, List.map_take, List.map_drop]
  have q7 : (D.tup ((((sortI ns).map D.int).drop (fst k lost)).take (k - fst k lost))) = tupI (fallL (sortI ns) lost k) := by
    unfold tupI fallL
    rw [List.map_take, List.map_drop]
  have hmany : (((sortI ns).map D.int).take (fst k lost)).length + (((sortI ns).map D.int).drop k).length ≤ 1000000 := by
    have := ok.sort.1
    simp
    omega
  have dmax : dMax2 (.int 0) (.int ((k : Int) - lost)) = some (.int ((fst k lost : Nat) : Int)) := by
    show some (D.int _) = _
    rw [q1]
  have dadd : dAdd (.tup (((sortI ns).map D.int).take (fst k lost))) (.tup (((sortI ns).map D.int).drop k)) = some (tupI (fallR (sortI ns) lost k)) := by
    rw [← q6]
    simp only [dAdd]
    rw [if_pos (show _ ≤ many from hmany)]
  simp only [optN] at e4
  simp [-dIx, -dMax2, -dAdd, F_serves_after, f_serves_after, e1, e2, e3, e4, q2, q3, q4, q5, q7, dmax, dadd, e5]
  rfl
end K79
end

section
set_option linter.all false
set_option maxRecDepth 100000
set_option maxHeartbeats 1000000
namespace K79
open Fl PySem
theorem okL_append {p : Int} : ∀ {A B : List Int} {r : Int}, okL p r (A ++ B) ↔ okL p r A ∧ okL p (r + A.sum) B
  | [], B, r => by simp [okL]
  | a :: A, B, r => by
    rw [List.cons_append, okL, okL, okL_append, List.sum_cons, ← Int.add_assoc]
    constructor
    · rintro ⟨a, b, c, d⟩; exact ⟨⟨a, b, c⟩, d⟩
    · rintro ⟨⟨a, b, c⟩, d⟩; exact ⟨a, b, c, d⟩
theorem okL_of {p : Int} : ∀ {l : List Int} {R : Int}, (∀ c ∈ l, 1 ≤ c) → (∀ i c, l[i]? = some c → c ≤ (R + (l.take i).sum) / (p - 1) + 1) → okL p R l
  | [], R, _, _ => trivial
  | c :: l, R, h1, h2 => by
    refine ⟨h1 c (by simp), by simpa using h2 0 c (by simp), okL_of (fun d hd => h1 d (by simp [hd])) fun i d e => ?_⟩
    have := h2 (i + 1) d (by simpa using e)
    rw [List.take_succ_cons, List.sum_cons, ← Int.add_assoc] at this
    exact this
def Bear (p lost : Int) (cs : List Int) : Prop := ff p lost cs cs 0 = none
theorem bear_iff {p lost : Int} {cs : List Int} : Bear p lost cs ↔ ∀ i c, cs[i]? = some c → c ≤ cov cs lost i / (p - 1) + 1 := by
  unfold Bear
  rw [ff_none]
  simp
theorem not_bear {p lost : Int} {cs : List Int} (h : ¬ Bear p lost cs) : ∃ k c, ff p lost cs cs 0 = some k ∧ cs[k]? = some c ∧ cov cs lost k / (p - 1) + 1 < c := by
  unfold Bear at h
  cases e : ff p lost cs cs 0 with
  | none => exact absurd e h
  | some k =>
    obtain ⟨_, _, c, e1, e2⟩ := ff_lt e
    exact ⟨k, c, rfl, by simpa using e1, e2⟩
theorem split_at {cs : List Int} {k : Nat} {c : Int} (h : cs[k]? = some c) : cs.drop k = c :: cs.drop (k + 1) := by
  obtain ⟨a, b⟩ := List.getElem?_eq_some_iff.mp h
  rw [List.drop_eq_getElem_cons a, b]
/-- the rest behind a fallen coin fails -/
theorem fall_fails {p lost : Int} (hp : 2 ≤ p) (hp5 : p ≤ 5) {cs : List Int} (h0 : 0 ≤ lost) (h1 : ∀ c ∈ cs, 1 ≤ c) {k : Nat} {c : Int} (hc : cs[k]? = some c) (hf : cov cs lost k / (p - 1) + 1 < c) : ∃ z zs, failL p (fallR cs lost k) 0 0 = z :: zs := by
  cases e : failL p (fallR cs lost k) 0 0 with
  | cons z zs => exact ⟨z, zs, rfl⟩
  | nil =>
    have hok := failL_bad hp hp5 (fun d hd => h1 d ((fallR_sub cs lost h0 k).subset hd)) e
    unfold fallR at hok
    rw [split_at hc] at hok
    have := (okL_append.mp hok).2
    have := this.2.1
    rw [Int.zero_add] at this
    have e2 : (cs.take (fst k lost)).sum = cov cs lost k := rfl
    rw [e2] at this
    omega
/-! ### a rest of a pool that bears -/
theorem sub_get : ∀ {r cs : List Int}, r.Sublist cs → ∀ {j : Nat} {x : Int}, r[j]? = some x → ∃ i, j ≤ i ∧ i + r.length ≤ j + cs.length ∧ cs[i]? = some x
  | _, _, .slnil, j, x, h => by simp at h
  | _, _, .cons a s, j, x, h => by
    obtain ⟨i, h1, h2, h3⟩ := sub_get s h
    exact ⟨i + 1, by omega, by simp; omega, by simpa using h3⟩
  | _, _, .cons₂ a s, 0, x, h => ⟨0, Nat.le_refl _, by have := s.length_le; simp; omega, by simpa using h⟩
  | _, _, .cons₂ a s, j + 1, x, h => by
    obtain ⟨i, h1, h2, h3⟩ := sub_get s (j := j) (x := x) (by simpa using h)
    exact ⟨i + 1, by omega, by simp; omega, by simpa using h3⟩
theorem sorted_get {cs : List Int} (hs : cs.Pairwise (· ≤ ·)) {i j : Nat} {x y : Int} (hij : i ≤ j) (h1 : cs[i]? = some x) (h2 : cs[j]? = some y) : x ≤ y := by
  obtain ⟨a, rfl⟩ := List.getElem?_eq_some_iff.mp h1
  obtain ⟨b, rfl⟩ := List.getElem?_eq_some_iff.mp h2
  rcases Nat.lt_or_eq_of_le hij with h | h
  · exact List.pairwise_iff_getElem.mp hs i j a b h
  · subst h; exact Int.le_refl _
theorem take_sum_succ {l : List Int} {t : Nat} {x : Int} (h : l[t]? = some x) : (l.take (t + 1)).sum = (l.take t).sum + x := by
  rw [List.take_add_one, h]
  simp
theorem sub_sums {r cs : List Int} (s : r.Sublist cs) (hs : cs.Pairwise (· ≤ ·)) : ∀ t, t ≤ r.length → (cs.take t).sum ≤ (r.take t).sum
  | 0, _ => by simp
  | t + 1, h => by
    have ih := sub_sums s hs t (by omega)
    have h1 : r[t]? = some r[t] := List.getElem?_eq_getElem h
    obtain ⟨i, g1, g2, g3⟩ := sub_get s h1
    have ht : t < cs.length := Nat.lt_of_lt_of_le h s.length_le
    have h2 : cs[t]? = some cs[t] := List.getElem?_eq_getElem ht
    have := sorted_get hs g1 h2 g3
    rw [take_sum_succ h1, take_sum_succ h2]
    omega
theorem take_sum_mono {l : List Int} (h : ∀ c ∈ l, 0 ≤ c) {s t : Nat} (hst : s ≤ t) : (l.take s).sum ≤ (l.take t).sum := by
  induction t with
  | zero => have : s = 0 := by omega
            subst this; exact Int.le_refl _
  | succ t ih =>
    rcases Nat.lt_or_eq_of_le hst with q | q
    · have := ih (by omega)
      cases e : l[t]? with
      | none =>
        rw [List.take_add_one, e]
        simpa using this
      | some x =>
        rw [take_sum_succ e]
        have := h x (List.mem_of_getElem? e)
        omega
    · subst q; exact Int.le_refl _
theorem cov_room {p r s : Int} (hp : 2 ≤ p) (h : r ≤ s) : r / (p - 1) + 1 ≤ s / (p - 1) + 1 := Fl.room_mono hp h
theorem bear_sub {p lost : Int} (hp : 2 ≤ p) {r cs : List Int} (s : r.Sublist cs) (hs : cs.Pairwise (· ≤ ·)) (h1 : ∀ c ∈ cs, 1 ≤ c) (hb : Bear p lost cs) {m : Int} (hm : (r.length : Int) + m = cs.length) (hml : m ≤ lost) : Bear p (lost - m) r := by
  rw [bear_iff] at hb ⊢
  intro j x hx
  obtain ⟨i, g1, g2, g3⟩ := sub_get s hx
  have hj := (List.getElem?_eq_some_iff.mp hx).1
  refine Int.le_trans (hb i x g3) (cov_room hp ?_)
  unfold cov
  refine Int.le_trans (take_sum_mono (fun c hc => by have := h1 c hc; omega) (t := ((j : Int) - (lost - m)).toNat) (by omega)) ?_
  exact sub_sums s hs _ (by omega)
theorem bear_ok {p lost : Int} (hp : 2 ≤ p) (h0 : 0 ≤ lost) {cs : List Int} (h1 : ∀ c ∈ cs, 1 ≤ c) (hb : Bear p lost cs) : okL p 0 cs := by
  rw [bear_iff] at hb
  refine okL_of h1 fun i c e => Int.le_trans (hb i c e) (cov_room hp ?_)
  rw [Int.zero_add]
  exact take_sum_mono (fun c hc => by have := h1 c hc; omega) (by omega)
end K79
end

section
set_option linter.all false
set_option maxRecDepth 100000
set_option maxHeartbeats 2000000
namespace K79
open Fl PySem
theorem putS_set {e : List Int} {i : Nat} {w : Int} (h : i < e.length) : putS e i w = sortI (e.set i w) := by
  unfold putS
  rw [List.set_eq_take_append_cons_drop, if_pos h]
  simp
theorem set_mid {x : List Int} {i : Nat} (h : i < x.length) (v : Int) : (x.set i v).Perm (v :: (x.take i ++ x.drop (i + 1))) := by
  rw [List.set_eq_take_append_cons_drop, if_pos h]
  exact List.perm_middle
theorem self_mid {x : List Int} {i : Nat} {w : Int} (hi : x[i]? = some w) : x.Perm (w :: (x.take i ++ x.drop (i + 1))) := by
  obtain ⟨h1, e1⟩ := List.getElem?_eq_some_iff.mp hi
  have := set_mid h1 x[i]
  rw [List.set_getElem_self] at this
  rwa [e1] at this
def Step (c : Int) (x y : List Int) : Prop := ∃ i l, x[i]? = some l ∧ c ≤ l ∧ y = putS x i (l - c)
theorem mem_next {c : Int} {L : List (List Int)} {y : List Int} : y ∈ nextE c L ↔ ∃ x ∈ L, Step c x y := mem_nextE c L y
theorem sum_le_mul (m : Int) : ∀ (y : List Int), (∀ l ∈ y, l ≤ m) → y.sum ≤ y.length * m
  | [], _ => by simp
  | a :: y, h => by
    have h1 := h a (by simp)
    have h2 := sum_le_mul m y fun l hl => h l (by simp [hl])
    rw [List.sum_cons, List.length_cons]
    have : ((y.length + 1 : Nat) : Int) * m = y.length * m + m := by rw [Int.natCast_add, Int.add_mul]; simp
    omega
theorem sum_reverse' (l : List Int) : l.reverse.sum = l.sum := Fl.sum_perm (List.reverse_perm l)
theorem failL_head {p : Int} : ∀ {cs : List Int} {k : Nat} {r z : Int} {zs : List Int}, failL p cs k r = z :: zs → ∃ j c, z = ((k + j : Nat) : Int) ∧ cs[j]? = some c ∧ -(-(r + (cs.take (j + 1)).sum) / p) < c
  | [], _, _, _, _, h => by simp [failL] at h
  | c :: cs, k, r, z, zs, h => by
    simp only [failL] at h
    split at h
    · rename_i hc
      injection h with h1 h2
      exact ⟨0, c, by simpa using h1.symm, rfl, by simpa using hc⟩
    · obtain ⟨j, d, e1, e2, e3⟩ := failL_head h
      exact ⟨j + 1, d, by rw [e1]; congr 1; omega, by simpa using e2, by
        rw [List.take_succ_cons, List.sum_cons, ← Int.add_assoc]; exact e3⟩
theorem evenly_sum {a q : Int} (h1 : 1 ≤ q) (h4 : q ≤ 4) : (evenly a q).sum = a := by
  have : q = 1 ∨ q = 2 ∨ q = 3 ∨ q = 4 := by omega
  rcases this with rfl | rfl | rfl | rfl
  · simp [evenly, List.range_succ]
  · simp [evenly, List.range_succ]; split <;> split <;> omega
  · simp [evenly, List.range_succ]; split <;> split <;> split <;> omega
  · simp [evenly, List.range_succ]; split <;> split <;> split <;> split <;> omega
theorem evenly_le {S p : Int} (hp : 2 ≤ p) (hp5 : p ≤ 5) (hS : 0 ≤ S) : ∀ e ∈ evenly (S - -(-S / p)) (p - 1), 0 ≤ e ∧ e ≤ -(-S / p) := by
  intro e he
  unfold evenly at he
  obtain ⟨i, _, rfl⟩ := List.mem_map.mp he
  have : p = 2 ∨ p = 3 ∨ p = 4 ∨ p = 5 := by omega
  rcases this with rfl | rfl | rfl | rfl
  · split <;> omega
  · simp only [show (3 : Int) - 1 = 2 by rfl]; split <;> omega
  · simp only [show (4 : Int) - 1 = 3 by rfl]; split <;> omega
  · simp only [show (5 : Int) - 1 = 4 by rfl]; split <;> omega
theorem wish_stuck {p : Int} (hp : 2 ≤ p) (hp5 : p ≤ 5) {l : List Int} (hs : l.Pairwise (· ≤ ·)) (h1 : ∀ c ∈ l, 1 ≤ c) {z : Int} {zs : List Int} (hf : failL p l 0 0 = z :: zs) :
    (wishS p l z.toNat).sum = l.sum ∧ (wishS p l z.toNat).length = p.toNat ∧ (∀ w ∈ wishS p l z.toNat, 0 ≤ w ∧ w ≤ l.sum) ∧ ∃ u c es A rest, l.reverse = A ++ c :: rest ∧ (∀ e ∈ es, e ≤ u) ∧ u < c ∧ (∀ d ∈ A, u < d) ∧ (sortI (wishS p l z.toNat)).Perm ((u + A.sum) :: es) := by
  obtain ⟨j, c, rfl, hj, hc⟩ := failL_head hf
  rw [Nat.zero_add, Int.toNat_natCast]
  rw [Int.zero_add] at hc
  have hjl := (List.getElem?_eq_some_iff.mp hj).1
  have hS : 0 ≤ (l.take (j + 1)).sum := sum_nonneg fun c hx => h1 c (List.mem_of_mem_take hx)
  have hD : 0 ≤ (l.drop (j + 1)).sum := sum_nonneg fun c hx => h1 c (List.mem_of_mem_drop hx)
  have hsum : (l.take (j + 1)).sum + (l.drop (j + 1)).sum = l.sum := by rw [← List.sum_append, List.take_append_drop]
  have hev := evenly_le hp hp5 hS
  have hu : 0 ≤ -(-(l.take (j + 1)).sum / p) ∧ -(-(l.take (j + 1)).sum / p) ≤ (l.take (j + 1)).sum := by
    have : p = 2 ∨ p = 3 ∨ p = 4 ∨ p = 5 := by omega
    rcases this with rfl | rfl | rfl | rfl <;> omega
  have hes := evenly_sum (a := (l.take (j + 1)).sum - -(-(l.take (j + 1)).sum / p)) (q := p - 1) (by omega) (by omega)
  have hw : wishS p l j = (-(-(l.take (j + 1)).sum / p) + (l.drop (j + 1)).sum) :: evenly ((l.take (j + 1)).sum - -(-(l.take (j + 1)).sum / p)) (p - 1) := rfl
  generalize (l.take (j + 1)).sum = S at *
  generalize -(-S / p) = u at *
  refine ⟨?_, ?_, ?_, ?_⟩
  · rw [hw, List.sum_cons, hes]; omega
  · rw [hw, List.length_cons, evenly_len]; omega
  · intro w hx
    rw [hw] at hx
    rcases List.mem_cons.mp hx with rfl | hx
    · omega
    · have := hev w hx; omega
  · have hsplit : l.reverse = (l.drop (j + 1)).reverse ++ c :: (l.take j).reverse := by
      have e : l = l.take j ++ c :: l.drop (j + 1) := by
        have := List.getElem?_eq_some_iff.mp hj
        obtain ⟨a, b⟩ := this
        conv => lhs; rw [← List.take_append_drop j l, List.drop_eq_getElem_cons a, b]
      conv => lhs; rw [e]
      simp
    have hge : ∀ d ∈ l.drop (j + 1), c ≤ d := by
      intro d hd
      have e : l = l.take j ++ c :: l.drop (j + 1) := by
        obtain ⟨a, b⟩ := List.getElem?_eq_some_iff.mp hj
        conv => lhs; rw [← List.take_append_drop j l, List.drop_eq_getElem_cons a, b]
      rw [e] at hs
      have := (List.pairwise_append.mp hs).2.1
      exact (List.pairwise_cons.mp this).1 d hd
    refine ⟨u, c, evenly (S - u) (p - 1), _, _, hsplit, fun e he => (hev e he).2, hc, fun d hd => ?_, ?_⟩
    · have := hge d (List.mem_reverse.mp hd); omega
    · rw [sum_reverse']
      refine (sortI_perm _).trans ?_
      rw [hw]

/-! ### no entry twice -/
theorem addK_nodup {keys : List (List Int)} (h : keys.Nodup) (k : List Int) : (addK keys k).Nodup := by
  unfold addK
  split
  · exact h
  · rename_i hn
    rw [List.nodup_append]
    exact ⟨h, by simp, fun a ha b hb => by simp at hb; subst hb; intro e; subst e; exact hn ha⟩
theorem addIn_nodup (coin : Int) (entry : List Int) : ∀ (r : List Int) (k : Nat) (keys : List (List Int)), keys.Nodup → (addIn coin entry k r keys).Nodup
  | [], k, keys, h => h
  | l :: r, k, keys, h => by
    unfold addIn
    first
      | exact addIn_nodup coin entry r (k + 1) _ (by split <;> first | exact addK_nodup h _ | exact h)
      | (split
         · exact addIn_nodup coin entry r (k + 1) _ (addK_nodup h _)
         · exact addIn_nodup coin entry r (k + 1) _ h)
theorem addAll_nodup (coin : Int) : ∀ (r keys : List (List Int)), keys.Nodup → (addAll coin r keys).Nodup
  | [], keys, h => h
  | e :: r, keys, h => addAll_nodup coin r _ (addIn_nodup coin e _ _ _ h)
theorem nextE_nodup (coin : Int) (L : List (List Int)) : (nextE coin L).Nodup := (isort_perm leT _).nodup_iff.mpr (addAll_nodup coin L [] List.nodup_nil)
theorem one_of {L : List (List Int)} (h : L.Nodup) {w : List Int} (e : ∀ y ∈ L, y = w) : L.length ≤ 1 := by
  cases L with
  | nil => simp
  | cons a L =>
    cases L with
    | nil => simp
    | cons b L =>
      have h1 := e a (by simp)
      have h2 := e b (by simp)
      rw [List.nodup_cons] at h
      exact absurd (by rw [h1, h2]; simp) h.1
/-- stuck: every layer has one entry at most, the last has none -/
structure Stk (u : Int) (es A : List Int) (L : List (List Int)) : Prop where
  nd : L.Nodup
  so : ∀ y ∈ L, y.Pairwise (· ≤ ·)
  pm : ∀ y ∈ L, y.Perm ((u + A.sum) :: es)
theorem Stk.one {u : Int} {es A : List Int} {L : List (List Int)} (h : Stk u es A L) : L.length ≤ 1 :=
  one_of h.nd (w := sortI ((u + A.sum) :: es)) fun y hy => sorted_uniq (h.so y hy) (sortI_sorted _) ((h.pm y hy).trans (sortI_perm _).symm)
theorem Stk.next {u d : Int} {es A : List Int} {L L' : List (List Int)} (h : Stk u es (d :: A) L) (he : ∀ e ∈ es, e ≤ u) (hd : u < d) (nd : L'.Nodup) (hm : ∀ z ∈ L', ∃ x ∈ L, Step d x z) : Stk u es A L' where
  nd := nd
  so := fun z hz => by
    obtain ⟨x, hx, i, l, h1, h2, rfl⟩ := hm z hz
    exact sortI_sorted _
  pm := fun z hz => by
    obtain ⟨y, hy, i, l, h1, h2, rfl⟩ := hm z hz
    have hp := h.pm y hy
    have hm := hp.mem_iff.mp (List.mem_of_getElem? h1)
    have hi := (List.getElem?_eq_some_iff.mp h1).1
    have hl : l = u + (d :: A).sum := by
      rcases List.mem_cons.mp hm with hm | hm
      · exact hm
      · have := he l hm; omega
    rw [putS_set hi]
    refine (sortI_perm _).trans ((set_mid hi _).trans ?_)
    have q := (self_mid h1).symm.trans hp
    rw [← hl] at q
    have q := q.cons_inv
    rw [List.sum_cons] at hl
    rw [show l - d = u + A.sum by omega]
    exact q.cons _
theorem Stk.end {u c : Int} {es : List Int} {L : List (List Int)} (h : Stk u es [] L) (he : ∀ e ∈ es, e ≤ u) (huc : u < c) {x z : List Int} (hx : x ∈ L) (s : Step c x z) : False := by
  obtain ⟨i, l, h1, h2, _⟩ := s
  have hm := (h.pm x hx).mem_iff.mp (List.mem_of_getElem? h1)
  simp only [List.sum_nil, List.mem_cons] at hm
  rcases hm with hm | hm
  · omega
  · have := he l hm; omega
theorem lays_stuck1 {u c : Int} {es rest : List Int} (he : ∀ e ∈ es, e ≤ u) (huc : u < c) : ∀ (A : List Int) (L : List (List Int)), (∀ d ∈ A, u < d) → Stk u es A L → (∃ init, lays (A ++ c :: rest) L = init ++ [[]]) ∧ ∀ M ∈ lays (A ++ c :: rest) L, M.length ≤ 1
  | [], L, _, hL => by
    have hn : nextE c L = [] := by
      cases h : nextE c L with
      | nil => rfl
      | cons z zs =>
        obtain ⟨y, hy, s⟩ := mem_next.mp (show z ∈ nextE c L by rw [h]; simp)
        exact (hL.end he huc hy s).elim
    have := hL.one
    refine ⟨⟨[L], by simp [lays, hn]⟩, ?_⟩
    simp [lays, hn, this]
  | d :: A, L, hA, hL => by
    have hd := hA d (by simp)
    have h1 := hL.one
    by_cases hn : nextE d L = []
    · exact ⟨⟨[L], by simp [lays, hn]⟩, by simp [lays, hn, h1]⟩
    · obtain ⟨⟨init, e⟩, hall⟩ := lays_stuck1 (rest := rest) he huc A (nextE d L) (fun x hx => hA x (by simp [hx])) (hL.next he hd (nextE_nodup d L) fun z hz => mem_next.mp hz)
      have el : lays (d :: A ++ c :: rest) L = L :: lays (A ++ c :: rest) (nextE d L) := by
        show lays (d :: (A ++ c :: rest)) L = _
        conv => lhs; unfold lays
        rw [if_neg hn]
      refine ⟨⟨L :: init, by rw [el, e]; rfl⟩, ?_⟩
      rw [el]
      intro M hM
      rcases List.mem_cons.mp hM with rfl | hM
      · exact h1
      · exact hall M hM
/-! ### the law's own rows -/
def rowsF : List Int → List (List Int) → List (List (List Int))
  | [], _ => []
  | c :: r, L => addAll c L [] :: rowsF r (addAll c L [])
theorem mem_add {c : Int} {L : List (List Int)} {z : List Int} : z ∈ addAll c L [] ↔ ∃ x ∈ L, Step c x z := by
  rw [mem_addAll]
  simp [Step]
theorem rowsF_nil : ∀ r : List Int, ∀ M ∈ rowsF r [], M = []
  | [], M, h => by simp [rowsF] at h
  | c :: r, M, h => by
    have e : addAll c [] [] = [] := rfl
    rw [rowsF, e] at h
    rcases List.mem_cons.mp h with h | h
    · exact h
    · exact rowsF_nil r M h
theorem rows_stuck {u c : Int} {es rest : List Int} (he : ∀ e ∈ es, e ≤ u) (huc : u < c) : ∀ (A : List Int) (L : List (List Int)), (∀ d ∈ A, u < d) → Stk u es A L → (∃ init, rowsF (A ++ c :: rest) L = init ++ [[]]) ∧ ∀ M ∈ rowsF (A ++ c :: rest) L, M.length ≤ 1
  | [], L, _, hL => by
    have hn : addAll c L [] = [] := by
      cases h : addAll c L [] with
      | nil => rfl
      | cons z zs =>
        obtain ⟨y, hy, s⟩ := mem_add.mp (show z ∈ addAll c L [] by rw [h]; simp)
        exact (hL.end he huc hy s).elim
    have hall : ∀ M ∈ rowsF (c :: rest) L, M = [] := by
      intro M hM
      rw [rowsF, hn] at hM
      rcases List.mem_cons.mp hM with h | h
      · exact h
      · exact rowsF_nil rest M h
    refine ⟨?_, fun M hM => by rw [hall M hM]; simp⟩
    have hne : rowsF (c :: rest) L ≠ [] := by simp [rowsF]
    refine ⟨(rowsF (c :: rest) L).dropLast, ?_⟩
    have := List.dropLast_concat_getLast hne
    rw [hall _ (List.getLast_mem hne)] at this
    exact this.symm
  | d :: A, L, hA, hL => by
    have hd := hA d (by simp)
    have hs := hL.next he hd (addAll_nodup d L [] List.nodup_nil) fun z hz => mem_add.mp hz
    obtain ⟨⟨init, e⟩, hall⟩ := rows_stuck (rest := rest) he huc A (addAll d L []) (fun x hx => hA x (by simp [hx])) hs
    refine ⟨⟨addAll d L [] :: init, by rw [List.cons_append, rowsF, e]; rfl⟩, fun M hM => ?_⟩
    rw [List.cons_append, rowsF] at hM
    rcases List.mem_cons.mp hM with rfl | hM
    · exact hs.one
    · exact hall M hM
end K79
end

section
set_option linter.all false
set_option maxRecDepth 100000
set_option maxHeartbeats 2000000
namespace K79
open Fl PySem
/-! ### the law's own layers -/
def putX : FE := (fArgs (d1 dTupOf) (fCons (fFrz (fLst (fArgs (d1 dSort) (fCons (fBin dAdd (fBin dAdd (fCut dCutT (fVar 6) fNone (fSome (fVar 7))) (fArgs dTup (fCons (fBin (dI fun i j => i - j) (fVar 8) (fVar 4)) fNil))) (fCut dCutT (fVar 6) (fSome (fBin dAdd (fVar 7) (fC (.int 1)))) fNone)) fNil)))) fNil))
theorem b_rows : b__law_layers_1 = (fIfS (fTest (fBin dGe (fVar 8) (fVar 4))) (fPutT 5 putX (fC (.bl true))) fSkip) := rfl
theorem put_expr (x0 x1 x2 x3 x5 : Option Slot) (coin lack : Int) (e : List Int) (i : Nat) (h : i < e.length) (hl : e.length ≤ 1000) :
    putX [x0, x1, x2, x3, some (.sh (.int coin)), x5, some (.sh (tupI e)), some (.sh (.int (i : Int))), some (.sh (.int lack))] = some (tupI (putS e i (lack - coin)), [x0, x1, x2, x3, some (.sh (.int coin)), x5, some (.sh (tupI e)), some (.sh (.int (i : Int))), some (.sh (.int lack))]) := by
  generalize hw : lack - coin = w
  have q1 := cutL_take (e.map D.int) i (by simp; omega)
  have q2 := cut_drop (e.map D.int) i (by simpa using h)
  have hs : (e.take i ++ [w] ++ e.drop (i + 1)).length ≤ 1000000 := by simp; omega
  have q3 := dSort_tup (e.take i ++ [w] ++ e.drop (i + 1)) hs
  have c1 := canSort_ints _ hs
  have c2 := isort_ints (e.take i ++ [w] ++ e.drop (i + 1))
  simp at c1 c2
  have hm : min i e.length + 1 + (e.length - (i + 1)) ≤ 1000000 := by omega
  have hm2 : min i e.length + 1 ≤ 1000000 := by omega
  have hm3 : min i e.length + (e.length - (i + 1) + 1) ≤ 1000000 := by omega
  simp [putX, tupI, putS, q1, q2, many, hm, hm2, hm3, c1, c2, hw]
theorem rows_in (x0 x1 x2 x3 : Option Slot) (coin : Int) (entry : List Int) (hl : entry.length ≤ 1000) : ∀ (r : List Int) (k : Nat) (keys : List (List Int)) (a b : Option Slot), k + r.length ≤ entry.length → keys.length + r.length ≤ 100000 →
    ∃ a' b', forL t__law_layers_0 b__law_layers_1 (enumL k (r.map D.int)) [x0, x1, x2, x3, some (.sh (.int coin)), some (.own true (.dT (kv keys))), some (.sh (tupI entry)), a, b] =
      some (.nx [x0, x1, x2, x3, some (.sh (.int coin)), some (.own true (.dT (kv (addIn coin entry k r keys)))), some (.sh (tupI entry)), a', b'])
  | [], k, keys, a, b, _, _ => ⟨a, b, by simp [enumL, forL, addIn]⟩
  | lack :: r, k, keys, a, b, h, hk => by
    simp at h hk
    by_cases hc : coin ≤ lack
    · have := addK_len keys (putS entry k (lack - coin))
      obtain ⟨a', b', e⟩ := rows_in x0 x1 x2 x3 coin entry hl r (k + 1) (addK keys (putS entry k (lack - coin))) (some (.sh (.int (k : Int)))) (some (.sh (.int lack))) (by omega) (by omega)
      refine ⟨a', b', ?_⟩
      unfold addIn
      rw [if_pos hc, ← e]
      have q := fun x5 => put_expr x0 x1 x2 x3 x5 coin lack entry k (by omega) hl
      have hkl : keys.length < 1000000 := by omega
      simp [enumL, forL, t__law_layers_0, b_rows, hc, q, isOwnT, keyT_tup, kv_len, many, hkl, putG_add]
    · obtain ⟨a', b', e⟩ := rows_in x0 x1 x2 x3 coin entry hl r (k + 1) keys (some (.sh (.int (k : Int)))) (some (.sh (.int lack))) (by omega) (by omega)
      refine ⟨a', b', ?_⟩
      unfold addIn
      rw [if_neg hc, ← e]
      simp [enumL, forL, t__law_layers_0, b_rows, hc]
theorem rows_all (x0 x1 x2 x3 : Option Slot) (coin : Int) (p : Nat) (hp : p ≤ 5) : ∀ (r keys : List (List Int)) (a b c : Option Slot), (∀ e ∈ r, e.length = p) → keys.length + p * r.length ≤ 100000 →
    ∃ a' b' c', forL t__law_layers_2 b__law_layers_3 (r.map tupI) [x0, x1, x2, x3, some (.sh (.int coin)), some (.own true (.dT (kv keys))), a, b, c] =
      some (.nx [x0, x1, x2, x3, some (.sh (.int coin)), some (.own true (.dT (kv (addAll coin r keys)))), a', b', c'])
  | [], keys, a, b, c, _, _ => ⟨a, b, c, by simp [forL, addAll]⟩
  | e :: r, keys, a, b, c, h, hk => by
    have he := h e (by simp)
    simp only [List.length_cons, Nat.mul_add, Nat.mul_one] at hk
    have hl := addIn_len coin e 0 e keys
    obtain ⟨b1, c1, e1⟩ := rows_in x0 x1 x2 x3 coin e (by omega) e 0 keys b c (by omega) (by omega)
    obtain ⟨a', b', c', e2⟩ := rows_all x0 x1 x2 x3 coin p hp r (addIn coin e 0 e keys) (some (.sh (tupI e))) b1 c1 (fun x hx => h x (by simp [hx])) (by omega)
    refine ⟨a', b', c', ?_⟩
    unfold addAll
    rw [← e2]
    have ed : dEnum [tupI e] = some (enumL 0 (e.map D.int)) := by simp [dEnum, tupI]
    simp [-dEnum, forL, t__law_layers_2, b__law_layers_3, ed, e1]
theorem rev_ix {cs : List Int} {k : Nat} {c : Int} (h : cs.reverse[k]? = some c) : dIx (tupI cs) (.int ((cs.length : Int) - 1 - (k : Int))) = some (.int c) := by
  have hk : k < cs.length := by have := (List.getElem?_eq_some_iff.mp h).1; simpa using this
  rw [List.getElem?_reverse hk] at h
  have e : (cs.length : Int) - 1 - (k : Int) = ((cs.length - 1 - k : Nat) : Int) := by omega
  rw [e]
  show L2.atI (cs.map D.int) _ = _
  rw [atI_nat', List.getElem?_map, h]
  rfl
def rowsD (L : List (List Int)) : D := .lst (L.map tupI)
theorem loop_rows (x1 : Option Slot) (cs : List Int) (p : Nat) (hp : p ≤ 5) : ∀ (r : List Int) (k : Nat) (L : List (List Int)) (a b c d e f : Option Slot), cs.reverse.drop k = r → (∀ y ∈ L, y.length = p) → L.length ≤ 1 → (∀ M ∈ rowsF r L, M.length ≤ 1) →
    ∃ a' b' c' d' e' f', forL t__law_layers_4 b__law_layers_5 (rgD k r.length) [some (.sh (tupI cs)), x1, some (.sh (rowsD L)), a, b, c, d, e, f] =
      some (.nx [some (.sh (tupI cs)), x1, some (.sh (rowsD ((rowsF r L).getLastD L))), a', b', c', d', e', f'])
  | [], k, L, a, b, c, d, e, f, _, _, _, _ => ⟨a, b, c, d, e, f, by simp [rgD, forL, rowsF]⟩
  | x :: r, k, L, a, b, c, d, e, f, hr, hL, h1, hall => by
    have hx : cs.reverse[k]? = some x := by
      have := congrArg (fun l => l[0]?) hr
      simpa using this
    have hr' : cs.reverse.drop (k + 1) = r := by
      have := congrArg List.tail hr
      simpa using this
    have hix := rev_ix hx
    have hN : (addAll x L []).length ≤ 1 := hall _ (by simp [rowsF])
    obtain ⟨a1, b1, c1, e1⟩ := rows_all (some (.sh (tupI cs))) x1 (some (.sh (rowsD L))) (some (.sh (.int (k : Int)))) x p hp L [] d e f hL (by simpa using (show p * L.length ≤ 100000 by have := Nat.mul_le_mul hp h1; omega))
    obtain ⟨a', b', c', d', e', f', ih⟩ := loop_rows x1 cs p hp r (k + 1) (addAll x L []) (some (.sh (.int (k : Int)))) (some (.sh (.int x))) (some (.own true (.dT (kv (addAll x L []))))) a1 b1 c1 hr' (addIn_lens x L hL) hN (fun M hM => hall M (by simp [rowsF, hM]))
    refine ⟨a', b', c', d', e', f', ?_⟩
    have hl : (rowsF (x :: r) L).getLastD L = (rowsF r (addAll x L [])).getLastD (addAll x L []) := by
      rw [rowsF]
      simp [List.getLastD]
      cases rowsF r (addAll x L []) <;> rfl
    rw [hl, ← ih]
    have hrg : rgD k (x :: r).length = .int (k : Int) :: rgD (k + 1) r.length := by simp [rgD, List.range'_succ]
    rw [hrg]
    have hk : (kv (addAll x L [])).map (fun kv => D.tup (kv.1.map keyD)) = (addAll x L []).map tupI := keys_kv _
    rw [show kv [] = [] from rfl] at e1
    simp only [rowsD] at e1 ih ⊢
    have hlc : dLen (tupI cs) = some (.int (cs.length : Nat)) := by simp [tupI]
    have hn400 : ¬ (400 : Int) < ((addAll x L []).length : Int) := by omega
    have hl2 : dLen (.lst ((addAll x L []).map tupI)) = some (.int ((addAll x L []).length : Nat)) := by simp
    simp [-dIx, -dLen, forL, t__law_layers_4, b__law_layers_5, hlc, hix, e1, hk, hn400, hl2]
end K79
namespace K79
open Fl PySem
theorem m_law_layers (cs ws : List Int) (hc : cs.length ≤ 1000) (hw : ws.length ≤ 5) (hst : (∃ init, rowsF cs.reverse [sortI ws] = init ++ [[]]) ∧ ∀ M ∈ rowsF cs.reverse [sortI ws], M.length ≤ 1) :
    F__law_layers [tupI cs, tupI ws] = some (.sh (.int 0)) := by
  obtain ⟨⟨init, hi⟩, hall⟩ := hst
  obtain ⟨a, b, c, d, e, f, h⟩ := loop_rows (some (.sh (tupI ws))) cs ws.length hw cs.reverse 0 [sortI ws] none none none none none none rfl (by simp [sortI_len]) (by simp) hall
  have hl : (rowsF cs.reverse [sortI ws]).getLastD [sortI ws] = [] := by rw [hi]; simp
  rw [hl, List.length_reverse] at h
  have h2 := dSort_tup ws (by omega)
  have h3 : dLen (tupI cs) = some (.int (cs.length : Nat)) := by simp [tupI]
  have h4 : dRng1 [.int ((cs.length : Nat) : Int)] = some (rgD 0 cs.length) := by rw [← rngL_rg]; exact dRng1_nat _ (by omega)
  have h5 : dTupOf (.lst ((sortI ws).map D.int)) = some (tupI (sortI ws)) := by
    have hws : (sortI ws).length ≤ 1000000 := by rw [sortI_len]; omega
    simp [tupI]
  simp only [rowsD, List.map_cons, List.map_nil] at h
  have h2' : dSort (tupI ws) = some ((sortI ws).map D.int) := h2
  have s1 : fSet 2 (fFrz (fLst (fArgs dLst (fCons (fArgs (d1 dTupOf) (fCons (fFrz (fLst (fArgs (d1 dSort) (fCons (fVar 1) fNil)))) fNil)) fNil)))) [some (.sh (tupI cs)), some (.sh (tupI ws)), none, none, none, none, none, none, none] = some (.nx [some (.sh (tupI cs)), some (.sh (tupI ws)), some (.sh (.lst [tupI (sortI ws)])), none, none, none, none, none, none]) := by
    simp [-dSort, -dTupOf, h2', h5, many]
  have s2 : fFor (fArgs dRng1 (fCons (fArgs (d1 dLen) (fCons (fVar 0) fNil)) fNil)) t__law_layers_4 b__law_layers_5 [some (.sh (tupI cs)), some (.sh (tupI ws)), some (.sh (.lst [tupI (sortI ws)])), none, none, none, none, none, none] = some (.nx [some (.sh (tupI cs)), some (.sh (tupI ws)), some (.sh (.lst [])), a, b, c, d, e, f]) := by
    have q : fArgs dRng1 (fCons (fArgs (d1 dLen) (fCons (fVar 0) fNil)) fNil) [some (.sh (tupI cs)), some (.sh (tupI ws)), some (.sh (.lst [tupI (sortI ws)])), none, none, none, none, none, none] = some (rgD 0 cs.length, [some (.sh (tupI cs)), some (.sh (tupI ws)), some (.sh (.lst [tupI (sortI ws)])), none, none, none, none, none, none]) := by
      refine fArgs_of (ds := [.int (cs.length : Nat)]) ?_ h4
      simp [-dLen, h3]
    unfold fFor
    rw [q]
    exact h
  have s3 : fRet (fIf (fTest (fBin dGt (fArgs (d1 dLen) (fCons (fVar 2) fNil)) (fC (.int 0)))) (fC (.int 1)) (fC (.int 0))) [some (.sh (tupI cs)), some (.sh (tupI ws)), some (.sh (.lst [])), a, b, c, d, e, f] = some (.rt (.sh (.int 0)) [some (.sh (tupI cs)), some (.sh (tupI ws)), some (.sh (.lst [])), a, b, c, d, e, f]) := by
    simp
  unfold F__law_layers fnD f__law_layers
  show outD 9 (fSeq _ _ [some (.sh (tupI cs)), some (.sh (tupI ws)), none, none, none, none, none, none, none]) = _
  rw [fSeq_nx s1, fSeq_nx s2, s3]
  rfl
end K79
end

section
set_option linter.all false
set_option maxRecDepth 100000
set_option maxHeartbeats 2000000
namespace K79
open Fl PySem
theorem eqD_tupI (a b : List Int) : eqD (tupI a) (tupI b) = decide (a = b) := by simp [tupI, eqDs_ints]
theorem in_layN (no : Bool) (x : List Int) (layer : List (List Int)) : dInS no (tupI x) (lay layer) = some (.bl (xor no (decide (x ∈ layer)))) := by
  have h1 := fits_tups 6 layer
  have h2 : fit 8 (tupI x) = true := by simp [tupI, fits_ints]
  have h3 : ((layer.map tupI).any fun z => eqD z (tupI x)) = decide (x ∈ layer) := by
    clear h1 h2
    induction layer with
    | nil => simp
    | cons a l ih =>
      simp only [List.map_cons, List.any_cons, ih, eqD_tupI]
      by_cases h : a = x
      · subst h; simp
      · simp [h, Ne.symm h]
  show (some (layer.map tupI)).bind _ = _
  simp [h1, h2, h3]
theorem lay_lastT (ds : List (List (List Int))) (L : List (List Int)) : dIx (.tup ((ds ++ [L]).map lay)) (.int (-1)) = some (lay L) := by
  have h1 : (1 : Int) ≤ (ds.length : Int) + 1 := by omega
  have h2 : (-1 + ((ds.length : Int) + 1)).toNat = ds.length := by omega
  simp [L2.atI, L2.ixN, h1, h2]
theorem m_any_split_no (d e : D) (ns ws : List Int) (hd : dSeq d = some (ns.map .int)) (ok : okCoins ns) (he : e = .lst (ws.map .int) ∨ e = .tup (ws.map .int)) (okw : okWish ws) (hs : ws.sum = ns.sum)
    (h4 : ∀ l ∈ lays (sortI ns).reverse [sortI ws], l.length ≤ 1) (hl : ∃ init, lays (sortI ns).reverse [sortI ws] = init ++ [[]]) : F_any_split [d, e] = some (.sh (.obj 1 [.tup ((lays (sortI ns).reverse [sortI ws]).map lay)])) := by
  obtain ⟨init, hl⟩ := hl
  have h1 := m_checked_couple d e ns ws hd ok he okw hs
  have h2 := m_layers_of (tupI (sortI ns)) (tupI ws) (sortI ns) ws rfl ok.sort (.inr rfl) okw (by rw [sortI_sum]; exact hs) (by rw [sortI_sortI]; exact fun l hl => Nat.le_trans (h4 l hl) (by decide)) (by rw [sortI_len]; have := ok.1; omega)
  rw [sortI_sortI, hl] at h2
  rw [hl]
  have h3 := lay_lastT init []
  generalize (init ++ [[]]).map lay = Ls at h2 h3
  have h5 : dTruth (lay []) = some false := by simp [lay]
  simp [-dIx, -dTruth, F_any_split, f_any_split, h1, h2, h3, h5]
/-! ### the form of layers -/
def Ent (p : Nat) (y : List Int) : Prop := y.length = p ∧ y.Pairwise (· ≤ ·) ∧ ∀ l ∈ y, 0 ≤ l
theorem loop_ent (x0 x1 : Option Slot) : ∀ (r : List Int) (a : Option Slot), (∀ l ∈ r, 0 ≤ l) → ∃ a', forL t_is_entry_0 b_is_entry_1 (r.map D.int) [x0, x1, a] = some (.nx [x0, x1, a'])
  | [], a, _ => ⟨a, by simp [forL]⟩
  | l :: r, a, h => by
    obtain ⟨a', e⟩ := loop_ent x0 x1 r (some (.sh (.int l))) fun x hx => h x (by simp [hx])
    refine ⟨a', ?_⟩
    have hl : ¬ l < 0 := by have := h l (by simp); omega
    rw [List.map_cons, ← e]
    simp [forL, t_is_entry_0, b_is_entry_1, isB, okN, hl]
theorem m_is_entry {p : Nat} {y : List Int} (h : Ent p y) (hp : p ≤ 5) : F_is_entry [tupI y, .int (p : Int)] = some (.sh (.bl true)) := by
  obtain ⟨h1, h2, h3⟩ := h
  obtain ⟨a', e⟩ := loop_ent (some (.sh (tupI y))) (some (.sh (.int (p : Int)))) y none h3
  have hd := dSort_lst y (by omega)
  rw [sortI_id h2] at hd
  have hno : noLs (y.map D.int) = true := noLs_ints y
  have hy : y.length ≤ 1000000 := by omega
  have hf : fits 7 (y.map D.int) = true := fits_ints 7 y
  have e1 : dLen (tupI y) = some (.int (p : Int)) := by simp [tupI, h1]
  simp only [tupI] at e e1 ⊢
  have hq := eqDs_ints y y
  simp at hq
  simp [-dSort, -dLen, F_is_entry, f_is_entry, e1, e, hd, hno, isB, okN, many, hy, hf, hq]
theorem loop_entries (x0 x2 : Option Slot) {p : Nat} (hp : p ≤ 5) : ∀ M : List (List Int), (∀ y ∈ M, Ent p y) →
    lcL t_has_form_0 c_has_form_1 e_has_form_2 [3] (M.map tupI) [x0, some (.sh (.int (p : Int))), x2, none] = some (M.map fun _ => .bl true, [x0, some (.sh (.int (p : Int))), x2, none])
  | [], _ => rfl
  | y :: M, h => by
    have ih := loop_entries x0 x2 hp M fun z hz => h z (by simp [hz])
    have h1 := m_is_entry (h y (by simp)) hp
    simp [t_has_form_0, c_has_form_1, e_has_form_2] at ih
    simp [lcL, noOwn, noOwn1, wipeF, backF, t_has_form_0, c_has_form_1, e_has_form_2, h1, ih]
theorem fits_trues (n : Nat) : ∀ M : List (List Int), fits n (M.map fun _ => D.bl true) = true
  | [] => by simp
  | a :: M => by simp only [List.map_cons, fits_cons, fit_bl, Bool.true_and]; exact fits_trues n M
theorem loop_form (x0 : Option Slot) {p : Nat} (hp : p ≤ 5) : ∀ (Ls : List (List (List Int))) (a : Option Slot), (∀ M ∈ Ls, M.length ≤ 1000 ∧ ∀ y ∈ M, Ent p y) →
    ∃ a', forL t_has_form_3 b_has_form_4 (Ls.map lay) [x0, some (.sh (.int (p : Int))), a, none] = some (.nx [x0, some (.sh (.int (p : Int))), a', none])
  | [], a, _ => ⟨a, by simp [forL]⟩
  | M :: Ls, a, h => by
    obtain ⟨a', e⟩ := loop_form x0 hp Ls (some (.sh (lay M))) fun N hN => h N (by simp [hN])
    refine ⟨a', ?_⟩
    obtain ⟨h1, h2⟩ := h M (by simp)
    have h3 := loop_entries x0 (some (.sh (lay M))) hp M h2
    have hl : M.length < 1000000 := by omega
    have q1 := fits_trues 7 M
    have q2 : ((M.map fun _ => D.bl true).any fun z => eqD z (.bl false)) = false := by simp
    have hin : dInS false (.bl false) (.lst (M.map fun _ => D.bl true)) = some (.bl false) := by
      show (some (M.map fun _ => D.bl true)).bind _ = _
      rw [Option.bind_some, q1, q2]
      simp
    have hs : dSeq (lay M) = some (M.map tupI) := rfl
    have hi : dIsi2 "list" "tuple" (lay M) = some (.bl true) := rfl
    rw [List.map_cons, ← e]
    generalize lay M = lm at h3 hs hi ⊢
    simp [-dInS, -dSeq, -dIsi2, forL, t_has_form_3, b_has_form_4, hi, hs, many, hl, h3, hin]
theorem m_has_form {p : Nat} (hp : p ≤ 5) (Ls : List (List (List Int))) (hne : Ls ≠ []) (h : ∀ M ∈ Ls, M.length ≤ 1000 ∧ ∀ y ∈ M, Ent p y) : F_has_form [.tup (Ls.map lay), .int (p : Int)] = some (.sh (.bl true)) := by
  obtain ⟨a', e⟩ := loop_form (some (.sh (.tup (Ls.map lay)))) hp Ls none h
  have hl : Ls.length ≠ 0 := fun z => hne (List.eq_nil_of_length_eq_zero z)
  simp [F_has_form, f_has_form, isB, okN, e, hl, hne]
/-! ### the fault of layers -/
theorem lays_head (r : List Int) (L : List (List Int)) : (lays r L)[0]? = some L := by
  cases r with
  | nil => rfl
  | cons c r => unfold lays; split <;> rfl
theorem lays_get : ∀ (r : List Int) (L : List (List Int)) (j : Nat), j + 1 < (lays r L).length → ∃ M c, (lays r L)[j]? = some M ∧ r[j]? = some c ∧ (lays r L)[j + 1]? = some (nextE c M)
  | [], L, j, h => by simp [lays] at h
  | c :: r, L, j, h => by
    unfold lays at h ⊢
    split at h
    · rename_i hn
      rw [if_pos hn]
      have : j = 0 := by simp at h; omega
      subst this
      exact ⟨L, c, rfl, rfl, by rw [hn]; rfl⟩
    · rename_i hn
      rw [if_neg hn]
      cases j with
      | zero => exact ⟨L, c, rfl, rfl, by rw [List.getElem?_cons_succ, lays_head]⟩
      | succ j =>
        obtain ⟨M, d, h1, h2, h3⟩ := lays_get r (nextE c L) j (by simpa using h)
        exact ⟨M, d, by simpa using h1, by simpa using h2, by simpa using h3⟩
theorem lays_len : ∀ (r : List Int) (L : List (List Int)), (lays r L).length ≤ r.length + 1 ∧ lays r L ≠ []
  | [], L => by simp [lays]
  | c :: r, L => by
    unfold lays
    split
    · simp
    · have := lays_len r (nextE c L)
      simp
      omega
def addM (keys M : List (List Int)) : List (List Int) := M.foldl addK keys
theorem dcL_add : ∀ (M keys : List (List Int)), dcL true (kv keys) (M.map tupI) = some (kv (addM keys M))
  | [], keys => rfl
  | y :: M, keys => by
    rw [List.map_cons, dcL, keyT_tup, Option.bind_some, putG_add]
    exact dcL_add M (addK keys y)
theorem mem_addM (x : List Int) : ∀ (M keys : List (List Int)), x ∈ addM keys M ↔ x ∈ keys ∨ x ∈ M
  | [], keys => by simp [addM]
  | y :: M, keys => by
    show x ∈ addM (addK keys y) M ↔ _
    rw [mem_addM x M, mem_addK, List.mem_cons, or_assoc]
theorem valG_kv (keys : List (List Int)) (e : List Int) : (valG (kv keys) (e.map Sum.inl)).isSome = decide (e ∈ keys) := by
  unfold valG kv
  rw [Option.isSome_map]
  induction keys with
  | nil => simp
  | cons a l ih =>
    rw [List.map_cons, List.find?_cons]
    by_cases h : a = e
    · subst h; simp
    · have : ¬ (a.map (Sum.inl : Int → L2.Key)) = e.map Sum.inl := fun z => h ((inl_inj a e).mp z)
      simp only [this, decide_false]
      rw [ih]
      simp [Ne.symm h]
theorem loop_next (x0 x1 x2 x3 x4 x5 : Option Slot) (keys : List (List Int)) : ∀ (N : List (List Int)) (a : Option Slot), (∀ y ∈ N, y ∈ keys) →
    ∃ a', forL t_layers_fault_0 b_layers_fault_1 (N.map tupI) [x0, x1, x2, x3, x4, x5, some (.own true (.dT (kv keys))), a] = some (.nx [x0, x1, x2, x3, x4, x5, some (.own true (.dT (kv keys))), a'])
  | [], a, _ => ⟨a, by simp [forL]⟩
  | y :: N, a, h => by
    obtain ⟨a', e⟩ := loop_next x0 x1 x2 x3 x4 x5 keys N (some (.sh (tupI y))) fun z hz => h z (by simp [hz])
    refine ⟨a', ?_⟩
    have hv := valG_kv keys y
    rw [decide_eq_true (h y (by simp))] at hv
    have hv : ¬ valG (kv keys) (y.map Sum.inl) = none := fun z => by rw [z] at hv; cases hv
    rw [List.map_cons, ← e]
    simp [forL, t_layers_fault_0, b_layers_fault_1, keyT_tup, hv]
theorem lay_ix {Ls : List (List (List Int))} {k : Nat} {M : List (List Int)} (h : Ls[k]? = some M) {i : Int} (hi : i = (k : Int)) : dIx (.tup (Ls.map lay)) (.int i) = some (lay M) := by
  subst hi
  show L2.atI (Ls.map lay) _ = _
  rw [atI_nat', List.getElem?_map, h]
  rfl
theorem loop_fault (x0 x1 x4 : Option Slot) {p : Nat} (hp1 : 0 < p) (hp : p ≤ 5) (cs : List Int) (Ls : List (List (List Int))) : ∀ (n k : Nat) (a b c : Option Slot), (∀ M ∈ Ls, M.length ≤ 1000 ∧ ∀ y ∈ M, y.length = p) →
    (∀ j, k ≤ j → j < k + n → ∃ M c, Ls[j]? = some M ∧ cs.reverse[j]? = some c ∧ Ls[j + 1]? = some (nextE c M)) →
    ∃ a' b' c', forL t_layers_fault_2 b_layers_fault_3 (rgD k n) [x0, x1, some (.sh (.tup (Ls.map lay))), some (.sh (tupI cs)), x4, a, b, c] = some (.nx [x0, x1, some (.sh (.tup (Ls.map lay))), some (.sh (tupI cs)), x4, a', b', c'])
  | 0, k, a, b, c, _, _ => ⟨a, b, c, by simp [rgD, forL]⟩
  | n + 1, k, a, b, c, hL, h => by
    obtain ⟨M, x, h1, h2, h3⟩ := h k (Nat.le_refl _) (by omega)
    have hM := hL M (List.mem_of_getElem? h1)
    have hN := hL _ (List.mem_of_getElem? h3)
    have hrg : rgD k (n + 1) = .int (k : Int) :: rgD (k + 1) n := by simp [rgD, List.range'_succ]
    have e1 := rev_ix h2
    have e2 := lay_ix h1 rfl
    have e3 := lay_ix h3 (i := (k : Int) + 1) (by omega)
    have e4 := m_next_entries M x hp1 hp hM.2 (by omega)
    have e5 := dcL_add (nextE x M) []
    rw [show kv [] = [] from rfl] at e5
    obtain ⟨c1, e6⟩ := loop_next x0 x1 (some (.sh (.tup (Ls.map lay)))) (some (.sh (tupI cs))) x4 (some (.sh (.int (k : Int)))) (addM [] (nextE x M)) (nextE x M) c fun y hy => (mem_addM y (nextE x M) []).mpr (.inr hy)
    obtain ⟨a', b', c', e⟩ := loop_fault x0 x1 x4 hp1 hp cs Ls n (k + 1) (some (.sh (.int (k : Int)))) (some (.own true (.dT (kv (addM [] (nextE x M)))))) c1 hL fun j g1 g2 => h j (by omega) (by omega)
    refine ⟨a', b', c', ?_⟩
    rw [hrg, ← e]
    have hlc : dLen (tupI cs) = some (.int (cs.length : Nat)) := by simp [tupI]
    have hs : dSeq (lay (nextE x M)) = some ((nextE x M).map tupI) := rfl
    have hm : (nextE x M).length < 1000000 := by omega
    generalize D.tup (Ls.map lay) = ld at e2 e3 e6 ⊢
    generalize lay M = lm at e2 e4
    generalize lay (nextE x M) = ln at e3 e4 hs
    simp [-dIx, -dLen, -dSeq, forL, t_layers_fault_2, b_layers_fault_3, e1, e2, e3, e4, e5, e6, hlc, hs, many, hm]
theorem m_layers_fault (d e : D) (ns ws : List Int) (hd : dSeq d = some (ns.map .int)) (ok : okCoins ns) (he : e = .lst (ws.map .int) ∨ e = .tup (ws.map .int)) (okw : okWish ws) (hs : ws.sum = ns.sum)
    (hL : ∀ M ∈ lays (sortI ns).reverse [sortI ws], M.length ≤ 1000 ∧ ∀ y ∈ M, Ent ws.length y) (hl : ∃ init, lays (sortI ns).reverse [sortI ws] = init ++ [[]]) : F_layers_fault [d, e, .tup ((lays (sortI ns).reverse [sortI ws]).map lay)] = some (.sh .non) := by
  have h1 := m_checked_couple d e ns ws hd ok he okw hs
  obtain ⟨q1, q2⟩ := lays_len (sortI ns).reverse [sortI ws]
  have h2 := m_has_form okw.five (lays (sortI ns).reverse [sortI ws]) q2 hL
  have q3 := lays_get (sortI ns).reverse [sortI ws]
  have q4 := lays_head (sortI ns).reverse [sortI ws]
  obtain ⟨init, hi⟩ := hl
  have h3 := lay_lastT init []
  rw [← hi] at h3
  have g1 := okw.one
  have g2 := okw.five
  generalize lays (sortI ns).reverse [sortI ws] = Ls at *
  have hpos : Ls.length ≠ 0 := fun z => q2 (List.eq_nil_of_length_eq_zero z)
  obtain ⟨a', b', c', h4⟩ := loop_fault (some (.sh d)) (some (.sh e)) (some (.sh (tupI ws))) (p := ws.length) g1 g2 (sortI ns) Ls (Ls.length - 1) 0 none none none (fun M hM => ⟨(hL M hM).1, fun y hy => ((hL M hM).2 y hy).1⟩) (fun j _ hj => q3 j (by omega))
  have h5 := lay_ix q4 (i := 0) rfl
  have h6 := in_layN true (sortI ws) [sortI ws]
  have h7 : dSort (tupI ws) = some ((sortI ws).map D.int) := dSort_tup ws (by omega)
  have h8 : dTupOf (.lst ((sortI ws).map D.int)) = some (tupI (sortI ws)) := by simp [tupI]
  have h9 : dLen (tupI ws) = some (.int (ws.length : Nat)) := by simp [tupI]
  have h10 : dLen (tupI (sortI ns)) = some (.int (ns.length : Nat)) := by simp [tupI, sortI_len]
  have h11 : dLen (.tup (Ls.map lay)) = some (.int (Ls.length : Nat)) := by simp
  have h12 : dLen (lay []) = some (.int 0) := by simp [lay]
  have h13 : dRng1 [.int ((Ls.length : Int) - 1)] = some (rgD 0 (Ls.length - 1)) := by
    rw [show (Ls.length : Int) - 1 = ((Ls.length - 1 : Nat) : Int) by omega, ← rngL_rg]
    exact dRng1_nat _ (by have := ok.sort.1; simp at q1; omega)
  have h14 : ¬ ((ns.length : Int) + 1 < (Ls.length : Int)) := by simp [sortI_len] at q1; omega
  generalize D.tup (Ls.map lay) = ld at *
  have s1 : (fTo (gTp 2 (gCn (gNm 3) (gCn (gNm 4) gNl))) (fCall F_checked_couple [] (fCons (fVar 0) (fCons (fVar 1) fNil)))) [some (.sh d), some (.sh e), some (.sh ld), none, none, none, none, none] = some (.nx [some (.sh d), some (.sh e), some (.sh ld), some (.sh (tupI (sortI ns))), some (.sh (tupI ws)), none, none, none]) := by
    simp [h1]
  have s2 : (fIfS (fNot (fUn dTruth (fCall F_has_form [] (fCons (fVar 2) (fCons (fArgs (d1 dLen) (fCons (fVar 4) fNil)) fNil))))) (fRet (fC (.str "form"))) fSkip) [some (.sh d), some (.sh e), some (.sh ld), some (.sh (tupI (sortI ns))), some (.sh (tupI ws)), none, none, none] = some (.nx [some (.sh d), some (.sh e), some (.sh ld), some (.sh (tupI (sortI ns))), some (.sh (tupI ws)), none, none, none]) := by
    simp [-dLen, h9, h2]
  have s3 : (fIfS (fTest (fBin dGt (fArgs (d1 dLen) (fCons (fVar 2) fNil)) (fBin dAdd (fArgs (d1 dLen) (fCons (fVar 3) fNil)) (fC (.int 1))))) (fRet (fC (.str "many"))) fSkip) [some (.sh d), some (.sh e), some (.sh ld), some (.sh (tupI (sortI ns))), some (.sh (tupI ws)), none, none, none] = some (.nx [some (.sh d), some (.sh e), some (.sh ld), some (.sh (tupI (sortI ns))), some (.sh (tupI ws)), none, none, none]) := by
    simp [-dLen, h10, h11, h14]
  have s4 : (fIfS (fTest (fBin (dInS true) (fArgs (d1 dTupOf) (fCons (fFrz (fLst (fArgs (d1 dSort) (fCons (fVar 4) fNil)))) fNil)) (fBin dIx (fVar 2) (fC (.int 0))))) (fRet (fC (.str "first"))) fSkip) [some (.sh d), some (.sh e), some (.sh ld), some (.sh (tupI (sortI ns))), some (.sh (tupI ws)), none, none, none] = some (.nx [some (.sh d), some (.sh e), some (.sh ld), some (.sh (tupI (sortI ns))), some (.sh (tupI ws)), none, none, none]) := by
    simp [-dSort, -dTupOf, -dIx, -dInS, h5, h6, h7, h8, many]
  have s5 : (fFor (fArgs dRng1 (fCons (fBin (dI fun i j => i - j) (fArgs (d1 dLen) (fCons (fVar 2) fNil)) (fC (.int 1))) fNil)) t_layers_fault_2 b_layers_fault_3) [some (.sh d), some (.sh e), some (.sh ld), some (.sh (tupI (sortI ns))), some (.sh (tupI ws)), none, none, none] = some (.nx [some (.sh d), some (.sh e), some (.sh ld), some (.sh (tupI (sortI ns))), some (.sh (tupI ws)), a', b', c']) := by
    have q : fArgs dRng1 (fCons (fBin (dI fun i j => i - j) (fArgs (d1 dLen) (fCons (fVar 2) fNil)) (fC (.int 1))) fNil) [some (.sh d), some (.sh e), some (.sh ld), some (.sh (tupI (sortI ns))), some (.sh (tupI ws)), none, none, none] = some (rgD 0 (Ls.length - 1), [some (.sh d), some (.sh e), some (.sh ld), some (.sh (tupI (sortI ns))), some (.sh (tupI ws)), none, none, none]) := by
      refine fArgs_of (ds := [.int ((Ls.length : Int) - 1)]) ?_ h13
      simp [-dLen, h11]
    unfold fFor
    rw [q]
    exact h4
  have s6 : (fRet (fIf (fTest (fBin dGt (fArgs (d1 dLen) (fCons (fBin dIx (fVar 2) (fUn dNeg (fC (.int 1)))) fNil)) (fC (.int 0)))) (fC (.str "last")) (fC .non))) [some (.sh d), some (.sh e), some (.sh ld), some (.sh (tupI (sortI ns))), some (.sh (tupI ws)), a', b', c'] = some (.rt (.sh .non) [some (.sh d), some (.sh e), some (.sh ld), some (.sh (tupI (sortI ns))), some (.sh (tupI ws)), a', b', c']) := by
    simp [-dLen, -dIx, h3, h12]
  unfold F_layers_fault fnD f_layers_fault
  show outD 8 (fSeq _ _ [some (.sh d), some (.sh e), some (.sh ld), none, none, none, none, none]) = _
  rw [fSeq_nx s1, fSeq_nx s2, fSeq_nx s3, fSeq_nx s4, fSeq_nx s5, s6]
  rfl
end K79
end

section
set_option linter.all false
set_option maxRecDepth 100000
set_option maxHeartbeats 2000000
namespace K79
open Fl PySem
theorem loop_lessc (x0 x2 : Option Slot) (c : Int) : ∀ r : List Int, lcL t_fails_in_0 c_fails_in_1 e_fails_in_2 [3] (r.map D.int) [x0, some (.sh (.int c)), x2, none] = some ((r.filter fun x => decide (x < c)).map D.int, [x0, some (.sh (.int c)), x2, none])
  | [] => rfl
  | a :: r => by
    have ih := loop_lessc x0 x2 c r
    simp [t_fails_in_0, c_fails_in_1, e_fails_in_2] at ih
    by_cases h : a < c
    · simp [lcL, noOwn, noOwn1, wipeF, backF, t_fails_in_0, c_fails_in_1, e_fails_in_2, ih, h]
    · simp [lcL, noOwn, noOwn1, wipeF, backF, t_fails_in_0, c_fails_in_1, e_fails_in_2, ih, h]
theorem in_ints (no : Bool) (c : Int) (r : List Int) : dInS no (.int c) (tupI r) = some (.bl (xor no (decide (c ∈ r)))) := by
  have h1 := fits_ints 7 r
  have h2 : fit 8 (.int c) = true := by simp
  have h3 : ((r.map D.int).any fun z => eqD z (.int c)) = decide (c ∈ r) := by
    clear h1 h2
    induction r with
    | nil => simp
    | cons a l ih =>
      simp only [List.map_cons, List.any_cons, ih, eqD_int]
      by_cases h : a = c
      · subst h; simp
      · simp [h, Ne.symm h]
  show (some (r.map D.int)).bind _ = _
  simp [h1, h2, h3]
theorem m_fails_in {p c : Int} (hp : 2 ≤ p) (hp5 : p ≤ 5) {r : List Int} (hl : r.length ≤ 1000) (hc : c ∈ r) (h : (r.filter fun x => decide (x < c)).sum / (p - 1) + 1 < c) : F_fails_in [tupI r, .int c, .int p] = some (.sh (.bl true)) := by
  have e1 := loop_lessc (some (.sh (tupI r))) (some (.sh (.int p))) c r
  have e2 := in_ints true c r
  have hp1 : ¬ p = 1 := by omega
  have hp2 : 1 < p := by omega
  have hp3 : p - 1 < 18446744073709551616 := by omega
  have hm : r.length < 1000000 := by omega
  have hs : dSeq (tupI r) = some (r.map D.int) := rfl
  have e3 : dSum (.lst ((r.filter fun x => decide (x < c)).map D.int)) = some (.int (r.filter fun x => decide (x < c)).sum) := by simp
  generalize (r.filter fun x => decide (x < c)) = q at *
  generalize tupI r = tr at *
  simp [-dInS, -dSeq, -dSum, F_fails_in, f_fails_in, isB, okN, hp1, e2, hc, hs, many, hm, e1, e3, hp2, hp3, h]
/-- a told fall: the lot, the rest, the coin, the wish -/
structure Fall (p lost : Int) (cs lot R ws : List Int) (c : Int) : Prop where
  okc : okCoins cs
  srt : cs.Pairwise (· ≤ ·)
  okr : okCoins R
  rsrt : R.Pairwise (· ≤ ·)
  perm : (lot ++ R).Perm cs
  lsub : lot.Sublist cs
  len : (lot.length : Int) ≤ lost
  mem : c ∈ R
  fail : (R.filter fun x => decide (x < c)).sum / (p - 1) + 1 < c
  okw : okWish ws
  sum : ws.sum = R.sum
  wlen : (ws.length : Int) = p
  lay1 : (∃ init, lays R.reverse [sortI ws] = init ++ [[]]) ∧ ∀ M ∈ lays R.reverse [sortI ws], M.length ≤ 1
  layE : ∀ M ∈ lays R.reverse [sortI ws], ∀ y ∈ M, Ent ws.length y
  row1 : (∃ init, rowsF R.reverse [sortI ws] = init ++ [[]]) ∧ ∀ M ∈ rowsF R.reverse [sortI ws], M.length ≤ 1
theorem Fall.cl {p lost : Int} {cs lot R ws : List Int} {c : Int} (F : Fall p lost cs lot R ws c) : Cl lot cs := fun x => F.lsub.count_le x
theorem Fall.less {p lost : Int} {cs lot R ws : List Int} {c : Int} (F : Fall p lost cs lot R ws c) : less cs lot = R := by
  have h1 := less_perm F.cl
  have h2 := (h1.trans F.perm.symm)
  exact sorted_uniq (F.srt.sublist (less_sublist lot cs)) F.rsrt ((List.perm_append_left_iff lot).mp h2)
theorem Fall.okl {p lost : Int} {cs lot R ws : List Int} {c : Int} (F : Fall p lost cs lot R ws c) : okCoins lot := F.okc.sub F.lsub
theorem Fall.lsrt {p lost : Int} {cs lot R ws : List Int} {c : Int} (F : Fall p lost cs lot R ws c) : sortI lot = lot := sortI_id (F.srt.sublist F.lsub)
theorem Fall.split {p lost : Int} {cs lot R ws : List Int} {c : Int} (F : Fall p lost cs lot R ws c) : F_any_split [tupI R, tupI ws] = some (.sh (.obj 1 [.tup ((lays R.reverse [sortI ws]).map lay)])) := by
  have := m_any_split_no (tupI R) (tupI ws) R ws rfl F.okr (.inr rfl) F.okw F.sum (by rw [sortI_id F.rsrt]; exact F.lay1.2) (by rw [sortI_id F.rsrt]; exact F.lay1.1)
  rw [sortI_id F.rsrt] at this
  exact this
theorem m_fallen_fault {p lost : Int} (hp : 2 ≤ p) (hp5 : p ≤ 5) (h0 : 0 ≤ lost) (h12 : lost ≤ 12) {cs lot R ws : List Int} {c : Int} (F : Fall p lost cs lot R ws c) (d : D) (hd : dSeq d = some (cs.map .int)) :
    F_fallen_fault [d, .int p, .int lost, .obj 3 [tupI lot, .int c, tupI ws]] = some (.sh .non) := by
  have e1 := m_check_pool d cs hd F.okc
  rw [sortI_id F.srt] at e1
  have e1 : F_check_pool [d] = some (.sh (tupI cs)) := e1
  have e2 := m_check_people p 1 (by omega) hp5
  have e3 := m_check_lost lost h0 h12
  have e4 := m_check_pool (tupI lot) lot rfl F.okl
  rw [F.lsrt] at e4
  have e4 : F_check_pool [tupI lot] = some (.sh (tupI lot)) := e4
  have e5 := m_has_lot (tupI cs) (tupI lot) cs lot rfl F.okc rfl F.okl
  rw [(hasL_iff cs lot).mpr F.cl] at e5
  have e6 := m_less_lot (tupI cs) (tupI lot) cs lot rfl F.okc rfl F.okl F.cl
  rw [sortI_id F.srt, F.less] at e6
  have e7 := m_fails_in hp hp5 (by have := F.okr.1; omega) F.mem F.fail
  have e8 := m_check_wish (tupI ws) ws R.sum (.inr rfl) F.okw F.sum
  have e9 := F.split
  have l1 : dLen (tupI lot) = some (.int (lot.length : Nat)) := by simp [tupI]
  have l2 : dLen (tupI ws) = some (.int p) := by simp [tupI, F.wlen]
  have l3 : dSum (tupI R) = some (.int R.sum) := by simp [tupI]
  have l4 : ¬ (lost < (lot.length : Int)) := by have := F.len; omega
  generalize (D.tup ((lays R.reverse [sortI ws]).map lay)) = lx at e9
  have s0 : (fSet 4 (fCall F_check_pool [] (fCons (fVar 0) fNil))) [some (.sh d), some (.sh (.int p)), some (.sh (.int lost)), some (.sh (.obj 3 [tupI lot, .int c, tupI ws])), none, none, none, none] = some (.nx [some (.sh d), some (.sh (.int p)), some (.sh (.int lost)), some (.sh (.obj 3 [tupI lot, .int c, tupI ws])), some (.sh (tupI cs)), none, none, none]) := by simp [e1]
  have s1 : (fDrop (fCall F_check_people [.int 1] (fCons (fVar 1) fNil))) [some (.sh d), some (.sh (.int p)), some (.sh (.int lost)), some (.sh (.obj 3 [tupI lot, .int c, tupI ws])), some (.sh (tupI cs)), none, none, none] = some (.nx [some (.sh d), some (.sh (.int p)), some (.sh (.int lost)), some (.sh (.obj 3 [tupI lot, .int c, tupI ws])), some (.sh (tupI cs)), none, none, none]) := by simp [e2]
  have s2 : (fDrop (fCall F_check_lost [] (fCons (fVar 2) fNil))) [some (.sh d), some (.sh (.int p)), some (.sh (.int lost)), some (.sh (.obj 3 [tupI lot, .int c, tupI ws])), some (.sh (tupI cs)), none, none, none] = some (.nx [some (.sh d), some (.sh (.int p)), some (.sh (.int lost)), some (.sh (.obj 3 [tupI lot, .int c, tupI ws])), some (.sh (tupI cs)), none, none, none]) := by simp [e3]
  have s3 : (fSet 5 (fCall F_check_pool [] (fCons (fUn (dFld 3 0) (fVar 3)) fNil))) [some (.sh d), some (.sh (.int p)), some (.sh (.int lost)), some (.sh (.obj 3 [tupI lot, .int c, tupI ws])), some (.sh (tupI cs)), none, none, none] = some (.nx [some (.sh d), some (.sh (.int p)), some (.sh (.int lost)), some (.sh (.obj 3 [tupI lot, .int c, tupI ws])), some (.sh (tupI cs)), some (.sh (tupI lot)), none, none]) := by simp [e4]
  have s4 : (fIfS (fNot (fUn dTruth (fCall F_has_lot [] (fCons (fVar 4) (fCons (fVar 5) fNil))))) (fRet (fC (.str "lot"))) fSkip) [some (.sh d), some (.sh (.int p)), some (.sh (.int lost)), some (.sh (.obj 3 [tupI lot, .int c, tupI ws])), some (.sh (tupI cs)), some (.sh (tupI lot)), none, none] = some (.nx [some (.sh d), some (.sh (.int p)), some (.sh (.int lost)), some (.sh (.obj 3 [tupI lot, .int c, tupI ws])), some (.sh (tupI cs)), some (.sh (tupI lot)), none, none]) := by simp [e5]
  have s5 : (fIfS (fTest (fBin dGt (fArgs (d1 dLen) (fCons (fVar 5) fNil)) (fVar 2))) (fRet (fC (.str "many"))) fSkip) [some (.sh d), some (.sh (.int p)), some (.sh (.int lost)), some (.sh (.obj 3 [tupI lot, .int c, tupI ws])), some (.sh (tupI cs)), some (.sh (tupI lot)), none, none] = some (.nx [some (.sh d), some (.sh (.int p)), some (.sh (.int lost)), some (.sh (.obj 3 [tupI lot, .int c, tupI ws])), some (.sh (tupI cs)), some (.sh (tupI lot)), none, none]) := by simp [-dLen, l1, l4]
  have s6 : (fSet 6 (fCall F_less_lot [] (fCons (fVar 4) (fCons (fVar 5) fNil)))) [some (.sh d), some (.sh (.int p)), some (.sh (.int lost)), some (.sh (.obj 3 [tupI lot, .int c, tupI ws])), some (.sh (tupI cs)), some (.sh (tupI lot)), none, none] = some (.nx [some (.sh d), some (.sh (.int p)), some (.sh (.int lost)), some (.sh (.obj 3 [tupI lot, .int c, tupI ws])), some (.sh (tupI cs)), some (.sh (tupI lot)), some (.sh (tupI R)), none]) := by simp [e6]
  have s7 : (fIfS (fNot (fUn dTruth (fCall F_fails_in [] (fCons (fVar 6) (fCons (fUn (dFld 3 1) (fVar 3)) (fCons (fVar 1) fNil)))))) (fRet (fC (.str "coin"))) fSkip) [some (.sh d), some (.sh (.int p)), some (.sh (.int lost)), some (.sh (.obj 3 [tupI lot, .int c, tupI ws])), some (.sh (tupI cs)), some (.sh (tupI lot)), some (.sh (tupI R)), none] = some (.nx [some (.sh d), some (.sh (.int p)), some (.sh (.int lost)), some (.sh (.obj 3 [tupI lot, .int c, tupI ws])), some (.sh (tupI cs)), some (.sh (tupI lot)), some (.sh (tupI R)), none]) := by simp [e7]
  have s8 : (fSet 7 (fCall F_check_wish [] (fCons (fUn (dFld 3 2) (fVar 3)) (fCons (fArgs (d1 dSum) (fCons (fVar 6) fNil)) fNil)))) [some (.sh d), some (.sh (.int p)), some (.sh (.int lost)), some (.sh (.obj 3 [tupI lot, .int c, tupI ws])), some (.sh (tupI cs)), some (.sh (tupI lot)), some (.sh (tupI R)), none] = some (.nx [some (.sh d), some (.sh (.int p)), some (.sh (.int lost)), some (.sh (.obj 3 [tupI lot, .int c, tupI ws])), some (.sh (tupI cs)), some (.sh (tupI lot)), some (.sh (tupI R)), some (.sh (tupI ws))]) := by simp [-dSum, l3, e8]
  have s9 : (fIfS (fTest (fBin dNe (fArgs (d1 dLen) (fCons (fVar 7) fNil)) (fVar 1))) (fRet (fC (.str "wish"))) fSkip) [some (.sh d), some (.sh (.int p)), some (.sh (.int lost)), some (.sh (.obj 3 [tupI lot, .int c, tupI ws])), some (.sh (tupI cs)), some (.sh (tupI lot)), some (.sh (tupI R)), some (.sh (tupI ws))] = some (.nx [some (.sh d), some (.sh (.int p)), some (.sh (.int lost)), some (.sh (.obj 3 [tupI lot, .int c, tupI ws])), some (.sh (tupI cs)), some (.sh (tupI lot)), some (.sh (tupI R)), some (.sh (tupI ws))]) := by simp [-dLen, l2]
  have s10 : (fRet (fIf (fUn dTruth (fUn (dIsiC 1) (fCall F_any_split [] (fCons (fVar 6) (fCons (fVar 7) fNil))))) (fC .non) (fC (.str "split")))) [some (.sh d), some (.sh (.int p)), some (.sh (.int lost)), some (.sh (.obj 3 [tupI lot, .int c, tupI ws])), some (.sh (tupI cs)), some (.sh (tupI lot)), some (.sh (tupI R)), some (.sh (tupI ws))] = some (.rt (.sh .non) [some (.sh d), some (.sh (.int p)), some (.sh (.int lost)), some (.sh (.obj 3 [tupI lot, .int c, tupI ws])), some (.sh (tupI cs)), some (.sh (tupI lot)), some (.sh (tupI R)), some (.sh (tupI ws))]) := by simp [e9]
  unfold F_fallen_fault fnD f_fallen_fault
  show outD 8 (fSeq _ _ [some (.sh d), some (.sh (.int p)), some (.sh (.int lost)), some (.sh (.obj 3 [tupI lot, .int c, tupI ws])), none, none, none, none]) = _
  rw [fSeq_nx s0, fSeq_nx s1, fSeq_nx s2, fSeq_nx s3, fSeq_nx s4, fSeq_nx s5, fSeq_nx s6, fSeq_nx s7, fSeq_nx s8, fSeq_nx s9, s10]
  rfl
end K79
end

section
set_option linter.all false
set_option maxRecDepth 100000
set_option maxHeartbeats 2000000
namespace K79
open Fl PySem
theorem ins_perm' (cs : List Int) (q : Nat) (c : Int) : (cs.take q ++ [c] ++ cs.drop q).Perm (c :: cs) := by
  have h : (cs.take q ++ [c] ++ cs.drop q).Perm (c :: (cs.take q ++ cs.drop q)) := by
    rw [List.append_assoc]
    exact List.perm_middle
  rw [List.take_append_drop] at h
  exact h
/-! ### a pool in another order -/
theorem loop_turn (x1 : Option Slot) : ∀ (r out : List Int) (o : O) (a : Option Slot), HandOk o → out.length + r.length ≤ 1000 →
    ∃ (o' : O) (out' : List Int) (a' : Option Slot), forL t__law_turned_0 b__law_turned_1 (r.map D.int) [some (.own false o), x1, some (.own true (.lst (out.map .int))), a] = some (.nx [some (.own false o'), x1, some (.own true (.lst (out'.map .int))), a']) ∧ HandOk o' ∧ out'.Perm (out ++ r)
  | [], out, o, a, ho, _ => ⟨o, out, a, by simp [forL], ho, by simp⟩
  | c :: r, out, o, a, ho, hl => by
    simp at hl
    obtain ⟨d, o1, e1, ho1, h1, h2⟩ := draw ho (many := (out.length : Int) + 1) (by omega) (by omega)
    obtain ⟨o', out', a', e, q1, q2⟩ := loop_turn x1 r (out.take d.toNat ++ [c] ++ out.drop d.toNat) o1 (some (.sh (.int c))) ho1 (by rw [(ins_perm' out d.toNat c).length_eq]; simp; omega)
    refine ⟨o', out', a', ?_, q1, ?_⟩
    · rw [List.map_cons, ← e]
      have hno := noLs_ints out
      have hl2 : out.length < 1000000 := by omega
      have hd3 : d < 1000000000 := by omega
      simp [forL, t__law_turned_0, b__law_turned_1, hno, e1, many, hl2, h1, hd3]
    · refine q2.trans ?_
      refine ((ins_perm' out d.toNat c).append_right r).trans ?_
      rw [List.cons_append]
      exact List.perm_middle.symm
theorem m_turned {o : O} (ho : HandOk o) (cs : List Int) (hl : cs.length ≤ 1000) : ∃ (d : D) (o' : O) (ds : List Int), F__law_turned [] o [.lst (cs.map .int)] = some (.sh d, o') ∧ HandOk o' ∧ dSeq d = some (ds.map .int) ∧ ds.Perm cs := by
  obtain ⟨o1, out, a, e, ho1, hp⟩ := loop_turn (some (.sh (.lst (cs.map .int)))) cs [] o none ho (by simpa using hl)
  obtain ⟨d, o2, e2, ho2, h1, h2⟩ := draw ho1 (many := 2) (by decide) (by decide)
  have hp : out.Perm cs := by simpa using hp
  simp only [List.map_nil] at e
  have hol : out.length ≤ 1000000 := by have := hp.length_eq; omega
  have one := ho2.one
  have one0 := ho.one
  by_cases hd : d = 0
  · refine ⟨.lst (out.map .int), o2, out, ?_, ho2, rfl, hp⟩
    simp [-O.one, F__law_turned, f__law_turned, e, e2, hd, many, one, one0]
  · refine ⟨.tup (out.map .int), o2, out, ?_, ho2, rfl, hp⟩
    simp [-O.one, F__law_turned, f__law_turned, e, e2, hd, many, one, one0, hol]
/-! ### people, losses -/
theorem m_few {o : O} (ho : HandOk o) : ∃ (p : Int) (o' : O), F__law_few_people [] o [] = some (.sh (.int p), o') ∧ HandOk o' ∧ 2 ≤ p ∧ p ≤ 5 := by
  obtain ⟨d, o1, e, ho1, h1, h2⟩ := draw ho (many := 8) (by decide) (by decide)
  have one := ho1.one
  have one0 := ho.one
  have : ∃ p : Int, L2.atI [D.int 2, .int 2, .int 3, .int 3, .int 2, .int 4, .int 5, .int 3] d = some (.int p) ∧ 2 ≤ p ∧ p ≤ 5 := by
    have : d = 0 ∨ d = 1 ∨ d = 2 ∨ d = 3 ∨ d = 4 ∨ d = 5 ∨ d = 6 ∨ d = 7 := by omega
    rcases this with rfl | rfl | rfl | rfl | rfl | rfl | rfl | rfl
    · exact ⟨2, rfl, by decide, by decide⟩
    · exact ⟨2, rfl, by decide, by decide⟩
    · exact ⟨3, rfl, by decide, by decide⟩
    · exact ⟨3, rfl, by decide, by decide⟩
    · exact ⟨2, rfl, by decide, by decide⟩
    · exact ⟨4, rfl, by decide, by decide⟩
    · exact ⟨5, rfl, by decide, by decide⟩
    · exact ⟨3, rfl, by decide, by decide⟩
  obtain ⟨p, q1, q2, q3⟩ := this
  refine ⟨p, o1, ?_, ho1, q2, q3⟩
  simp [-O.one, F__law_few_people, f__law_few_people, e, q1, many, one, one0]
theorem m_lost {o : O} (ho : HandOk o) : ∃ (l : Int) (o' : O), F__law_lost [] o [] = some (.sh (.int l), o') ∧ HandOk o' ∧ 0 ≤ l ∧ l ≤ 12 := by
  obtain ⟨d, o1, e, ho1, h1, h2⟩ := draw ho (many := 8) (by decide) (by decide)
  have one := ho1.one
  have one0 := ho.one
  by_cases h7 : d = 7
  · subst h7
    obtain ⟨d2, o2, e2, ho2, g1, g2⟩ := draw ho1 (many := 13) (by decide) (by decide)
    refine ⟨d2, o2, ?_, ho2, g1, by omega⟩
    have one2 := ho2.one
    simp [-O.one, F__law_lost, f__law_lost, e, e2, one0, one2]
  · have : ∃ p : Int, L2.atI [D.int 0, .int 1, .int 1, .int 2, .int 2, .int 1, .int 3] d = some (.int p) ∧ 0 ≤ p ∧ p ≤ 12 := by
      have : d = 0 ∨ d = 1 ∨ d = 2 ∨ d = 3 ∨ d = 4 ∨ d = 5 ∨ d = 6 := by omega
      rcases this with rfl | rfl | rfl | rfl | rfl | rfl | rfl
      · exact ⟨0, rfl, by decide, by decide⟩
      · exact ⟨1, rfl, by decide, by decide⟩
      · exact ⟨1, rfl, by decide, by decide⟩
      · exact ⟨2, rfl, by decide, by decide⟩
      · exact ⟨2, rfl, by decide, by decide⟩
      · exact ⟨1, rfl, by decide, by decide⟩
      · exact ⟨3, rfl, by decide, by decide⟩
    obtain ⟨p, q1, q2, q3⟩ := this
    refine ⟨p, o1, ?_, ho1, q2, q3⟩
    simp [-O.one, F__law_lost, f__law_lost, e, h7, q1, many, one, one0]
/-! ### the room, the bearing pool -/
def kept (cs : List Int) (lost : Int) : Int := (cs.take ((cs.length : Int) - lost).toNat).sum
theorem m_room {p lost : Int} (hp : 2 ≤ p) (hp5 : p ≤ 5) (h0 : 0 ≤ lost) (cs : List Int) : F__law_room [.lst (cs.map .int), .int p, .int lost] = some (.sh (.int (kept cs lost / (p - 1) + 1))) := by
  have hk : ((cs.length : Int) - lost).toNat ≤ cs.length := by omega
  have q1 : (if (cs.length : Int) - lost > 0 then (cs.length : Int) - lost else 0) = ((((cs.length : Int) - lost).toNat : Nat) : Int) := by split <;> omega
  have q2 := cutL_take (cs.map D.int) ((cs.length : Int) - lost).toNat (by simp; omega)
  have dmax : dMax2 (.int 0) (.int ((cs.length : Int) - lost)) = some (.int ((((cs.length : Int) - lost).toNat : Nat) : Int)) := by
    show some (D.int _) = _
    rw [q1]
  have q3 : dSum (.lst ((cs.map D.int).take ((cs.length : Int) - lost).toNat)) = some (.int (kept cs lost)) := by
    show (asI _).map _ = _
    rw [← List.map_take, asI_map]
    rfl
  have hp1 : 1 < p := by omega
  have hp3 : p - 1 < 18446744073709551616 := by omega
  generalize ((cs.length : Int) - lost).toNat = n at *
  generalize kept cs lost = kk at *
  simp [-dMax2, -dSum, F__law_room, f__law_room, dmax, q2, q3, hp1, hp3]
/-- coins whose sum at most doubles -/
def Sm (cs : List Int) (k : Nat) : Prop := cs.length = k ∧ (∀ c ∈ cs, 1 ≤ c) ∧ cs.sum + 1 ≤ 2 ^ k
theorem Sm.put {cs : List Int} {k : Nat} {c : Int} (h : Sm cs k) (h1 : 1 ≤ c) (h2 : c ≤ cs.sum + 1) : Sm (sortI (cs ++ [c])) (k + 1) := by
  obtain ⟨a, b, d⟩ := h
  refine ⟨by rw [sortI_len]; simp [a], fun x hx => ?_, ?_⟩
  · have := sortI_mem.mp hx
    rcases List.mem_append.mp this with q | q
    · exact b x q
    · simp at q; omega
  · rw [sortI_sum, List.sum_append, Int.pow_succ]
    simp
    omega
theorem kept_bound {p lost : Int} (hp : 2 ≤ p) (h0 : 0 ≤ lost) {cs : List Int} (h : ∀ c ∈ cs, 1 ≤ c) : 1 ≤ kept cs lost / (p - 1) + 1 ∧ kept cs lost / (p - 1) + 1 ≤ cs.sum + 1 := by
  have h1 : 0 ≤ kept cs lost := sum_nonneg fun c hc => h c (List.mem_of_mem_take hc)
  have h2 : kept cs lost ≤ cs.sum := by
    have := take_sum_mono (fun c hc => by have := h c hc; omega) (l := cs) (s := ((cs.length : Int) - lost).toNat) (t := cs.length) (by omega)
    rw [List.take_length] at this
    exact this
  have h3 := Fl.room_le hp h1
  have h4 : 0 ≤ kept cs lost / (p - 1) := Int.ediv_nonneg h1 (by omega)
  omega
theorem loop_bear {p lost : Int} (hp : 2 ≤ p) (hp5 : p ≤ 5) (h0 : 0 ≤ lost) (x1 : Option Slot) : ∀ (n k : Nat) (cs : List Int) (o : O) (a b c : Option Slot), Sm cs k → k + n ≤ 7 → HandOk o →
    ∃ (o' : O) (cs' : List Int) (a' b' c' : Option Slot), forL t__law_bearing_0 b__law_bearing_1 (rgD k n) [some (.own false o), x1, some (.sh (.int p)), some (.sh (.int lost)), some (.own true (.lst (cs.map .int))), a, b, c] =
      some (.nx [some (.own false o'), x1, some (.sh (.int p)), some (.sh (.int lost)), some (.own true (.lst (cs'.map .int))), a', b', c']) ∧ HandOk o' ∧ Sm cs' (k + n)
  | 0, k, cs, o, a, b, c, hs, hn, ho => ⟨o, cs, a, b, c, by simp [rgD, forL], ho, hs⟩
  | n + 1, k, cs, o, a, b, c, hs, hn, ho => by
    have er := m_room hp hp5 h0 cs
    obtain ⟨r1, r2⟩ := kept_bound (lost := lost) hp h0 hs.2.1
    have hb : cs.sum + 1 ≤ 128 := by
      have : (2 : Int) ^ k ≤ 2 ^ 7 := by
        have : k ≤ 7 := by omega
        rcases (show k = 0 ∨ k = 1 ∨ k = 2 ∨ k = 3 ∨ k = 4 ∨ k = 5 ∨ k = 6 ∨ k = 7 by omega) with rfl | rfl | rfl | rfl | rfl | rfl | rfl | rfl <;> decide
      have := hs.2.2
      omega
    generalize kept cs lost / (p - 1) + 1 = room at er r1 r2
    obtain ⟨d1, o1, e1, ho1, g1, g2⟩ := draw ho (many := 3) (by decide) (by decide)
    have hcoin : ∃ (coin : Int) (o2 : O), HandOk o2 ∧ 1 ≤ coin ∧ coin ≤ room ∧ (if d1 = 0 then ∃ d2, coin = 1 + d2 ∧ F__law_draw [] o1 [.int room] = some (.sh (.int d2), o2) else coin = room ∧ o2 = o1) := by
      by_cases hd : d1 = 0
      · obtain ⟨d2, o2, e2, ho2, h1, h2⟩ := draw ho1 (many := room) r1 (by omega)
        exact ⟨1 + d2, o2, ho2, by omega, by omega, by rw [if_pos hd]; exact ⟨d2, rfl, e2⟩⟩
      · exact ⟨room, o1, ho1, by omega, by omega, by rw [if_neg hd]; exact ⟨rfl, rfl⟩⟩
    obtain ⟨coin, o2, ho2, hc1, hc2, ec⟩ := hcoin
    have hs1 := hs.put (c := coin) hc1 (by omega)
    obtain ⟨o', cs', a', b', c', e, q1, q2⟩ := loop_bear hp hp5 h0 x1 n (k + 1) (sortI (cs ++ [coin])) o2 (some (.sh (.int (k : Int)))) (some (.sh (.int room))) (some (.sh (.int coin))) hs1 (by omega) ho2
    refine ⟨o', cs', a', b', c', ?_, q1, by rw [show k + (n + 1) = k + 1 + n by omega]; exact q2⟩
    rw [← e]
    have hr : rgD k (n + 1) = .int (k : Int) :: rgD (k + 1) n := by simp [rgD, List.range'_succ]
    rw [hr]
    have hlen := hs.1
    have hl2 : cs.length ≤ 1000000 := by omega
    have hl3 : cs.length + 1 ≤ 1000000 := by omega
    have hno := noLs_ints cs
    have hno2 : noLs ((cs ++ [coin]).map D.int) = true := noLs_ints _
    have hso := dSort_lst (cs ++ [coin]) (by simp; omega)
    simp only [List.map_append, List.map_cons, List.map_nil] at hso hno2
    by_cases hd : d1 = 0
    · rw [if_pos hd] at ec
      obtain ⟨d2, rfl, e2⟩ := ec
      simp [-dSort, forL, t__law_bearing_0, b__law_bearing_1, okO, hno, hno2, er, e1, e2, hd, many, hl2, hl3, hso]
    · rw [if_neg hd] at ec
      obtain ⟨rfl, rfl⟩ := ec
      have hd1 : 0 < d1 := by omega
      simp [-dSort, forL, t__law_bearing_0, b__law_bearing_1, okO, hno, hno2, er, e1, hd1, many, hl2, hl3, hso]
end K79
end

section
set_option linter.all false
set_option maxRecDepth 100000
set_option maxHeartbeats 2000000
namespace K79
open Fl PySem
theorem m_bearing {p lost : Int} (hp : 2 ≤ p) (hp5 : p ≤ 5) (h0 : 0 ≤ lost) {n : Nat} (hn : n ≤ 7) {o : O} (ho : HandOk o) : ∃ (o' : O) (cs : List Int), F__law_bearing [] o [.int (n : Int), .int p, .int lost] = some (.own true (.lst (cs.map .int)), o') ∧ HandOk o' ∧ Sm cs n := by
  obtain ⟨o', cs, a, b, c, e, h1, h2⟩ := loop_bear hp hp5 h0 (some (.sh (.int (n : Int)))) n 0 [] o none none none ⟨rfl, by simp, by simp⟩ (by omega) ho
  rw [Nat.zero_add] at h2
  refine ⟨o', cs, ?_, h1, h2⟩
  have h4 : dRng1 [.int (n : Int)] = some (rgD 0 n) := by rw [← rngL_rg]; exact dRng1_nat _ (by omega)
  simp only [List.map_nil] at e
  have s0 : fSetO 4 (fLst (fArgs dLst fNil)) [some (.own false o), some (.sh (.int (n : Int))), some (.sh (.int p)), some (.sh (.int lost)), none, none, none, none] = some (.nx [some (.own false o), some (.sh (.int (n : Int))), some (.sh (.int p)), some (.sh (.int lost)), some (.own true (.lst [])), none, none, none]) := by simp [many]
  have s1 : fFor (fArgs dRng1 (fCons (fVar 1) fNil)) t__law_bearing_0 b__law_bearing_1 [some (.own false o), some (.sh (.int (n : Int))), some (.sh (.int p)), some (.sh (.int lost)), some (.own true (.lst [])), none, none, none] = some (.nx [some (.own false o'), some (.sh (.int (n : Int))), some (.sh (.int p)), some (.sh (.int lost)), some (.own true (.lst (cs.map .int))), a, b, c]) := by
    have q : fArgs dRng1 (fCons (fVar 1) fNil) [some (.own false o), some (.sh (.int (n : Int))), some (.sh (.int p)), some (.sh (.int lost)), some (.own true (.lst [])), none, none, none] = some (rgD 0 n, [some (.own false o), some (.sh (.int (n : Int))), some (.sh (.int p)), some (.sh (.int lost)), some (.own true (.lst [])), none, none, none]) := by
      refine fArgs_of (ds := [.int (n : Nat)]) ?_ h4
      simp
    unfold fFor
    rw [q]
    exact e
  have s2 : fRetO (fMove 4) [some (.own false o'), some (.sh (.int (n : Int))), some (.sh (.int p)), some (.sh (.int lost)), some (.own true (.lst (cs.map .int))), a, b, c] = some (.rt (.own true (.lst (cs.map .int))) [some (.own false o'), some (.sh (.int (n : Int))), some (.sh (.int p)), some (.sh (.int lost)), none, a, b, c]) := by simp
  refine fnI_rt (ρ0 := [some (.own false o), some (.sh (.int (n : Int))), some (.sh (.int p)), some (.sh (.int lost)), none, none, none, none]) (ρ := [some (.own false o'), some (.sh (.int (n : Int))), some (.sh (.int p)), some (.sh (.int lost)), none, a, b, c]) rfl ?_ rfl ho.one h1.one
  unfold f__law_bearing
  rw [fSeq_nx s0, fSeq_nx s1, s2]
theorem loop_free (x1 x2 x3 x4 x5 x7 x8 : Option Slot) : ∀ (n k : Nat) (o : O), HandOk o → ∃ (o' : O) (cs : List Int), lcL t__law_loss_pool_0 c__law_loss_pool_1 e__law_loss_pool_2 [6] (rgD k n) [some (.own false o), x1, x2, x3, x4, x5, none, x7, x8] =
    some (cs.map .int, [some (.own false o'), x1, x2, x3, x4, x5, none, x7, x8]) ∧ HandOk o' ∧ cs.length = n ∧ ∀ c ∈ cs, 1 ≤ c ∧ c ≤ 5
  | 0, k, o, ho => ⟨o, [], by simp [rgD, lcL], ho, rfl, by simp⟩
  | n + 1, k, o, ho => by
    obtain ⟨d, o1, e1, ho1, g1, g2⟩ := draw ho (many := 5) (by decide) (by decide)
    obtain ⟨o', cs, e, h1, h2, h3⟩ := loop_free x1 x2 x3 x4 x5 x7 x8 n (k + 1) o1 ho1
    refine ⟨o', (1 + d) :: cs, ?_, h1, by simp [h2], fun c hc => ?_⟩
    · have hr : rgD k (n + 1) = .int (k : Int) :: rgD (k + 1) n := by simp [rgD, List.range'_succ]
      rw [hr]
      simp [t__law_loss_pool_0, c__law_loss_pool_1, e__law_loss_pool_2] at e
      simp [lcL, noOwn, noOwn1, wipeF, backF, t__law_loss_pool_0, c__law_loss_pool_1, e__law_loss_pool_2, e1, e]
    · rcases List.mem_cons.mp hc with rfl | hc
      · omega
      · exact h3 c hc
theorem sum_set (l : List Int) (k : Nat) (v x : Int) (h : l[k]? = some x) : (l.set k v).sum = l.sum - x + v := by
  induction l generalizing k with
  | nil => simp at h
  | cons a l ih =>
    cases k with
    | zero => simp at h; subst h; simp; omega
    | succ k => simp at h ⊢; have := ih k h; omega
/-- what is wanted of a law's pool -/
structure LPool (cs : List Int) : Prop where
  srt : cs.Pairwise (· ≤ ·)
  len : cs.length ≤ 7
  pos : ∀ c ∈ cs, 1 ≤ c
  sum : cs.sum ≤ 200
theorem LPool.ok {cs : List Int} (h : LPool cs) : okCoins cs := ⟨by have := h.len; omega, fun c hc => ⟨h.pos c hc, by have := le_sum h.pos c hc; have := h.sum; omega⟩⟩
def freeS : FS := (fRet (fFrz (fLst (fArgs (d1 dSort) (fCons (fFrz (fLst (fLc (fArgs dRng1 (fCons (fVar 4) fNil)) t__law_loss_pool_0 c__law_loss_pool_1 e__law_loss_pool_2 [6]))) fNil)))))
theorem freeS_of {ρ ρ' : Fenv} {cs ds : List Int} (h : fLc (fArgs dRng1 (fCons (fVar 4) fNil)) t__law_loss_pool_0 c__law_loss_pool_1 e__law_loss_pool_2 [6] ρ = some (cs.map .int, ρ')) (hs : dSort (.lst (cs.map .int)) = some (ds.map .int)) : freeS ρ = some (.rt (.sh (.lst (ds.map .int))) ρ') := by
  unfold freeS
  generalize fLc (fArgs dRng1 (fCons (fVar 4) fNil)) t__law_loss_pool_0 c__law_loss_pool_1 e__law_loss_pool_2 [6] = lc at h ⊢
  simp [-dSort, h, hs]
theorem f_loss_eq : f__law_loss_pool = (fSeq (fSet 4 (fCallI 0 F__law_draw (fHere 0 (fCons (fBin dAdd (fVar 1) (fC (.int 1))) fNil))))
    (fSeq (fSet 5 (fCallI 0 F__law_draw (fHere 0 (fCons (fC (.int 8)) fNil))))
    (fSeq (fIfS (fTest (fBin dGt (fVar 5) (fC (.int 5)))) freeS fSkip)
    (fSeq (fSetO 7 (fCallIO 0 F__law_bearing (fHere 0 (fCons (fVar 4) (fCons (fVar 2) (fCons (fVar 3) fNil))))))
    (fSeq (fIfS (fAnd (fTest (fBin dGt (fVar 5) (fC (.int 3)))) (fTest (fBin dGt (fVar 4) (fC (.int 0))))) (fSeq (fSet 8 (fCallI 0 F__law_draw (fHere 0 (fCons (fVar 4) fNil))))
    (fSetI 7 (fVar 8) (fBin dAdd (fBin dAdd (fLend 7 noL (fBin dIx (fVar 7) (fVar 8))) (fC (.int 1))) (fCallI 0 F__law_draw (fHere 0 (fCons (fC (.int 2)) fNil)))))) fSkip)
    (fRet (fFrz (fLend 7 okO (fLst (fArgs (d1 dSort) (fCons (fVar 7) fNil))))))))))) := rfl
theorem fSetO_of {i : Nat} {f : FO} {ρ ρ' : Fenv} {o : O} (h : f ρ = some (o, ρ')) : fSetO i f ρ = some (.nx (ρ'.set i (some (.own true o)))) := by
  unfold fSetO
  rw [h]
  rfl
theorem fCallIO_of {i : Nat} {F : FI} {a : FAI} {ρ ρ' : Fenv} {ds : List D × List D} {g : Bool} {o o' d : O} (h : a ρ = some (ds, ρ')) (hi : ρ'[i]? = some (some (.own g o))) (hF : F ds.1 o ds.2 = some (.own true d, o')) : fCallIO i F a ρ = some (d, ρ'.set i (some (.own g o'))) := by
  unfold fCallIO
  rw [h]
  simp only [Option.bind_some, hi, hF, owO, Option.map_some]
theorem loss_s3 {turn : Int} {n : Nat} {o2 o3 : O} {p lost : Int} {cs : List Int} (e3 : F__law_bearing [] o2 [.int (n : Int), .int p, .int lost] = some (.own true (.lst (cs.map .int)), o3)) :
   (fSetO 7 (fCallIO 0 F__law_bearing (fHere 0 (fCons (fVar 4) (fCons (fVar 2) (fCons (fVar 3) fNil)))))) [some (.own false o2), some (.sh (.int 7)), some (.sh (.int p)), some (.sh (.int lost)), some (.sh (.int (n : Int))), some (.sh (.int turn)), none, none, none] = some (.nx [some (.own false o3), some (.sh (.int 7)), some (.sh (.int p)), some (.sh (.int lost)), some (.sh (.int (n : Int))), some (.sh (.int turn)), none, some (.own true (.lst (cs.map .int))), none]) := by
  have h : fHere 0 (fCons (fVar 4) (fCons (fVar 2) (fCons (fVar 3) fNil))) [some (.own false o2), some (.sh (.int 7)), some (.sh (.int p)), some (.sh (.int lost)), some (.sh (.int (n : Int))), some (.sh (.int turn)), none, none, none] = some (([], [.int (n : Int), .int p, .int lost]), [some (.own false o2), some (.sh (.int 7)), some (.sh (.int p)), some (.sh (.int lost)), some (.sh (.int (n : Int))), some (.sh (.int turn)), none, none, none]) := by simp
  rw [fSetO_of (fCallIO_of h rfl e3)]
  rfl
theorem fSeq_rt {f g : FS} {ρ ρ' : Fenv} {s : Slot} (h : f ρ = some (.rt s ρ')) : fSeq f g ρ = some (.rt s ρ') := by simp only [fSeq, h, Option.bind_some]
theorem fIfS_tt {t : FT} {a b : FS} {ρ ρ' : Fenv} (h : t ρ = some (true, ρ')) : fIfS t a b ρ = a ρ' := by
  unfold fIfS
  rw [h]
  rfl
theorem fIfS_ff {t : FT} {a b : FS} {ρ ρ' : Fenv} (h : t ρ = some (false, ρ')) : fIfS t a b ρ = b ρ' := by
  unfold fIfS
  rw [h]
  rfl
theorem m_loss_pool {p lost : Int} (hp : 2 ≤ p) (hp5 : p ≤ 5) (h0 : 0 ≤ lost) {o : O} (ho : HandOk o) : ∃ (o' : O) (cs : List Int), F__law_loss_pool [] o [.int 7, .int p, .int lost] = some (.sh (.lst (cs.map .int)), o') ∧ HandOk o' ∧ LPool cs := by
  obtain ⟨d1, o1, e1, ho1, g1, g2⟩ := draw ho (many := 8) (by decide) (by decide)
  obtain ⟨n, rfl⟩ : ∃ n : Nat, d1 = (n : Int) := ⟨d1.toNat, by omega⟩
  obtain ⟨turn, o2, e2, ho2, _, _⟩ := draw ho1 (many := 8) (by decide) (by decide)
  have hn : n ≤ 7 := by omega
  have s0 : (fSet 4 (fCallI 0 F__law_draw (fHere 0 (fCons (fBin dAdd (fVar 1) (fC (.int 1))) fNil)))) [some (.own false o), some (.sh (.int 7)), some (.sh (.int p)), some (.sh (.int lost)), none, none, none, none, none] = some (.nx [some (.own false o1), some (.sh (.int 7)), some (.sh (.int p)), some (.sh (.int lost)), some (.sh (.int (n : Int))), none, none, none, none]) := by simp [e1]
  have s1 : (fSet 5 (fCallI 0 F__law_draw (fHere 0 (fCons (fC (.int 8)) fNil)))) [some (.own false o1), some (.sh (.int 7)), some (.sh (.int p)), some (.sh (.int lost)), some (.sh (.int (n : Int))), none, none, none, none] = some (.nx [some (.own false o2), some (.sh (.int 7)), some (.sh (.int p)), some (.sh (.int lost)), some (.sh (.int (n : Int))), some (.sh (.int turn)), none, none, none]) := by simp [e2]
  by_cases ht : 5 < turn
  · obtain ⟨o3, cs, e3, ho3, h1, h2⟩ := loop_free (some (.sh (.int 7))) (some (.sh (.int p))) (some (.sh (.int lost))) (some (.sh (.int (n : Int)))) (some (.sh (.int turn))) none none n 0 o2 ho2
    have hsum : cs.sum ≤ 35 := by
      have := sum_le_mul 5 cs fun c hc => (h2 c hc).2
      rw [h1] at this
      omega
    refine ⟨o3, sortI cs, ?_, ho3, sortI_sorted cs, by rw [sortI_len]; omega, fun c hc => (h2 c (sortI_mem.mp hc)).1, by rw [sortI_sum]; omega⟩
    have h4 : dRng1 [.int (n : Int)] = some (rgD 0 n) := by rw [← rngL_rg]; exact dRng1_nat _ (by omega)
    have hlr : (rgD 0 n).length < many := by
      unfold rgD many
      rw [List.length_map, List.length_range']
      omega
    have hso := dSort_lst cs (by omega)
    have q : fArgs dRng1 (fCons (fVar 4) fNil) [some (.own false o2), some (.sh (.int 7)), some (.sh (.int p)), some (.sh (.int lost)), some (.sh (.int (n : Int))), some (.sh (.int turn)), none, none, none] = some (rgD 0 n, [some (.own false o2), some (.sh (.int 7)), some (.sh (.int p)), some (.sh (.int lost)), some (.sh (.int (n : Int))), some (.sh (.int turn)), none, none, none]) := by
      refine fArgs_of (ds := [.int (n : Nat)]) ?_ h4
      simp
    have q2 : fLc (fArgs dRng1 (fCons (fVar 4) fNil)) t__law_loss_pool_0 c__law_loss_pool_1 e__law_loss_pool_2 [6] [some (.own false o2), some (.sh (.int 7)), some (.sh (.int p)), some (.sh (.int lost)), some (.sh (.int (n : Int))), some (.sh (.int turn)), none, none, none] = some (cs.map .int, [some (.own false o3), some (.sh (.int 7)), some (.sh (.int p)), some (.sh (.int lost)), some (.sh (.int (n : Int))), some (.sh (.int turn)), none, none, none]) := by
      unfold fLc
      rw [q, Option.bind_some, if_pos hlr, e3]
    have q4 : freeS [some (.own false o2), some (.sh (.int 7)), some (.sh (.int p)), some (.sh (.int lost)), some (.sh (.int (n : Int))), some (.sh (.int turn)), none, none, none] = some (.rt (.sh (.lst ((sortI cs).map .int))) [some (.own false o3), some (.sh (.int 7)), some (.sh (.int p)), some (.sh (.int lost)), some (.sh (.int (n : Int))), some (.sh (.int turn)), none, none, none]) := freeS_of q2 hso
    have s2 : (fIfS (fTest (fBin dGt (fVar 5) (fC (.int 5)))) freeS fSkip) [some (.own false o2), some (.sh (.int 7)), some (.sh (.int p)), some (.sh (.int lost)), some (.sh (.int (n : Int))), some (.sh (.int turn)), none, none, none] = some (.rt (.sh (.lst ((sortI cs).map .int))) [some (.own false o3), some (.sh (.int 7)), some (.sh (.int p)), some (.sh (.int lost)), some (.sh (.int (n : Int))), some (.sh (.int turn)), none, none, none]) := by
      rw [fIfS_tt (ρ' := [some (.own false o2), some (.sh (.int 7)), some (.sh (.int p)), some (.sh (.int lost)), some (.sh (.int (n : Int))), some (.sh (.int turn)), none, none, none]) (by simp [ht]), q4]
    refine fnI_rt (ρ0 := [some (.own false o), some (.sh (.int 7)), some (.sh (.int p)), some (.sh (.int lost)), none, none, none, none, none]) (ρ := [some (.own false o3), some (.sh (.int 7)), some (.sh (.int p)), some (.sh (.int lost)), some (.sh (.int (n : Int))), some (.sh (.int turn)), none, none, none]) rfl ?_ rfl ho.one ho3.one
    rw [f_loss_eq]
    rw [fSeq_nx s0, fSeq_nx s1, fSeq_rt s2]
  · obtain ⟨o3, cs, e3, ho3, hs⟩ := m_bearing hp hp5 h0 hn ho2
    have s2 : (fIfS (fTest (fBin dGt (fVar 5) (fC (.int 5)))) freeS fSkip) [some (.own false o2), some (.sh (.int 7)), some (.sh (.int p)), some (.sh (.int lost)), some (.sh (.int (n : Int))), some (.sh (.int turn)), none, none, none] = some (.nx [some (.own false o2), some (.sh (.int 7)), some (.sh (.int p)), some (.sh (.int lost)), some (.sh (.int (n : Int))), some (.sh (.int turn)), none, none, none]) := by rw [fIfS_ff (ρ' := [some (.own false o2), some (.sh (.int 7)), some (.sh (.int p)), some (.sh (.int lost)), some (.sh (.int (n : Int))), some (.sh (.int turn)), none, none, none]) (by simp [ht])]; rfl
    have s3 : (fSetO 7 (fCallIO 0 F__law_bearing (fHere 0 (fCons (fVar 4) (fCons (fVar 2) (fCons (fVar 3) fNil)))))) [some (.own false o2), some (.sh (.int 7)), some (.sh (.int p)), some (.sh (.int lost)), some (.sh (.int (n : Int))), some (.sh (.int turn)), none, none, none] = some (.nx [some (.own false o3), some (.sh (.int 7)), some (.sh (.int p)), some (.sh (.int lost)), some (.sh (.int (n : Int))), some (.sh (.int turn)), none, some (.own true (.lst (cs.map .int))), none]) := by exact loss_s3 e3
    have hb : cs.sum ≤ 127 := by
      have : (2 : Int) ^ n ≤ 2 ^ 7 := by
        rcases (show n = 0 ∨ n = 1 ∨ n = 2 ∨ n = 3 ∨ n = 4 ∨ n = 5 ∨ n = 6 ∨ n = 7 by omega) with rfl | rfl | rfl | rfl | rfl | rfl | rfl | rfl <;> decide
      have := hs.2.2
      omega
    have fin : ∀ (o4 : O) (ds : List Int) (x8 : Option Slot), HandOk o4 → ds.length ≤ 7 → (∀ c ∈ ds, 1 ≤ c) → ds.sum ≤ 200 → (fIfS (fAnd (fTest (fBin dGt (fVar 5) (fC (.int 3)))) (fTest (fBin dGt (fVar 4) (fC (.int 0))))) (fSeq (fSet 8 (fCallI 0 F__law_draw (fHere 0 (fCons (fVar 4) fNil))))
    (fSetI 7 (fVar 8) (fBin dAdd (fBin dAdd (fLend 7 noL (fBin dIx (fVar 7) (fVar 8))) (fC (.int 1))) (fCallI 0 F__law_draw (fHere 0 (fCons (fC (.int 2)) fNil)))))) fSkip) [some (.own false o3), some (.sh (.int 7)), some (.sh (.int p)), some (.sh (.int lost)), some (.sh (.int (n : Int))), some (.sh (.int turn)), none, some (.own true (.lst (cs.map .int))), none] = some (.nx [some (.own false o4), some (.sh (.int 7)), some (.sh (.int p)), some (.sh (.int lost)), some (.sh (.int (n : Int))), some (.sh (.int turn)), none, some (.own true (.lst (ds.map .int))), x8]) →
        ∃ (o' : O) (cs : List Int), F__law_loss_pool [] o [.int 7, .int p, .int lost] = some (.sh (.lst (cs.map .int)), o') ∧ HandOk o' ∧ LPool cs := by
      intro o4 ds x8 ho4 q1 q2 q3 s4
      refine ⟨o4, sortI ds, ?_, ho4, sortI_sorted ds, by rw [sortI_len]; omega, fun c hc => q2 c (sortI_mem.mp hc), by rw [sortI_sum]; omega⟩
      have hso := dSort_lst ds (by omega)
      have hno2 : noLs ((sortI ds).map D.int) = true := noLs_ints _
      have s5 : (fRet (fFrz (fLend 7 okO (fLst (fArgs (d1 dSort) (fCons (fVar 7) fNil)))))) [some (.own false o4), some (.sh (.int 7)), some (.sh (.int p)), some (.sh (.int lost)), some (.sh (.int (n : Int))), some (.sh (.int turn)), none, some (.own true (.lst (ds.map .int))), x8] = some (.rt (.sh (.lst ((sortI ds).map .int))) [some (.own false o4), some (.sh (.int 7)), some (.sh (.int p)), some (.sh (.int lost)), some (.sh (.int (n : Int))), some (.sh (.int turn)), none, some (.own true (.lst (ds.map .int))), x8]) := by
        simp [-dSort, hso, okO, hno2]
      refine fnI_rt (ρ0 := [some (.own false o), some (.sh (.int 7)), some (.sh (.int p)), some (.sh (.int lost)), none, none, none, none, none]) (ρ := [some (.own false o4), some (.sh (.int 7)), some (.sh (.int p)), some (.sh (.int lost)), some (.sh (.int (n : Int))), some (.sh (.int turn)), none, some (.own true (.lst (ds.map .int))), x8]) rfl ?_ rfl ho.one ho4.one
      rw [f_loss_eq]
      rw [fSeq_nx s0, fSeq_nx s1, fSeq_nx s2, fSeq_nx s3, fSeq_nx s4, s5]
    by_cases hc : 3 < turn ∧ 0 < n
    · obtain ⟨k, o4, e4, ho4, k1, k2⟩ := draw ho3 (many := (n : Int)) (by omega) (by omega)
      obtain ⟨j, rfl⟩ : ∃ j : Nat, k = (j : Int) := ⟨k.toNat, by omega⟩
      obtain ⟨d, o5, e5, ho5, k3, k4⟩ := draw ho4 (many := 2) (by decide) (by decide)
      have hj : j < cs.length := by rw [hs.1]; omega
      have hx : cs[j]? = some cs[j] := List.getElem?_eq_getElem hj
      generalize cs[j] = x at hx
      have hx1 := hs.2.1 x (List.mem_of_getElem? hx)
      have hix : dIx (.lst (cs.map D.int)) (.int (j : Int)) = some (.int x) := by
        show L2.atI (cs.map D.int) _ = _
        rw [atI_nat', List.getElem?_map, hx]
        rfl
      refine fin o5 (cs.set j (x + 1 + d)) (some (.sh (.int (j : Int)))) ho5 (by simp; rw [hs.1]; omega) (fun c hcm => ?_) ?_ ?_
      · rcases List.mem_or_eq_of_mem_set hcm with q | q
        · exact hs.2.1 c q
        · omega
      · rw [sum_set cs j _ x hx]; omega
      · have hn0 : 0 < n := hc.2
        have ht3 := hc.1
        have hjn := ixN_nat (n := cs.length) hj
        simp [-dIx, ht3, hn0, e4, e5, hix, hjn]
    · refine fin o3 cs none ho3 (by rw [hs.1]; omega) hs.2.1 (by omega) ?_
      by_cases h3 : 3 < turn
      · have hn0 : n = 0 := by
          rcases Nat.eq_zero_or_pos n with q | q
          · exact q
          · exact absurd ⟨h3, q⟩ hc
        simp [h3, hn0]
      · simp [h3]
end K79
end

section
set_option linter.all false
set_option maxRecDepth 100000
set_option maxHeartbeats 2000000
namespace K79
open Fl PySem
theorem fCons_of {f : FE} {fs : FA} {ρ ρ' ρ'' : Fenv} {d : D} {ds : List D} (h : f ρ = some (d, ρ')) (h2 : fs ρ' = some (ds, ρ'')) : fCons f fs ρ = some (d :: ds, ρ'') := by
  simp only [fCons, h, h2, Option.bind_some]
theorem eraseIdx_perm {l : List Int} {j : Nat} {x : Int} (h : l[j]? = some x) : (x :: l.eraseIdx j).Perm l := by
  induction l generalizing j with
  | nil => simp at h
  | cons a l ih =>
    cases j with
    | zero => simp at h; subst h; simp
    | succ j =>
      simp at h ⊢
      exact (List.Perm.swap a x _).trans ((ih h).cons a)
theorem eraseIdx_map (l : List Int) (j : Nat) : (l.map D.int).eraseIdx j = (l.eraseIdx j).map D.int := by
  induction l generalizing j with
  | nil => simp
  | cons a l ih =>
    cases j with
    | zero => simp
    | succ j => simp [ih]
theorem loop_drawn (x1 x2 : Option Slot) : ∀ (n k : Nat) (left lot : List Int) (o : O) (a : Option Slot), HandOk o → lot.length ≤ k → k + n ≤ left.length + lot.length → left.length + lot.length ≤ 1000 →
    ∃ (o' : O) (left' lot' : List Int) (a' : Option Slot), forL t__law_drawn_lot_0 b__law_drawn_lot_1 (rgD k n) [some (.own false o), x1, x2, some (.own true (.lst (left.map .int))), some (.own true (.lst (lot.map .int))), a] =
      some (.nx [some (.own false o'), x1, x2, some (.own true (.lst (left'.map .int))), some (.own true (.lst (lot'.map .int))), a']) ∧ HandOk o' ∧ (lot' ++ left').Perm (lot ++ left) ∧ lot'.length ≤ k + n
  | 0, k, left, lot, o, a, ho, hk, hn, hl => ⟨o, left, lot, a, by simp [rgD, forL], ho, List.Perm.refl _, by omega⟩
  | n + 1, k, left, lot, o, a, ho, hk, hn, hl => by
    obtain ⟨d1, o1, e1, ho1, g1, g2⟩ := draw ho (many := 5) (by decide) (by decide)
    have hr : rgD k (n + 1) = .int (k : Int) :: rgD (k + 1) n := by simp [rgD, List.range'_succ]
    rw [hr]
    by_cases hd : 0 < d1
    · have hpos : 0 < left.length := by omega
      obtain ⟨d2, o2, e2, ho2, g3, g4⟩ := draw ho1 (many := (left.length : Int)) (by omega) (by omega)
      obtain ⟨j, rfl⟩ : ∃ j : Nat, d2 = (j : Int) := ⟨d2.toNat, by omega⟩
      have hj : j < left.length := by omega
      have hx : left[j]? = some left[j] := List.getElem?_eq_getElem hj
      generalize left[j] = x at hx
      have hel : (left.eraseIdx j).length = left.length - 1 := List.length_eraseIdx_of_lt hj
      obtain ⟨o', left', lot', a', e, q1, q2, q3⟩ := loop_drawn x1 x2 n (k + 1) (left.eraseIdx j) (lot ++ [x]) o2 (some (.sh (.int (k : Int)))) ho2 (by simp; omega) (by simp [hel]; omega) (by simp [hel]; omega)
      refine ⟨o', left', lot', a', ?_, q1, ?_, by omega⟩
      · rw [← e]
        have hno := noLs_ints left
        have hlm : left.length < 1000000 := by omega
        have hlm2 : lot.length < 1000000 := by omega
        have hg : (left.map D.int)[j]? = some (.int x) := by rw [List.getElem?_map, hx]; rfl
        have hem := eraseIdx_map left j
        simp [forL, t__law_drawn_lot_0, b__law_drawn_lot_1, e1, hd, hno, e2, many, hlm, hlm2, hx, hem]
      · refine q2.trans ?_
        rw [List.append_assoc]
        exact (eraseIdx_perm hx).append_left lot
    · obtain ⟨o', left', lot', a', e, q1, q2, q3⟩ := loop_drawn x1 x2 n (k + 1) left lot o1 (some (.sh (.int (k : Int)))) ho1 (by omega) (by omega) hl
      refine ⟨o', left', lot', a', ?_, q1, q2, by omega⟩
      rw [← e]
      simp [forL, t__law_drawn_lot_0, b__law_drawn_lot_1, e1, hd]
theorem m_drawn_lot {lost : Int} (h0 : 0 ≤ lost) {o : O} (ho : HandOk o) (cs : List Int) (hl : cs.length ≤ 1000) : ∃ (o' : O) (lot : List Int), F__law_drawn_lot [] o [.lst (cs.map .int), .int lost] = some (.sh (tupI lot), o') ∧ HandOk o' ∧ lot.Pairwise (· ≤ ·) ∧ Cl lot cs ∧ (lot.length : Int) ≤ lost := by
  obtain ⟨n, hn⟩ : ∃ n : Nat, (if (cs.length : Int) < lost then (cs.length : Int) else lost) = (n : Int) := ⟨(if (cs.length : Int) < lost then (cs.length : Int) else lost).toNat, by split <;> omega⟩
  have hnl : n ≤ cs.length ∧ (n : Int) ≤ lost := by split at hn <;> omega
  obtain ⟨o1, left, lot, a, e, ho1, hp, h2⟩ := loop_drawn (some (.sh (.lst (cs.map .int)))) (some (.sh (.int lost))) n 0 cs [] o none ho (by simp) (by simp; omega) (by simpa using hl)
  simp only [List.map_nil] at e
  have hp : (lot ++ left).Perm cs := by simpa using hp
  have hlen : lot.length ≤ 1000 := by have := hp.length_eq; simp at this; omega
  refine ⟨o1, sortI lot, ?_, ho1, sortI_sorted lot, fun c => ?_, by rw [sortI_len]; omega⟩
  · have h4 : dRng1 [.int (n : Int)] = some (rgD 0 n) := by rw [← rngL_rg]; exact dRng1_nat _ (by omega)
    have hso := dSort_lst lot (by omega)
    have hno2 : noLs ((sortI lot).map D.int) = true := noLs_ints _
    have hl3 : (sortI lot).length ≤ 1000000 := by rw [sortI_len]; omega
    have q0 : fArgs (d2 dMin2) (fCons (fVar 2) (fCons (fArgs (d1 dLen) (fCons (fVar 1) fNil)) fNil)) [some (.own false o), some (.sh (.lst (cs.map .int))), some (.sh (.int lost)), some (.own true (.lst (cs.map .int))), some (.own true (.lst [])), none] = some (.int (n : Int), [some (.own false o), some (.sh (.lst (cs.map .int))), some (.sh (.int lost)), some (.own true (.lst (cs.map .int))), some (.own true (.lst [])), none]) := by
      rw [← hn]
      simp
    have s0 : fSetO 3 (fLst (fArgs (d1 dItems) (fCons (fVar 1) fNil))) [some (.own false o), some (.sh (.lst (cs.map .int))), some (.sh (.int lost)), none, none, none] = some (.nx [some (.own false o), some (.sh (.lst (cs.map .int))), some (.sh (.int lost)), some (.own true (.lst (cs.map .int))), none, none]) := by simp
    have s1 : fSetO 4 (fLst (fArgs dLst fNil)) [some (.own false o), some (.sh (.lst (cs.map .int))), some (.sh (.int lost)), some (.own true (.lst (cs.map .int))), none, none] = some (.nx [some (.own false o), some (.sh (.lst (cs.map .int))), some (.sh (.int lost)), some (.own true (.lst (cs.map .int))), some (.own true (.lst [])), none]) := by simp [many]
    have s2 : fFor (fArgs dRng1 (fCons (fArgs (d2 dMin2) (fCons (fVar 2) (fCons (fArgs (d1 dLen) (fCons (fVar 1) fNil)) fNil))) fNil)) t__law_drawn_lot_0 b__law_drawn_lot_1 [some (.own false o), some (.sh (.lst (cs.map .int))), some (.sh (.int lost)), some (.own true (.lst (cs.map .int))), some (.own true (.lst [])), none] = some (.nx [some (.own false o1), some (.sh (.lst (cs.map .int))), some (.sh (.int lost)), some (.own true (.lst (left.map .int))), some (.own true (.lst (lot.map .int))), a]) := by
      have q : fArgs dRng1 (fCons (fArgs (d2 dMin2) (fCons (fVar 2) (fCons (fArgs (d1 dLen) (fCons (fVar 1) fNil)) fNil))) fNil) [some (.own false o), some (.sh (.lst (cs.map .int))), some (.sh (.int lost)), some (.own true (.lst (cs.map .int))), some (.own true (.lst [])), none] = some (rgD 0 n, [some (.own false o), some (.sh (.lst (cs.map .int))), some (.sh (.int lost)), some (.own true (.lst (cs.map .int))), some (.own true (.lst [])), none]) := by
        refine fArgs_of (ds := [.int (n : Nat)]) ?_ h4
        exact fCons_of q0 rfl
      unfold fFor
      rw [q]
      exact e
    have s3 : fRet (fArgs (d1 dTupOf) (fCons (fFrz (fLend 4 okO (fLst (fArgs (d1 dSort) (fCons (fVar 4) fNil))))) fNil)) [some (.own false o1), some (.sh (.lst (cs.map .int))), some (.sh (.int lost)), some (.own true (.lst (left.map .int))), some (.own true (.lst (lot.map .int))), a] = some (.rt (.sh (tupI (sortI lot))) [some (.own false o1), some (.sh (.lst (cs.map .int))), some (.sh (.int lost)), some (.own true (.lst (left.map .int))), some (.own true (.lst (lot.map .int))), a]) := by
      simp [-dSort, hso, okO, hno2, hl3, many, tupI]
    refine fnI_rt (ρ0 := [some (.own false o), some (.sh (.lst (cs.map .int))), some (.sh (.int lost)), none, none, none]) (ρ := [some (.own false o1), some (.sh (.lst (cs.map .int))), some (.sh (.int lost)), some (.own true (.lst (left.map .int))), some (.own true (.lst (lot.map .int))), a]) rfl ?_ rfl ho.one ho1.one
    unfold f__law_drawn_lot
    rw [fSeq_nx s0, fSeq_nx s1, fSeq_nx s2, s3]
  · rw [count_perm (sortI_perm lot)]
    have := count_perm hp c
    rw [List.count_append] at this
    omega
end K79
end

section
set_option linter.all false
set_option maxRecDepth 100000
set_option maxHeartbeats 2000000
namespace K79
open Fl PySem
theorem room_mul {p c r : Int} (hp : 2 ≤ p) (hc : c ≤ r / (p - 1) + 1) : p * (c - 1) < r + c := by
  have h := Int.ediv_mul_le r (show p - 1 ≠ 0 by omega)
  have h1 : (c - 1) * (p - 1) ≤ r / (p - 1) * (p - 1) := Int.mul_le_mul_of_nonneg_right (by omega) (by omega)
  have h2 : p * (c - 1) = (c - 1) * (p - 1) + (c - 1) := by
    rw [Int.mul_comm p, Int.mul_sub]; omega
  omega
theorem okL_snoc {p : Int} {c : Int} : ∀ {l : List Int} {r : Int}, okL p r (l ++ [c]) ↔ okL p r l ∧ 1 ≤ c ∧ c ≤ (r + l.sum) / (p - 1) + 1
  | [], r => by simp [okL]
  | d :: l, r => by
    simp only [List.cons_append, okL, okL_snoc (l := l), List.sum_cons, Int.add_assoc, and_assoc]
theorem atI_ints {l : List Int} {k : Nat} {v : Int} (h : l[k]? = some v) : L2.atI (l.map D.int) (k : Int) = some (.int v) := by
  rw [atI_nat', List.getElem?_map, h]
  rfl
def Giv : List Int → List Int → List (List Int) → List Int → List (List Int) → Prop
  | [], lacks, gs, lacks', gs' => lacks' = lacks ∧ gs' = gs
  | c :: r, lacks, gs, lacks', gs' => ∃ i l g, lacks[i]? = some l ∧ c ≤ l ∧ gs[i]? = some g ∧ Giv r (lacks.set i (l - c)) (gs.set i (g ++ [c])) lacks' gs'
def llO (gs : List (List Int)) : Option Slot := some (.own true (.ll (gs.map fun g => g.map .int)))
theorem flat_set {gs : List (List Int)} {i : Nat} {g : List Int} (h : gs[i]? = some g) (c : Int) : (gs.set i (g ++ [c])).flatten.Perm (gs.flatten ++ [c]) := by
  obtain ⟨hi, e⟩ := List.getElem?_eq_some_iff.mp h
  have e1 : gs = gs.take i ++ g :: gs.drop (i + 1) := by
    conv => lhs; rw [← List.take_append_drop i gs, List.drop_eq_getElem_cons hi, e]
  have e2 : gs.set i (g ++ [c]) = gs.take i ++ (g ++ [c]) :: gs.drop (i + 1) := by
    rw [List.set_eq_take_append_cons_drop, if_pos hi]
  rw [e2]
  conv => rhs; rw [e1]
  simp only [List.flatten_append, List.flatten_cons, List.append_assoc]
  exact List.Perm.append_left _ (List.Perm.append_left _ List.perm_append_comm)
theorem set_sum {x : List Int} {i : Nat} {l c : Int} (h : x[i]? = some l) : (x.set i (l - c)).sum = x.sum - c := by
  rw [Fl.sum_perm (set_mid (List.getElem?_eq_some_iff.mp h).1 (l - c)), Fl.sum_perm (self_mid h), List.sum_cons, List.sum_cons]
  omega
structure Gvn (r lacks : List Int) (gs : List (List Int)) (lacks' : List Int) (gs' : List (List Int)) : Prop where
  l1 : lacks'.length = lacks.length
  l2 : gs'.length = gs.length
  nn : ∀ l ∈ lacks', 0 ≤ l
  sm : lacks'.sum = lacks.sum - r.sum
  ea : ∀ (i : Nat) (l : Int) (g : List Int), lacks'[i]? = some l → gs'[i]? = some g → ∃ l0 g0, lacks[i]? = some l0 ∧ gs[i]? = some g0 ∧ l + g.sum = l0 + g0.sum
  fl : gs'.flatten.Perm (gs.flatten ++ r)
  so : ∀ g ∈ gs', g.Pairwise (fun a b => b ≤ a)
  le : ∀ g ∈ gs', g.length ≤ gs.flatten.length + r.length
theorem Giv.props : ∀ {r lacks : List Int} {gs : List (List Int)} {lacks' : List Int} {gs' : List (List Int)}, Giv r lacks gs lacks' gs' → (∀ l ∈ lacks, 0 ≤ l) → r.Pairwise (fun a b => b ≤ a) → (∀ g ∈ gs, g.Pairwise (fun a b => b ≤ a) ∧ ∀ x ∈ g, ∀ d ∈ r, d ≤ x) → Gvn r lacks gs lacks' gs'
  | [], lacks, gs, _, _, ⟨rfl, rfl⟩, h1, h2, h3 => by
    refine ⟨rfl, rfl, h1, by simp, fun i l g a b => ⟨l, g, a, b, rfl⟩, by simp, fun g hg => (h3 g hg).1, fun g hg => ?_⟩
    have : g.length ≤ gs.flatten.length := (List.sublist_flatten_of_mem hg).length_le
    simpa using this
  | c :: r, lacks, gs, lacks', gs', ⟨i, l, g, e1, e2, e3, G⟩, h1, h2, h3 => by
    obtain ⟨h21, h22⟩ := List.pairwise_cons.mp h2
    have hi1 := (List.getElem?_eq_some_iff.mp e1).1
    have hi2 := (List.getElem?_eq_some_iff.mp e3).1
    have P := Giv.props G (fun x hx => by
      rcases List.mem_or_eq_of_mem_set hx with hx | rfl
      · exact h1 x hx
      · omega) h22 (fun x hx => by
      rcases List.mem_or_eq_of_mem_set hx with hx | rfl
      · exact ⟨(h3 x hx).1, fun y hy d hd => (h3 x hx).2 y hy d (by simp [hd])⟩
      · obtain ⟨q1, q2⟩ := h3 g (List.mem_of_getElem? e3)
        refine ⟨List.pairwise_append.mpr ⟨q1, by simp, fun a ha b hb => ?_⟩, fun y hy d hd => ?_⟩
        · simp only [List.mem_singleton] at hb
          subst hb
          exact q2 a ha b (by simp)
        · rcases List.mem_append.mp hy with hy | hy
          · exact q2 y hy d (by simp [hd])
          · simp only [List.mem_singleton] at hy
            subst hy
            exact h21 d hd)
    have fl := P.fl
    have le := P.le
    have fs := flat_set e3 c
    refine ⟨by simpa using P.l1, by simpa using P.l2, P.nn, ?_, fun k m q a b => ?_, ?_, P.so, fun x hx => ?_⟩
    · rw [P.sm, set_sum e1, List.sum_cons]; omega
    · obtain ⟨l0, g0, b1, b2, b3⟩ := P.ea k m q a b
      by_cases hk : k = i
      · subst hk
        rw [List.getElem?_set_self hi1] at b1
        rw [List.getElem?_set_self hi2] at b2
        cases b1
        cases b2
        refine ⟨l, g, e1, e3, ?_⟩
        rw [b3, List.sum_append]
        simp
        omega
      · rw [List.getElem?_set_ne (by omega)] at b1
        rw [List.getElem?_set_ne (by omega)] at b2
        exact ⟨l0, g0, b1, b2, b3⟩
    · refine fl.trans ?_
      refine (fs.append_right r).trans ?_
      rw [List.append_assoc]
      exact List.Perm.refl _
    · have := le x hx
      have := fs.length_eq
      simp only [List.length_append, List.length_cons, List.length_nil] at *
      omega
theorem all_zero : ∀ {l : List Int}, (∀ x ∈ l, 0 ≤ x) → l.sum = 0 → ∀ x ∈ l, x = 0
  | [], _, _, x, hx => by simp at hx
  | a :: l, h, hs, x, hx => by
    have h1 := h a (by simp)
    have h2 : ∀ (m : List Int), (∀ x ∈ m, 0 ≤ x) → 0 ≤ m.sum := by
      intro m
      induction m with
      | nil => simp
      | cons b m ih =>
        intro q
        have := ih fun x hx => q x (by simp [hx])
        have := q b (by simp)
        rw [List.sum_cons]; omega
    have h3 := h2 l fun x hx => h x (by simp [hx])
    rw [List.sum_cons] at hs
    rcases List.mem_cons.mp hx with rfl | hx
    · omega
    · exact all_zero (fun x hx => h x (by simp [hx])) (by omega) x hx
/-! ### the greatest lack -/
theorem foldl_max : ∀ (l : List Int) (x : Int), x ≤ l.foldl (fun a b => if b > a then b else a) x ∧ (∀ y ∈ l, y ≤ l.foldl (fun a b => if b > a then b else a) x) ∧ (l.foldl (fun a b => if b > a then b else a) x = x ∨ l.foldl (fun a b => if b > a then b else a) x ∈ l)
  | [], x => ⟨Int.le_refl _, by simp, .inl rfl⟩
  | y :: l, x => by
    obtain ⟨h1, h2, h3⟩ := foldl_max l (if y > x then y else x)
    rw [List.foldl_cons]
    generalize l.foldl (fun a b => if b > a then b else a) (if y > x then y else x) = m at h1 h2 h3 ⊢
    refine ⟨by split at h1 <;> omega, fun z hz => ?_, ?_⟩
    · rcases List.mem_cons.mp hz with rfl | hz
      · split at h1 <;> omega
      · exact h2 z hz
    · rcases h3 with h3 | h3
      · split at h3
        · exact .inr (by rw [h3]; simp)
        · exact .inl h3
      · exact .inr (by simp [h3])
theorem maxI_mem {l : List Int} (h : l ≠ []) : maxI l ∈ l ∧ ∀ y ∈ l, y ≤ maxI l := by
  cases l with
  | nil => exact absurd rfl h
  | cons x l =>
    obtain ⟨h1, h2, h3⟩ := foldl_max l x
    show l.foldl _ x ∈ _ ∧ ∀ y ∈ _, y ≤ l.foldl _ x
    refine ⟨?_, fun y hy => ?_⟩
    · rcases h3 with h3 | h3
      · rw [h3]; simp
      · exact List.mem_cons_of_mem _ h3
    · rcases List.mem_cons.mp hy with rfl | hy
      · exact h1
      · exact h2 y hy
theorem idx_max {l : List Int} (h : l ≠ []) : ∃ i : Nat, l.idxOf (maxI l) = i ∧ l[i]? = some (maxI l) := by
  have hm := (maxI_mem h).1
  have hi : l.idxOf (maxI l) < l.length := List.idxOf_lt_length_of_mem hm
  refine ⟨_, rfl, ?_⟩
  rw [List.getElem?_eq_getElem hi, List.getElem_idxOf]
theorem m_first_lacking (c : Int) {l : List Int} (h : l ≠ []) : F_first_lacking [.int c, .tp (l.map .int)] = some (.sh (.int (l.idxOf (maxI l) : Nat))) := by
  have hm := (maxI_mem h).1
  have hl : l.length ≠ 0 := fun z => h (List.eq_nil_of_length_eq_zero z)
  simp [F_first_lacking, f_first_lacking, hm, hl, h]
theorem m_may_take {i : Nat} {c m : Int} {l : List Int} (h : l[i]? = some m) (hc : c ≤ m) : F_may_take [.int (i : Int), .int c, .lst (l.map .int)] = some (.sh (.bl true)) := by
  have hi := (List.getElem?_eq_some_iff.mp h).1
  have h1 := atI_ints h
  simp [F_may_take, f_may_take, isB, okN, hi, h1, hc]
theorem hand_step (x0 x1 x3 x4 x7 x11 : Option Slot) (k i : Nat) (d : Int) (ls : List Int) (gs : List (List Int)) (g : List Int) (cc : Option Slot) (h5 : ls.length ≤ 5) (hne : ls ≠ []) (hi : ls.idxOf (maxI ls) = i) (hl : ls[i]? = some (maxI ls)) (hd : d ≤ maxI ls) (hg : gs[i]? = some g) (hgl : g.length ≤ 1000) :
    b_hand_out_2 [x0, x1, some (.sh (.fn 0)), x3, x4, some (.own true (.lst (ls.map .int))), llO gs, x7, some (.sh (.int (k : Int))), some (.sh (.int d)), cc, x11] = some (.nx [x0, x1, some (.sh (.fn 0)), x3, x4, some (.own true (.lst ((ls.set i (maxI ls - d)).map .int))), llO (gs.set i (g ++ [d])), x7, some (.sh (.int (k : Int))), some (.sh (.int d)), some (.sh (.int (i : Int))), x11]) := by
  have hil := (List.getElem?_eq_some_iff.mp hl).1
  have hig := (List.getElem?_eq_some_iff.mp hg).1
  have e1 := m_first_lacking d hne
  rw [hi] at e1
  have e2 := m_may_take hl hd
  have hno : noLs (ls.map D.int) = true := noLs_ints ls
  have q1 : dMaxL (.lst (ls.map D.int)) = some (.int (maxI ls)) := by
    have : ls.length ≠ 0 := by omega
    simp [this, hne]
  have q2 : dTupF (.lst (ls.map D.int)) = some (.tp (ls.map .int)) := by
    have : ls.length ≤ 1000000 := by omega
    simp [many, this]
  have q3 : ¬ maxI ls < d := by omega
  have i1 := atI_ints hl
  have i2 : L2.ixN ls.length (i : Int) = some i := ixN_nat hil
  have i3 : L2.ixN gs.length (i : Int) = some i := ixN_nat hig
  have i4 : g.length < 1000000 := by omega
  have s0 : (fIfS (fTest (fBin dLt (fLend 5 noL (fArgs (d1 dMaxL) (fCons (fVar 5) fNil))) (fVar 9))) (fRet (fArgs (dMake 0 2) (fCons (fVar 9) (fCons (fLend 5 noL (fArgs (d1 dTupF) (fCons (fVar 5) fNil))) fNil)))) fSkip) [x0, x1, some (.sh (.fn 0)), x3, x4, some (.own true (.lst (ls.map .int))), llO gs, x7, some (.sh (.int (k : Int))), some (.sh (.int d)), cc, x11] = some (.nx [x0, x1, some (.sh (.fn 0)), x3, x4, some (.own true (.lst (ls.map .int))), llO gs, x7, some (.sh (.int (k : Int))), some (.sh (.int d)), cc, x11]) := by
    simp [-dMaxL, -dTupF, hno, q1, q3]
  have s1 : (fSet 10 (fCallV 2 (fun i => if i = 0 then some F_first_lacking else none) (fCons (fVar 9) (fCons (fLend 5 noL (fArgs (d1 dTupF) (fCons (fVar 5) fNil))) fNil)))) [x0, x1, some (.sh (.fn 0)), x3, x4, some (.own true (.lst (ls.map .int))), llO gs, x7, some (.sh (.int (k : Int))), some (.sh (.int d)), cc, x11] = some (.nx [x0, x1, some (.sh (.fn 0)), x3, x4, some (.own true (.lst (ls.map .int))), llO gs, x7, some (.sh (.int (k : Int))), some (.sh (.int d)), some (.sh (.int (i : Int))), x11]) := by
    simp [-dTupF, hno, q2, e1, noL]
  have s2 : (fIfS (fNot (fUn dTruth (fLend 5 noL (fCall F_may_take [] (fCons (fVar 10) (fCons (fVar 9) (fCons (fVar 5) fNil))))))) fStuck fSkip) [x0, x1, some (.sh (.fn 0)), x3, x4, some (.own true (.lst (ls.map .int))), llO gs, x7, some (.sh (.int (k : Int))), some (.sh (.int d)), some (.sh (.int (i : Int))), x11] = some (.nx [x0, x1, some (.sh (.fn 0)), x3, x4, some (.own true (.lst (ls.map .int))), llO gs, x7, some (.sh (.int (k : Int))), some (.sh (.int d)), some (.sh (.int (i : Int))), x11]) := by
    simp [hno, e2]
  have s3 : (fAugI 5 (dI fun i j => i - j) (fVar 10) (fVar 9)) [x0, x1, some (.sh (.fn 0)), x3, x4, some (.own true (.lst (ls.map .int))), llO gs, x7, some (.sh (.int (k : Int))), some (.sh (.int d)), some (.sh (.int (i : Int))), x11] = some (.nx [x0, x1, some (.sh (.fn 0)), x3, x4, some (.own true (.lst ((ls.set i (maxI ls - d)).map .int))), llO gs, x7, some (.sh (.int (k : Int))), some (.sh (.int d)), some (.sh (.int (i : Int))), x11]) := by
    simp [isOwnL, i1, i2, List.map_set]
  have s4 : (fAppL 6 (fVar 10) (fVar 9)) [x0, x1, some (.sh (.fn 0)), x3, x4, some (.own true (.lst ((ls.set i (maxI ls - d)).map .int))), llO gs, x7, some (.sh (.int (k : Int))), some (.sh (.int d)), some (.sh (.int (i : Int))), x11] = some (.nx [x0, x1, some (.sh (.fn 0)), x3, x4, some (.own true (.lst ((ls.set i (maxI ls - d)).map .int))), llO (gs.set i (g ++ [d])), x7, some (.sh (.int (k : Int))), some (.sh (.int d)), some (.sh (.int (i : Int))), x11]) := by
    simp [llO, i3, hg, many, i4, List.map_set]
  unfold b_hand_out_2
  rw [fSeq_nx s0, fSeq_nx s1, fSeq_nx s2, fSeq_nx s3, s4]
end K79
end

section
set_option linter.all false
set_option maxRecDepth 100000
set_option maxHeartbeats 2000000
namespace K79
open Fl PySem
theorem loop_hand (x0 x1 x3 x4 x7 x11 : Option Slot) {p : Nat} (hp : 2 ≤ p) (hp5 : p ≤ 5) : ∀ (r : List Int) (k : Nat) (ls : List Int) (gs : List (List Int)) (a b c : Option Slot), okL p 0 r.reverse → ls.length = p → ls.sum = r.sum → gs.length = p → (∀ g ∈ gs, g.length + r.length ≤ 1000) →
    ∃ (ls' : List Int) (gs' : List (List Int)) (a' b' c' : Option Slot), forL t_hand_out_1 b_hand_out_2 (enumL k (r.map D.int)) [x0, x1, some (.sh (.fn 0)), x3, x4, some (.own true (.lst (ls.map .int))), llO gs, x7, a, b, c, x11] = some (.nx [x0, x1, some (.sh (.fn 0)), x3, x4, some (.own true (.lst (ls'.map .int))), llO gs', x7, a', b', c', x11]) ∧ Giv r ls gs ls' gs'
  | [], k, ls, gs, a, b, c, _, _, _, _, _ => ⟨ls, gs, a, b, c, by simp [enumL, forL], rfl, rfl⟩
  | d :: r, k, ls, gs, a, b, c, hok, hl, hs, hgl, h1000 => by
    rw [List.reverse_cons, okL_snoc] at hok
    obtain ⟨hok1, _, hroom⟩ := hok
    rw [Int.zero_add, sum_reverse'] at hroom
    have hne : ls ≠ [] := fun z => by rw [z] at hl; simp at hl; omega
    obtain ⟨i, hi, hli⟩ := idx_max hne
    have hd : d ≤ maxI ls := by
      have h1 := sum_le_mul (maxI ls) ls (maxI_mem hne).2
      have h2 := room_mul (p := (p : Int)) (by omega) hroom
      rw [hl, hs, List.sum_cons] at h1
      rcases Int.lt_or_le (maxI ls) d with q | q
      · have : (p : Int) * maxI ls ≤ p * (d - 1) := Int.mul_le_mul_of_nonneg_left (by omega) (by omega)
        omega
      · exact q
    have hil := (List.getElem?_eq_some_iff.mp hli).1
    obtain ⟨g, hg⟩ : ∃ g, gs[i]? = some g := ⟨_, List.getElem?_eq_getElem (by omega)⟩
    have hgg := h1000 g (List.mem_of_getElem? hg)
    simp at hgg
    have es := hand_step x0 x1 x3 x4 x7 x11 k i d ls gs g c (by omega) hne hi hli hd hg (by omega)
    obtain ⟨ls', gs', a', b', c', e, G⟩ := loop_hand x0 x1 x3 x4 x7 x11 hp hp5 r (k + 1) (ls.set i (maxI ls - d)) (gs.set i (g ++ [d])) (some (.sh (.int (k : Int)))) (some (.sh (.int d))) (some (.sh (.int (i : Int)))) hok1 (by simpa using hl) (by rw [set_sum hli, hs, List.sum_cons]; omega) (by simpa using hgl) (fun q hq => by
      rcases List.mem_or_eq_of_mem_set hq with hq | rfl
      · have := h1000 q hq; simp at this; omega
      · simp; omega)
    refine ⟨ls', gs', a', b', c', ?_, i, maxI ls, g, hli, hd, hg, G⟩
    rw [← e]
    have et : t_hand_out_1 (.tup [.int (k : Int), .int d]) [x0, x1, some (.sh (.fn 0)), x3, x4, some (.own true (.lst (ls.map .int))), llO gs, x7, a, b, c, x11] = some [x0, x1, some (.sh (.fn 0)), x3, x4, some (.own true (.lst (ls.map .int))), llO gs, x7, some (.sh (.int (k : Int))), some (.sh (.int d)), c, x11] := by simp [t_hand_out_1]
    rw [List.map_cons, enumL]
    show ((t_hand_out_1 (.tup [.int (k : Int), .int d]) [x0, x1, some (.sh (.fn 0)), x3, x4, some (.own true (.lst (ls.map .int))), llO gs, x7, a, b, c, x11]).bind fun ρ1 => (b_hand_out_2 ρ1).bind _) = _
    rw [et, Option.bind_some, es, Option.bind_some]
theorem loop_pursesG (x0 x1 x2 x3 x4 x5 x6 x7 x8 x9 x10 : Option Slot) : ∀ (gs : List (List Int)), (∀ g ∈ gs, g.length ≤ 1000) →
    lcL t_hand_out_3 c_hand_out_4 e_hand_out_5 [11] (gs.map fun g => .lst (g.map .int)) [x0, x1, x2, x3, x4, x5, x6, x7, x8, x9, x10, none] = some (gs.map fun g => tupI g.reverse, [x0, x1, x2, x3, x4, x5, x6, x7, x8, x9, x10, none])
  | [], _ => by simp [lcL]
  | g :: gs, h => by
    have e := loop_pursesG x0 x1 x2 x3 x4 x5 x6 x7 x8 x9 x10 gs fun g hg => h g (by simp [hg])
    have hg : g.length ≤ 1000000 := by have := h g (by simp); omega
    simp [t_hand_out_3, c_hand_out_4, e_hand_out_5] at e
    simp [lcL, noOwn, noOwn1, wipeF, backF, t_hand_out_3, c_hand_out_4, e_hand_out_5, e, many, hg, tupI]
theorem m_hand_out (d e : D) {p : Nat} (hp : 2 ≤ p) (hp5 : p ≤ 5) (ns ws : List Int) (hd : dSeq d = some (ns.map .int)) (ok : okCoins ns) (hgood : okL p 0 (sortI ns)) (he : e = .lst (ws.map .int) ∨ e = .tup (ws.map .int)) (okw : okWish ws) (hwp : ws.length = p) (hs : ws.sum = ns.sum) :
    ∃ gs : List (List Int), F_hand_out [d, e, .fn 0] = some (.sh (.tup (gs.map tupI))) ∧ gs.length = ws.length ∧ (∀ (i : Nat) (g : List Int), gs[i]? = some g → ws[i]? = some g.sum) ∧ (∀ g ∈ gs, g.Pairwise (· ≤ ·)) ∧ gs.flatten.Perm ns := by
  have h1 := m_checked_couple d e ns ws hd ok he okw hs
  obtain ⟨lacks', gs', a', b', c', e6, G⟩ := loop_hand (some (.sh d)) (some (.sh e)) (some (.sh (tupI (sortI ns)))) (some (.sh (tupI ws))) none none hp hp5 (sortI ns).reverse 0 ws (ws.map fun _ => []) none none none (by rw [List.reverse_reverse]; exact hgood) hwp (by rw [sum_reverse', sortI_sum]; exact hs) (by simpa using hwp) (fun g hg => by
    obtain ⟨_, _, rfl⟩ := List.mem_map.mp hg
    have := ok.1
    simp [sortI_len]; omega)
  have hf0 : (ws.map fun _ => ([] : List Int)).flatten = [] := by
    induction ws with
    | nil => rfl
    | cons a l ih => simp
  have P := Giv.props G (fun l hl => (okw.all l hl).1) (by rw [List.pairwise_reverse]; exact sortI_sorted ns) (fun g hg => by
    obtain ⟨_, _, rfl⟩ := List.mem_map.mp hg
    simp)
  have hlen : ∀ g ∈ gs', g.length ≤ 1000 := fun g hg => by
    have := P.le g hg
    rw [hf0] at this
    have := ok.1
    simp [sortI_len] at *; omega
  have e7 := loop_pursesG (some (.sh d)) (some (.sh e)) (some (.sh (.fn 0))) (some (.sh (tupI (sortI ns)))) (some (.sh (tupI ws))) (some (.own true (.lst (lacks'.map .int)))) (some (.sh (.lst (gs'.map fun g => .lst (g.map .int))))) none a' b' c' gs' hlen
  have hz := all_zero P.nn (by rw [P.sm, sum_reverse', sortI_sum, hs]; omega)
  refine ⟨gs'.map List.reverse, ?_, ?_, ?_, ?_, ?_⟩
  · have s1 : (fTo (gTp 2 (gCn (gNm 3) (gCn (gNm 4) gNl))) (fCall F_checked_couple [] (fCons (fVar 0) (fCons (fVar 1) fNil)))) [some (.sh d), some (.sh e), some (.sh (.fn 0)), none, none, none, none, none, none, none, none, none] = some (.nx [some (.sh d), some (.sh e), some (.sh (.fn 0)), some (.sh (tupI (sortI ns))), some (.sh (tupI ws)), none, none, none, none, none, none, none]) := by simp [h1]
    have s4 : (fSetO 5 (fLst (fArgs (d1 dItems) (fCons (fVar 4) fNil)))) [some (.sh d), some (.sh e), some (.sh (.fn 0)), some (.sh (tupI (sortI ns))), some (.sh (tupI ws)), none, none, none, none, none, none, none] = some (.nx [some (.sh d), some (.sh e), some (.sh (.fn 0)), some (.sh (tupI (sortI ns))), some (.sh (tupI ws)), some (.own true (.lst (ws.map .int))), none, none, none, none, none, none]) := by
      have hw : ws.length ≤ 1000000 := by omega
      simp [tupI, many, hw]
    have s5 : (fSetO 6 (fLc0 (fUn dSeq (fVar 4)) t_hand_out_0 [7])) [some (.sh d), some (.sh e), some (.sh (.fn 0)), some (.sh (tupI (sortI ns))), some (.sh (tupI ws)), some (.own true (.lst (ws.map .int))), none, none, none, none, none, none] = some (.nx [some (.sh d), some (.sh e), some (.sh (.fn 0)), some (.sh (tupI (sortI ns))), some (.sh (tupI ws)), some (.own true (.lst (ws.map .int))), llO (ws.map fun _ => []), none, none, none, none, none]) := by
      have hw : ws.length < 1000000 := by omega
      simp [tupI, many, noOwn, noOwn1, wipeF, t_hand_out_0, llO, hw]
    have s6 : (fFor (fArgs dEnum (fCons (fUn dRevT (fVar 3)) fNil)) t_hand_out_1 b_hand_out_2) [some (.sh d), some (.sh e), some (.sh (.fn 0)), some (.sh (tupI (sortI ns))), some (.sh (tupI ws)), some (.own true (.lst (ws.map .int))), llO (ws.map fun _ => []), none, none, none, none, none] = some (.nx [some (.sh d), some (.sh e), some (.sh (.fn 0)), some (.sh (tupI (sortI ns))), some (.sh (tupI ws)), some (.own true (.lst (lacks'.map .int))), llO gs', none, a', b', c', none]) := by
      have q1 : (fArgs dEnum (fCons (fUn dRevT (fVar 3)) fNil)) [some (.sh d), some (.sh e), some (.sh (.fn 0)), some (.sh (tupI (sortI ns))), some (.sh (tupI ws)), some (.own true (.lst (ws.map .int))), llO (ws.map fun _ => []), none, none, none, none, none] = some (enumL 0 ((sortI ns).reverse.map D.int), [some (.sh d), some (.sh e), some (.sh (.fn 0)), some (.sh (tupI (sortI ns))), some (.sh (tupI ws)), some (.own true (.lst (ws.map .int))), llO (ws.map fun _ => []), none, none, none, none, none]) := by
        have hw : ns.length ≤ 1000000 := by have := ok.1; omega
        simp [tupI, many, sortI_len, hw]
      unfold fFor
      rw [q1]
      exact e6
    show outD 12 (f_hand_out [some (.sh d), some (.sh e), some (.sh (.fn 0)), none, none, none, none, none, none, none, none, none]) = _
    unfold f_hand_out
    rw [fSeq_nx s1, fSeq_nx s4, fSeq_nx s5, fSeq_nx s6]
    have hgl : gs'.length < 1000000 := by rw [P.l2]; simp; omega
    have nl := noLs_tups (gs'.map List.reverse)
    have e8 : (fRet (fLend 6 noL (fArgs (d1 dTupOf) (fCons (fFrz (fLst (fLc (fUn dSeq (fVar 6)) t_hand_out_3 c_hand_out_4 e_hand_out_5 [11]))) fNil)))) [some (.sh d), some (.sh e), some (.sh (.fn 0)), some (.sh (tupI (sortI ns))), some (.sh (tupI ws)), some (.own true (.lst (lacks'.map .int))), llO gs', none, a', b', c', none] = some (.rt (.sh (.tup (gs'.map fun g => tupI g.reverse))) [some (.sh d), some (.sh e), some (.sh (.fn 0)), some (.sh (tupI (sortI ns))), some (.sh (tupI ws)), some (.own true (.lst (lacks'.map .int))), llO gs', none, a', b', c', none]) := by
      have hgl2 : gs'.length ≤ 1000000 := by omega
      rw [List.map_map] at nl
      simp only [Function.comp_def] at nl
      simp [llO, Function.comp_def, many, hgl, hgl2, e7, nl]
    rw [e8]
    simp [Function.comp_def]
  · rw [List.length_map, P.l2, List.length_map]
  · intro i g hg
    rw [List.getElem?_map] at hg
    obtain ⟨g0, e0, rfl⟩ := Option.map_eq_some_iff.mp hg
    have hi := (List.getElem?_eq_some_iff.mp e0).1
    obtain ⟨l, hl⟩ : ∃ l, lacks'[i]? = some l := ⟨_, List.getElem?_eq_getElem (by rw [P.l1, ← (show gs'.length = ws.length by rw [P.l2, List.length_map])]; exact hi)⟩
    obtain ⟨l0, q0, b1, b2, b3⟩ := P.ea i l g0 hl e0
    have hl0 := hz l (List.mem_of_getElem? hl)
    rw [List.getElem?_map, b1] at b2
    cases b2
    rw [b1, sum_reverse']
    simp at b3
    congr 1
    omega
  · intro g hg
    obtain ⟨g0, h0, rfl⟩ := List.mem_map.mp hg
    rw [List.pairwise_reverse]
    exact P.so g0 h0
  · have q1 : (gs'.map List.reverse).flatten.Perm gs'.flatten := by
      clear e6 e7 G P hlen hz
      induction gs' with
      | nil => exact List.Perm.refl _
      | cons a l ih => simp only [List.map_cons, List.flatten_cons]; exact (List.reverse_perm a).append ih
    have q2 := P.fl
    rw [hf0, List.nil_append] at q2
    exact q1.trans (q2.trans ((List.reverse_perm _).trans (sortI_perm ns)))
theorem m_greatest_first (d e : D) {p : Nat} (hp : 2 ≤ p) (hp5 : p ≤ 5) (ns ws : List Int) (hd : dSeq d = some (ns.map .int)) (ok : okCoins ns) (hgood : okL p 0 (sortI ns)) (he : e = .lst (ws.map .int) ∨ e = .tup (ws.map .int)) (okw : okWish ws) (hwp : ws.length = p) (hs : ws.sum = ns.sum) :
    ∃ gs : List (List Int), F_greatest_first [d, e] = some (.sh (.tup (gs.map tupI))) ∧ gs.length = ws.length ∧ (∀ (i : Nat) (g : List Int), gs[i]? = some g → ws[i]? = some g.sum) ∧ (∀ g ∈ gs, g.Pairwise (· ≤ ·)) ∧ gs.flatten.Perm ns := by
  obtain ⟨gs, h1, h2⟩ := m_hand_out d e hp hp5 ns ws hd ok hgood he okw hwp hs
  refine ⟨gs, ?_, h2⟩
  simp [F_greatest_first, f_greatest_first, h1]
end K79
end

section
set_option linter.all false
set_option maxRecDepth 100000
set_option maxHeartbeats 2000000
namespace K79
open Fl PySem
theorem all_trues {α : Type} (l : List α) : dAll (.lst (l.map fun _ => D.bl true)) = some (.bl true) := by
  have : asB (l.map fun _ => D.bl true) = some (l.map fun _ => true) := by
    induction l with
    | nil => rfl
    | cons a l ih => simp [asB, ih]
  show (asB _).map _ = _
  rw [this]
  simp
theorem loop_coinsL (x0 : Option Slot) : ∀ (l : List Int), (∀ x ∈ l, 1 ≤ x) → lcL t__law_lot_like_0 c__law_lot_like_1 e__law_lot_like_2 [1] (l.map D.int) [x0, none] = some (l.map (fun _ => .bl true), [x0, none])
  | [], _ => by simp [lcL]
  | a :: l, h => by
    have e := loop_coinsL x0 l fun x hx => h x (by simp [hx])
    have ha : 0 < a := by have := h a (by simp); omega
    simp [t__law_lot_like_0, c__law_lot_like_1, e__law_lot_like_2] at e
    simp [lcL, noOwn, noOwn1, wipeF, backF, t__law_lot_like_0, c__law_lot_like_1, e__law_lot_like_2, m_whole, ha, e]
theorem m_lot_like (l : List Int) (hs : l.Pairwise (· ≤ ·)) (h1 : ∀ x ∈ l, 1 ≤ x) (hl : l.length ≤ 1000) : F__law_lot_like [tupI l] = some (.sh (.bl true)) := by
  have e := loop_coinsL (some (.sh (tupI l))) l h1
  have hd := dSort_tup l (by omega)
  rw [sortI_id hs] at hd
  have hd : dSort (tupI l) = some (l.map D.int) := hd
  have hi : dItems (tupI l) = some (l.map D.int) := by
    have : l.length ≤ 1000000 := by omega
    simp [tupI, many, this]
  have ha := all_trues l
  have f1 : fits 7 (l.map D.int) = true := fits_ints 7 l
  have hq : dEq (.lst (l.map D.int)) (.lst (l.map D.int)) = some (.bl true) := by
    simp [f1, eqDs_ints]
  have hsq : dSeq (tupI l) = some (l.map D.int) := rfl
  have hit : dIsi "tuple" (tupI l) = some (.bl true) := rfl
  have hm : l.length < 1000000 := by omega
  generalize tupI l = tl at *
  simp [-dSort, -dItems, -dAll, -dEq, -dSeq, -dIsi, F__law_lot_like, f__law_lot_like, hit, hsq, many, hm, e, ha, hi, hd, hq]
theorem loop_likes (x0 x1 : Option Slot) : ∀ gs : List (List Int), (∀ g ∈ gs, g.Pairwise (· ≤ ·)) → (∀ g ∈ gs, ∀ x ∈ g, 1 ≤ x) → (∀ g ∈ gs, g.length ≤ 1000) →
    lcL t__law_split_like_0 c__law_split_like_1 e__law_split_like_2 [2] (gs.map tupI) [x0, x1, none] = some (gs.map (fun _ => .bl true), [x0, x1, none])
  | [], _, _, _ => by simp [lcL]
  | g :: gs, h1, h2, h3 => by
    have e := loop_likes x0 x1 gs (fun g hg => h1 g (by simp [hg])) (fun g hg => h2 g (by simp [hg])) (fun g hg => h3 g (by simp [hg]))
    have q := m_lot_like g (h1 g (by simp)) (h2 g (by simp)) (h3 g (by simp))
    simp [t__law_split_like_0, c__law_split_like_1, e__law_split_like_2] at e
    simp [lcL, noOwn, noOwn1, wipeF, backF, t__law_split_like_0, c__law_split_like_1, e__law_split_like_2, q, e]
theorem m_split_like (gs : List (List Int)) (n : Nat) (hn : gs.length = n) (hn5 : n ≤ 100) (h1 : ∀ g ∈ gs, g.Pairwise (· ≤ ·)) (h2 : ∀ g ∈ gs, ∀ x ∈ g, 1 ≤ x) (h3 : ∀ g ∈ gs, g.length ≤ 1000) : F__law_split_like [.tup (gs.map tupI), .int (n : Int)] = some (.sh (.bl true)) := by
  have e := loop_likes (some (.sh (.tup (gs.map tupI)))) (some (.sh (.int (n : Int)))) gs h1 h2 h3
  have ha := all_trues gs
  have hm : gs.length < 1000000 := by omega
  have hl : dLen (.tup (gs.map tupI)) = some (.int (n : Int)) := by simp [hn]
  have hsq : dSeq (.tup (gs.map tupI)) = some (gs.map tupI) := rfl
  have hit : dIsi "tuple" (.tup (gs.map tupI)) = some (.bl true) := rfl
  generalize D.tup (gs.map tupI) = tl at *
  simp [-dLen, -dAll, -dSeq, -dIsi, F__law_split_like, f__law_split_like, hit, hl, hsq, many, hm, e, ha]
theorem loop_held (x0 x1 x2 : Option Slot) : ∀ (gs : List (List Int)) (acc : List Int) (a : Option Slot), noOwn1 (some a) = true → acc.length + gs.flatten.length ≤ 1000 →
    ∃ a', noOwn1 (some a') = true ∧ forL t__law_is_split_0 b__law_is_split_1 (gs.map tupI) [x0, x1, x2, some (.sh (.lst (acc.map .int))), a] = some (.nx [x0, x1, x2, some (.sh (.lst ((acc ++ gs.flatten).map .int))), a'])
  | [], acc, a, hn, _ => ⟨a, hn, by simp [forL]⟩
  | g :: gs, acc, a, hn, h => by
    rw [List.flatten_cons] at h ⊢
    simp at h
    obtain ⟨a', ha', e⟩ := loop_held x0 x1 x2 gs (acc ++ g) (some (.sh (tupI g))) rfl (by simp; omega)
    refine ⟨a', ha', ?_⟩
    rw [← List.append_assoc, List.map_cons, ← e]
    have i4 : dItems (tupI g) = some (g.map .int) := by
      have : g.length ≤ 1000000 := by omega
      simp [tupI, many, this]
    have i5 : acc.length + g.length ≤ 1000000 := by omega
    simp [-dItems, forL, t__law_is_split_0, b__law_is_split_1, i4, many, i5]
theorem loop_sumsG (x0 x1 x2 x3 a : Option Slot) (ha : noOwn1 (some a) = true) : ∀ (gs : List (List Int)), lcL t__law_is_split_0 c__law_is_split_2 e__law_is_split_3 [4] (gs.map tupI) [x0, x1, x2, x3, a] = some ((gs.map List.sum).map .int, [x0, x1, x2, x3, a])
  | [] => by simp [lcL]
  | g :: gs => by
    have e := loop_sumsG x0 x1 x2 x3 a ha gs
    have q : dSum (tupI g) = some (.int g.sum) := by simp [tupI]
    simp [-dSum, t__law_is_split_0, c__law_is_split_2, e__law_is_split_3] at e
    simp [-dSum, lcL, noOwn, ha, wipeF, backF, t__law_is_split_0, c__law_is_split_2, e__law_is_split_3, q, e]
theorem sums_eq {gs : List (List Int)} {ws : List Int} (hlen : gs.length = ws.length) (hsum : ∀ (i : Nat) (g : List Int), gs[i]? = some g → ws[i]? = some g.sum) : gs.map List.sum = ws := by
  apply List.ext_getElem?
  intro i
  rw [List.getElem?_map]
  cases e : gs[i]? with
  | none =>
    have := List.getElem?_eq_none_iff.mp e
    rw [List.getElem?_eq_none (by omega)]
    rfl
  | some g => rw [hsum i g e]; rfl
/-- told coins as a tuple, in order -/
theorem m_is_split (gs : List (List Int)) (ns ws : List Int) (hlen : gs.length = ws.length) (hsum : ∀ (i : Nat) (g : List Int), gs[i]? = some g → ws[i]? = some g.sum) (hso : ∀ g ∈ gs, g.Pairwise (· ≤ ·)) (hp : gs.flatten.Perm ns) (hns : ns.Pairwise (· ≤ ·)) (hge : ∀ x ∈ ns, 1 ≤ x) (hle : ns.length ≤ 100) (hw : ws.length ≤ 100) :
    F__law_is_split [.tup (gs.map tupI), tupI ns, tupI ws] = some (.sh (.bl true)) := by
  have hpl := hp.length_eq
  have hg1 : ∀ g ∈ gs, ∀ x ∈ g, 1 ≤ x := fun g hg x hx => hge x (hp.mem_iff.mp (List.mem_flatten.mpr ⟨g, hg, hx⟩))
  have hg2 : ∀ g ∈ gs, g.length ≤ 1000 := fun g hg => by have := (List.sublist_flatten_of_mem hg).length_le; omega
  obtain ⟨a', ha', e⟩ := loop_held (some (.sh (.tup (gs.map tupI)))) (some (.sh (tupI ns))) (some (.sh (tupI ws))) gs [] none rfl (by simp; simp at hpl; omega)
  simp only [List.map_nil, List.nil_append] at e
  have e1 := m_split_like gs ws.length hlen hw hso hg1 hg2
  have e2 := loop_sumsG (some (.sh (.tup (gs.map tupI)))) (some (.sh (tupI ns))) (some (.sh (tupI ws))) (some (.sh (.lst (gs.flatten.map .int)))) a' ha' gs
  rw [sums_eq hlen hsum] at e2
  have c5 := sortI_congr hp
  rw [sortI_id hns] at c5
  have hd := dSort_lst gs.flatten (by omega)
  rw [c5] at hd
  have hl : dLen (tupI ws) = some (.int (ws.length : Nat)) := by simp [tupI]
  have hi : dItems (tupI ns) = some (ns.map D.int) := by
    have : ns.length ≤ 1000000 := by omega
    simp [tupI, many, this]
  have f1 : fits 7 (ns.map D.int) = true := fits_ints 7 ns
  have hq : dEq (.lst (ns.map D.int)) (.lst (ns.map D.int)) = some (.bl true) := by
    simp [f1, eqDs_ints]
  have f2 : fits 7 (ws.map D.int) = true := fits_ints 7 ws
  have hq2 : dEq (tupI ws) (tupI ws) = some (.bl true) := by
    simp [tupI, f2, eqDs_ints]
  have ht : dTupOf (.lst (ws.map D.int)) = some (tupI ws) := by
    have : ws.length ≤ 1000000 := by omega
    simp [tupI, many, this]
  have hsq : dSeq (.tup (gs.map tupI)) = some (gs.map tupI) := rfl
  have hit : dIsi "tuple" (tupI ws) = some (.bl true) := rfl
  have hm : gs.length < 1000000 := by omega
  generalize gs.flatten.map D.int = fm at *
  generalize D.tup (gs.map tupI) = tg at *
  generalize tupI ns = tn at *
  generalize tupI ws = tw at *
  have s0 : (fIfS (fOr (fNot (fUn dTruth (fUn (dIsi "tuple") (fVar 2)))) (fNot (fUn dTruth (fCall F__law_split_like [] (fCons (fVar 0) (fCons (fArgs (d1 dLen) (fCons (fVar 2) fNil)) fNil)))))) (fRet (fC (.bl false))) fSkip) [some (.sh tg), some (.sh tn), some (.sh tw), none, none] = some (.nx [some (.sh tg), some (.sh tn), some (.sh tw), none, none]) := by
    simp [-dIsi, -dLen, hit, hl, e1]
  have s1 : (fSet 3 (fFrz (fLst (fArgs dLst fNil)))) [some (.sh tg), some (.sh tn), some (.sh tw), none, none] = some (.nx [some (.sh tg), some (.sh tn), some (.sh tw), some (.sh (.lst [])), none]) := by simp [many]
  have s2 : (fFor (fUn dSeq (fVar 0)) t__law_is_split_0 b__law_is_split_1) [some (.sh tg), some (.sh tn), some (.sh tw), some (.sh (.lst [])), none] = some (.nx [some (.sh tg), some (.sh tn), some (.sh tw), some (.sh (.lst fm)), a']) := by
    simp only [fFor, fUn, fVar, List.getElem?_cons_zero, Option.bind_some, hsq, Option.map_some]
    exact e
  have s3 : (fRet (fAndV (fBin dEq (fFrz (fLst (fArgs (d1 dSort) (fCons (fVar 3) fNil)))) (fFrz (fLst (fArgs (d1 dItems) (fCons (fVar 1) fNil))))) (fBin dEq (fArgs (d1 dTupOf) (fCons (fFrz (fLst (fLc (fUn dSeq (fVar 0)) t__law_is_split_0 c__law_is_split_2 e__law_is_split_3 [4]))) fNil)) (fVar 2)))) [some (.sh tg), some (.sh tn), some (.sh tw), some (.sh (.lst fm)), a'] = some (.rt (.sh (.bl true)) [some (.sh tg), some (.sh tn), some (.sh tw), some (.sh (.lst fm)), a']) := by
    simp [-dSort, -dItems, -dEq, -dTupOf, -dSeq, hd, hi, hq, hsq, many, hm, e2, ht, hq2]
  unfold F__law_is_split fnD f__law_is_split
  show outD 5 (fSeq _ _ [some (.sh tg), some (.sh tn), some (.sh tw), none, none]) = _
  rw [fSeq_nx s0, fSeq_nx s1, fSeq_nx s2, s3]
  rfl
end K79
end

section
set_option linter.all false
set_option maxRecDepth 100000
set_option maxHeartbeats 2000000
namespace K79
open Fl PySem
/-- a wish of p persons with this total -/
structure Wi (p a : Int) (ws : List Int) : Prop where
  len : (ws.length : Int) = p
  nn : ∀ w ∈ ws, 0 ≤ w
  sum : ws.sum = a
theorem le_sum0 : ∀ {l : List Int}, (∀ w ∈ l, 0 ≤ w) → ∀ w ∈ l, w ≤ l.sum
  | [], _, w, hw => by simp at hw
  | a :: l, h, w, hw => by
    have h1 := h a (by simp)
    have h2 : ∀ (m : List Int), (∀ x ∈ m, 0 ≤ x) → 0 ≤ m.sum := by
      intro m
      induction m with
      | nil => simp
      | cons b m ih =>
        intro q
        have := ih fun x hx => q x (by simp [hx])
        have := q b (by simp)
        rw [List.sum_cons]; omega
    rw [List.sum_cons]
    rcases List.mem_cons.mp hw with rfl | hw
    · have := h2 l fun x hx => h x (by simp [hx]); omega
    · have := le_sum0 (fun x hx => h x (by simp [hx])) w hw; omega
theorem Wi.ok {p a : Int} {ws : List Int} (h : Wi p a ws) (hp : 1 ≤ p) (hp5 : p ≤ 5) (ha : a ≤ 12000000000) : okWish ws := by
  have := h.len
  refine ⟨by omega, by omega, fun w hw => ⟨h.nn w hw, ?_⟩⟩
  have h1 := le_sum0 h.nn w hw
  have := h.sum
  omega
/-! ### the even wish -/
theorem evenly_sum5 {a q : Int} (h1 : 1 ≤ q) (h5 : q ≤ 5) : (evenly a q).sum = a := by
  rcases (show q ≤ 4 ∨ q = 5 by omega) with h | rfl
  · exact evenly_sum h1 h
  · simp [evenly, List.range_succ]
    split <;> split <;> split <;> split <;> split <;> omega
theorem evenly_nn {a q : Int} (ha : 0 ≤ a) (h1 : 1 ≤ q) : ∀ e ∈ evenly a q, 0 ≤ e := by
  intro e he
  unfold evenly at he
  obtain ⟨i, _, rfl⟩ := List.mem_map.mp he
  have := Int.ediv_nonneg ha (show (0 : Int) ≤ q by omega)
  split <;> omega
theorem loop_evenW (a p : Int) (hp : 0 < p) (hp5 : p ≤ 5) : ∀ (n k : Nat), lcL t_even_wish_0 c_even_wish_1 e_even_wish_2 [2] (rgD k n) [some (.sh (.int a)), some (.sh (.int p)), none] =
    some ((List.range' k n).map fun i => .int (if (i : Int) < a % p then a / p + 1 else a / p), [some (.sh (.int a)), some (.sh (.int p)), none])
  | 0, k => by simp [rgD, lcL]
  | n + 1, k => by
    have ih := loop_evenW a p hp hp5 n (k + 1)
    have hr : rgD k (n + 1) = .int (k : Int) :: rgD (k + 1) n := by simp [rgD, List.range'_succ]
    rw [hr, List.range'_succ]
    have hp3 : p < 18446744073709551616 := by omega
    simp [t_even_wish_0, c_even_wish_1, e_even_wish_2] at ih
    by_cases h : (k : Int) < a % p
    · simp [lcL, noOwn, noOwn1, wipeF, backF, t_even_wish_0, c_even_wish_1, e_even_wish_2, hp, hp3, ih, h]
    · simp [lcL, noOwn, noOwn1, wipeF, backF, t_even_wish_0, c_even_wish_1, e_even_wish_2, hp, hp3, ih, h]
theorem m_check_amount (a : Int) (h0 : 0 ≤ a) (h1 : a ≤ 12000000000) : F_check_amount [.int a, .int 0] = some (.sh (.int a)) := by
  simp [F_check_amount, f_check_amount, m_is_whole, h0, h1]
theorem m_even_wish {a p : Int} (h0 : 0 ≤ a) (h1 : a ≤ 12000000000) (hp : 1 ≤ p) (hp5 : p ≤ 5) : F_even_wish [.int a, .int p] = some (.sh (tupI (evenly a p))) := by
  obtain ⟨n, rfl⟩ : ∃ n : Nat, p = (n : Int) := ⟨p.toNat, by omega⟩
  have e1 := m_check_amount a h0 h1
  have e2 := m_check_people (n : Int) 1 hp hp5
  have e3 := loop_evenW a (n : Int) (by omega) hp5 n 0
  have h4 : dRng1 [.int (n : Int)] = some (rgD 0 n) := by rw [← rngL_rg]; exact dRng1_nat _ (by omega)
  have hlr : (rgD 0 n).length < many := by
    unfold rgD many
    rw [List.length_map, List.length_range']
    omega
  have e4 : evenly a (n : Int) = (List.range' 0 n).map fun (i : Nat) => if (i : Int) < a % n then a / n + 1 else a / n := by
    unfold evenly
    rw [Int.toNat_natCast, List.range_eq_range']
  have e5 : (List.range' 0 n).map (fun (i : Nat) => D.int (if (i : Int) < a % n then a / n + 1 else a / n)) = (evenly a n).map .int := by
    rw [e4, List.map_map]
    rfl
  rw [e5] at e3
  have s0 : (fDrop (fCall F_check_amount [.int 0] (fCons (fVar 0) fNil))) [some (.sh (.int a)), some (.sh (.int n)), none] = some (.nx [some (.sh (.int a)), some (.sh (.int n)), none]) := by simp [e1]
  have s1 : (fDrop (fCall F_check_people [.int 1] (fCons (fVar 1) fNil))) [some (.sh (.int a)), some (.sh (.int n)), none] = some (.nx [some (.sh (.int a)), some (.sh (.int n)), none]) := by simp [e2]
  have q : fArgs dRng1 (fCons (fVar 1) fNil) [some (.sh (.int a)), some (.sh (.int n)), none] = some (rgD 0 n, [some (.sh (.int a)), some (.sh (.int n)), none]) := fArgs_of (ds := [.int (n : Nat)]) (by simp) h4
  have q2 : fLc (fArgs dRng1 (fCons (fVar 1) fNil)) t_even_wish_0 c_even_wish_1 e_even_wish_2 [2] [some (.sh (.int a)), some (.sh (.int n)), none] = some ((evenly a n).map .int, [some (.sh (.int a)), some (.sh (.int n)), none]) := by
    unfold fLc
    rw [q, Option.bind_some, if_pos hlr, e3]
  have hl : (evenly a n).length ≤ 1000000 := by rw [evenly_len]; omega
  have ht : dTupOf (.lst ((evenly a n).map D.int)) = some (tupI (evenly a n)) := by simp [tupI, many, hl]
  have s2 : (fRet (fArgs (d1 dTupOf) (fCons (fFrz (fLst (fLc (fArgs dRng1 (fCons (fVar 1) fNil)) t_even_wish_0 c_even_wish_1 e_even_wish_2 [2]))) fNil))) [some (.sh (.int a)), some (.sh (.int n)), none] = some (.rt (.sh (tupI (evenly a n))) [some (.sh (.int a)), some (.sh (.int n)), none]) := by
    generalize fLc (fArgs dRng1 (fCons (fVar 1) fNil)) t_even_wish_0 c_even_wish_1 e_even_wish_2 [2] = lc at q2 ⊢
    simp [-dTupOf, q2, ht]
  unfold F_even_wish fnD f_even_wish
  show outD 3 (fSeq _ _ [some (.sh (.int a)), some (.sh (.int n)), none]) = _
  rw [fSeq_nx s0, fSeq_nx s1, s2]
  rfl
theorem even_wi {a p : Int} (h0 : 0 ≤ a) (hp : 1 ≤ p) (hp5 : p ≤ 5) : Wi p a (evenly a p) := ⟨by rw [evenly_len]; omega, evenly_nn h0 hp, evenly_sum5 hp hp5⟩
end K79
end

section
set_option linter.all false
set_option maxRecDepth 100000
set_option maxHeartbeats 2000000
namespace K79
open Fl PySem
theorem ins_sum (ws : List Int) (q : Nat) (c : Int) : (ws.take q ++ [c] ++ ws.drop q).sum = c + ws.sum := by
  rw [Fl.sum_perm (ins_perm' ws q c), List.sum_cons]
theorem ins_mem {ws : List Int} {q : Nat} {c x : Int} (h : x ∈ ws.take q ++ [c] ++ ws.drop q) : x = c ∨ x ∈ ws := by
  have := (ins_perm' ws q c).mem_iff.mp h
  simpa using this
theorem loop_wishD (x1 x2 : Option Slot) : ∀ (n k : Nat) (rest : Int) (ws : List Int) (o : O) (a b : Option Slot), HandOk o → 0 ≤ rest → rest ≤ 999 → (∀ w ∈ ws, 0 ≤ w) → ws.length = k → k + n ≤ 10 →
    ∃ (o' : O) (rest' : Int) (ws' : List Int) (a' b' : Option Slot), forL t__law_drawn_wish_0 b__law_drawn_wish_1 (rgD k n) [some (.own false o), x1, x2, some (.sh (.int rest)), some (.own true (.lst (ws.map .int))), a, b] = some (.nx [some (.own false o'), x1, x2, some (.sh (.int rest')), some (.own true (.lst (ws'.map .int))), a', b']) ∧ HandOk o' ∧ 0 ≤ rest' ∧ rest' ≤ 999 ∧ (∀ w ∈ ws', 0 ≤ w) ∧ ws'.length = k + n ∧ rest' + ws'.sum = rest + ws.sum
  | 0, k, rest, ws, o, a, b, ho, h0, h9, hw, hl, _ => ⟨o, rest, ws, a, b, by simp [rgD, forL], ho, h0, h9, hw, hl, rfl⟩
  | n + 1, k, rest, ws, o, a, b, ho, h0, h9, hw, hl, hk => by
    obtain ⟨d1, o1, e1, ho1, g1, g2⟩ := draw ho (many := rest + 1) (by omega) (by omega)
    obtain ⟨d2, o2, e2, ho2, g3, g4⟩ := draw ho1 (many := (ws.length : Int) + 1) (by omega) (by omega)
    obtain ⟨o', rest', ws', a', b', e, q1, q2, q3, q4, q5, q6⟩ := loop_wishD x1 x2 n (k + 1) (rest - d1) (ws.take d2.toNat ++ [d1] ++ ws.drop d2.toNat) o2 (some (.sh (.int (k : Int)))) (some (.sh (.int d1))) ho2 (by omega) (by omega) (fun w hm => by
      rcases ins_mem hm with rfl | hm
      · exact g1
      · exact hw w hm) (by rw [(ins_perm' ws d2.toNat d1).length_eq]; simp [hl]) (by omega)
    refine ⟨o', rest', ws', a', b', ?_, q1, q2, q3, q4, by omega, by rw [q6, ins_sum]; omega⟩
    rw [← e]
    have hr : rgD k (n + 1) = .int (k : Int) :: rgD (k + 1) n := by simp [rgD, List.range'_succ]
    rw [hr]
    have h999 : ¬ 999 < rest := by omega
    have hno := noLs_ints ws
    have hl2 : ws.length < 1000000 := by omega
    have hd3 : d2 < 1000000000 := by omega
    simp [forL, t__law_drawn_wish_0, b__law_drawn_wish_1, h999, e1, hno, e2, many, hl2, g3, hd3]
theorem m_drawn_wish {tot p : Int} (h0 : 0 ≤ tot) (h9 : tot ≤ 999) (hp : 1 ≤ p) (hp5 : p ≤ 5) {o : O} (ho : HandOk o) : ∃ (o' : O) (ws : List Int), F__law_drawn_wish [] o [.int tot, .int p] = some (.sh (tupI ws), o') ∧ HandOk o' ∧ Wi p tot ws := by
  obtain ⟨n, hn⟩ : ∃ n : Nat, p - 1 = (n : Int) := ⟨(p - 1).toNat, by omega⟩
  obtain ⟨o1, rest, ws, a, b, e, ho1, g1, g2, g3, g4, g5⟩ := loop_wishD (some (.sh (.int tot))) (some (.sh (.int p))) n 0 tot [] o none none ho h0 h9 (by simp) rfl (by omega)
  simp only [List.map_nil] at e
  obtain ⟨d, o2, e2, ho2, g6, g7⟩ := draw ho1 (many := (ws.length : Int) + 1) (by omega) (by omega)
  refine ⟨o2, (ws.take d.toNat ++ [rest] ++ ws.drop d.toNat), ?_, ho2, ⟨by rw [(ins_perm' ws d.toNat rest).length_eq]; simp [g4]; omega, fun w hm => ?_, by rw [ins_sum]; simpa using g5⟩⟩
  · have h4 : dRng1 [.int (p - 1)] = some (rgD 0 n) := by rw [hn, ← rngL_rg]; exact dRng1_nat _ (by omega)
    have s0 : (fSet 3 (fVar 1)) [some (.own false o), some (.sh (.int tot)), some (.sh (.int p)), none, none, none, none] = some (.nx [some (.own false o), some (.sh (.int tot)), some (.sh (.int p)), some (.sh (.int tot)), none, none, none]) := by simp
    have s1 : (fSetO 4 (fLst (fArgs dLst fNil))) [some (.own false o), some (.sh (.int tot)), some (.sh (.int p)), some (.sh (.int tot)), none, none, none] = some (.nx [some (.own false o), some (.sh (.int tot)), some (.sh (.int p)), some (.sh (.int tot)), some (.own true (.lst [])), none, none]) := by simp [many]
    have s2 : (fFor (fArgs dRng1 (fCons (fBin (dI fun i j => i - j) (fVar 2) (fC (.int 1))) fNil)) t__law_drawn_wish_0 b__law_drawn_wish_1) [some (.own false o), some (.sh (.int tot)), some (.sh (.int p)), some (.sh (.int tot)), some (.own true (.lst [])), none, none] = some (.nx [some (.own false o1), some (.sh (.int tot)), some (.sh (.int p)), some (.sh (.int rest)), some (.own true (.lst (ws.map .int))), a, b]) := by
      have q : fArgs dRng1 (fCons (fBin (dI fun i j => i - j) (fVar 2) (fC (.int 1))) fNil) [some (.own false o), some (.sh (.int tot)), some (.sh (.int p)), some (.sh (.int tot)), some (.own true (.lst [])), none, none] = some (rgD 0 n, [some (.own false o), some (.sh (.int tot)), some (.sh (.int p)), some (.sh (.int tot)), some (.own true (.lst [])), none, none]) := fArgs_of (ds := [.int (p - 1)]) (by simp) h4
      unfold fFor
      rw [q]
      exact e
    have hno := noLs_ints ws
    have hl2 : ws.length < 1000000 := by omega
    have hd3 : d < 1000000000 := by omega
    have s3 : (fIns 4 (fCallI 0 F__law_draw (fHere 0 (fCons (fBin dAdd (fLend 4 noL (fArgs (d1 dLen) (fCons (fVar 4) fNil))) (fC (.int 1))) fNil))) (fVar 3)) [some (.own false o1), some (.sh (.int tot)), some (.sh (.int p)), some (.sh (.int rest)), some (.own true (.lst (ws.map .int))), a, b] = some (.nx [some (.own false o2), some (.sh (.int tot)), some (.sh (.int p)), some (.sh (.int rest)), some (.own true (.lst ((ws.take d.toNat ++ [rest] ++ ws.drop d.toNat).map .int))), a, b]) := by
      simp [hno, e2, many, hl2, g6, hd3]
    have hl : ((ws.take d.toNat ++ [rest] ++ ws.drop d.toNat)).length ≤ 1000000 := by rw [(ins_perm' ws d.toNat rest).length_eq]; simp; omega
    have ht : dTupOf (.lst ((ws.take d.toNat ++ [rest] ++ ws.drop d.toNat).map D.int)) = some (tupI (ws.take d.toNat ++ [rest] ++ ws.drop d.toNat)) := by
      generalize (ws.take d.toNat ++ [rest] ++ ws.drop d.toNat) = l at hl
      simp [tupI, many, hl]
    have hno2 := noLs_ints (ws.take d.toNat ++ [rest] ++ ws.drop d.toNat)
    have s4 : (fRet (fLend 4 noL (fArgs (d1 dTupOf) (fCons (fVar 4) fNil)))) [some (.own false o2), some (.sh (.int tot)), some (.sh (.int p)), some (.sh (.int rest)), some (.own true (.lst ((ws.take d.toNat ++ [rest] ++ ws.drop d.toNat).map .int))), a, b] = some (.rt (.sh (tupI (ws.take d.toNat ++ [rest] ++ ws.drop d.toNat))) [some (.own false o2), some (.sh (.int tot)), some (.sh (.int p)), some (.sh (.int rest)), some (.own true (.lst ((ws.take d.toNat ++ [rest] ++ ws.drop d.toNat).map .int))), a, b]) := by
      have hn3 : noL (tupI (ws.take d.toNat ++ [rest] ++ ws.drop d.toNat)) = true := by
        unfold tupI
        rw [noL_tup']
        exact hno2
      generalize (ws.take d.toNat ++ [rest] ++ ws.drop d.toNat) = l at ht hn3
      simp [-dTupOf, ht, hn3]
    refine fnI_rt (ρ0 := [some (.own false o), some (.sh (.int tot)), some (.sh (.int p)), none, none, none, none]) (ρ := [some (.own false o2), some (.sh (.int tot)), some (.sh (.int p)), some (.sh (.int rest)), some (.own true (.lst ((ws.take d.toNat ++ [rest] ++ ws.drop d.toNat).map .int))), a, b]) rfl ?_ rfl ho.one ho2.one
    unfold f__law_drawn_wish
    rw [fSeq_nx s0, fSeq_nx s1, fSeq_nx s2, fSeq_nx s3, s4]
  · rcases ins_mem hm with rfl | hm
    · exact g1
    · exact g3 w hm
end K79
end

section
set_option linter.all false
set_option maxRecDepth 100000
set_option maxHeartbeats 2000000
namespace K79
open Fl PySem
def ext (a : Int) (r : List Int) : List (List Int) := (List.range (a - r.sum + 1).toNat).map fun (w : Nat) => r ++ [(w : Int)]
def extK (r : List Int) (k n : Nat) : List (List Int) := (List.range' k n).map fun (w : Nat) => r ++ [(w : Int)]
structure Row (a : Int) (k : Nat) (r : List Int) : Prop where
  len : r.length = k
  nn : ∀ w ∈ r, 0 ≤ w
  sum : r.sum ≤ a
theorem Row.pos {a : Int} {k : Nat} {r : List Int} (h : Row a k r) : 0 ≤ r.sum := by
  have h2 : ∀ (m : List Int), (∀ x ∈ m, 0 ≤ x) → 0 ≤ m.sum := by
    intro m
    induction m with
    | nil => simp
    | cons b m ih =>
      intro q
      have := ih fun x hx => q x (by simp [hx])
      have := q b (by simp)
      rw [List.sum_cons]; omega
  exact h2 r h.nn
theorem ext_row {a : Int} {k : Nat} {r : List Int} (h : Row a k r) : ∀ s ∈ ext a r, Row a (k + 1) s := by
  intro s hs
  unfold ext at hs
  obtain ⟨w, hw, rfl⟩ := List.mem_map.mp hs
  rw [List.mem_range] at hw
  refine ⟨by simp [h.len], fun x hx => ?_, by rw [List.sum_append]; simp; omega⟩
  rcases List.mem_append.mp hx with q | q
  · exact h.nn x q
  · simp at q; omega
theorem ext_len {a : Int} {k : Nat} {r : List Int} (h : Row a k r) (h6 : a < 6) : (ext a r).length ≤ 6 := by
  have := h.pos
  unfold ext
  simp
  omega
theorem loop_ext (x0 x1 x2 x3 x4 : Option Slot) (r : List Int) (hr : r.length ≤ 100) : ∀ (n k : Nat), lcL t__law_wishes_0 c__law_wishes_1 e__law_wishes_2 [6] (rgD k n) [x0, x1, x2, x3, x4, some (.sh (tupI r)), none] =
    some ((extK r k n).map tupI, [x0, x1, x2, x3, x4, some (.sh (tupI r)), none])
  | 0, k => by simp [rgD, lcL, extK]
  | n + 1, k => by
    have ih := loop_ext x0 x1 x2 x3 x4 r hr n (k + 1)
    have hg : rgD k (n + 1) = .int (k : Int) :: rgD (k + 1) n := by simp [rgD, List.range'_succ]
    have he : extK r k (n + 1) = (r ++ [(k : Int)]) :: extK r (k + 1) n := by simp [extK, List.range'_succ]
    rw [hg, he]
    have hd : dAdd (tupI r) (.tup [.int (k : Int)]) = some (tupI (r ++ [(k : Int)])) := by
      have : r.length + 1 ≤ 1000000 := by omega
      simp [tupI, many, this]
    have ht : dTup [.int (k : Int)] = some (.tup [.int (k : Int)]) := by simp [many]
    simp [-dAdd, -dTup, t__law_wishes_0, c__law_wishes_1, e__law_wishes_2] at ih
    simp [-dAdd, -dTup, lcL, noOwn, noOwn1, wipeF, backF, t__law_wishes_0, c__law_wishes_1, e__law_wishes_2, hd, ht, ih]
theorem b4_step (a : Int) (h6 : a < 6) (x1 x2 x3 : Option Slot) (k : Nat) (hk : k ≤ 100) (r : List Int) (h : Row a k r) (acc : List (List Int)) (hacc : acc.length ≤ 100000) :
    b__law_wishes_4 [some (.sh (.int a)), x1, x2, x3, some (.sh (.lst (acc.map tupI))), some (.sh (tupI r)), none] = some (.nx [some (.sh (.int a)), x1, x2, x3, some (.sh (.lst ((acc ++ ext a r).map tupI))), some (.sh (tupI r)), none]) := by
  have hpos := h.pos
  have hsum := h.sum
  obtain ⟨n, hn⟩ : ∃ n : Nat, a - r.sum + 1 = (n : Int) := ⟨(a - r.sum + 1).toNat, by omega⟩
  have hn6 : n ≤ 6 := by omega
  have h4 : dRng1 [.int (a - r.sum + 1)] = some (rgD 0 n) := by rw [hn, ← rngL_rg]; exact dRng1_nat _ (by omega)
  have he : ext a r = extK r 0 n := by
    unfold ext extK
    rw [hn, Int.toNat_natCast, List.range_eq_range']
  have hs : dSum (tupI r) = some (.int r.sum) := by simp [tupI]
  have e1 := loop_ext (some (.sh (.int a))) x1 x2 x3 (some (.sh (.lst (acc.map tupI)))) r (by have := h.len; omega) n 0
  have hlr : (rgD 0 n).length < many := by
    unfold rgD many
    rw [List.length_map, List.length_range']
    omega
  have hxl : (extK r 0 n).length ≤ 6 := by simp [extK]; omega
  have q : fArgs dRng1 (fCons (fBin dAdd (fBin (dI fun i j => i - j) (fVar 0) (fArgs (d1 dSum) (fCons (fVar 5) fNil))) (fC (.int 1))) fNil) [some (.sh (.int a)), x1, x2, x3, some (.sh (.lst (acc.map tupI))), some (.sh (tupI r)), none] = some (rgD 0 n, [some (.sh (.int a)), x1, x2, x3, some (.sh (.lst (acc.map tupI))), some (.sh (tupI r)), none]) := by
    refine fArgs_of (ds := [.int (a - r.sum + 1)]) ?_ h4
    simp [-dSum, hs]
  have q2 : fLc (fArgs dRng1 (fCons (fBin dAdd (fBin (dI fun i j => i - j) (fVar 0) (fArgs (d1 dSum) (fCons (fVar 5) fNil))) (fC (.int 1))) fNil)) t__law_wishes_0 c__law_wishes_1 e__law_wishes_2 [6] [some (.sh (.int a)), x1, x2, x3, some (.sh (.lst (acc.map tupI))), some (.sh (tupI r)), none] = some ((extK r 0 n).map tupI, [some (.sh (.int a)), x1, x2, x3, some (.sh (.lst (acc.map tupI))), some (.sh (tupI r)), none]) := by
    unfold fLc
    rw [q, Option.bind_some, if_pos hlr, e1]
  have hc : dCatL (.lst (acc.map tupI)) (.lst ((extK r 0 n).map tupI)) = some ((acc ++ extK r 0 n).map tupI) := by
    have : acc.length + (extK r 0 n).length ≤ 1000000 := by omega
    simp [many, this]
  rw [he]
  unfold b__law_wishes_4
  generalize fLc (fArgs dRng1 (fCons (fBin dAdd (fBin (dI fun i j => i - j) (fVar 0) (fArgs (d1 dSum) (fCons (fVar 5) fNil))) (fC (.int 1))) fNil)) t__law_wishes_0 c__law_wishes_1 e__law_wishes_2 [6] = lc at q2 ⊢
  generalize (extK r 0 n).map tupI = xs at q2 hc
  generalize (acc ++ extK r 0 n).map tupI = ys at hc ⊢
  simp [-dCatL, q2, hc]
theorem loop_rowsW (a : Int) (h6 : a < 6) (x1 x2 x3 : Option Slot) (k : Nat) (hk : k ≤ 100) : ∀ (rows acc : List (List Int)) (x5 : Option Slot), noOwn1 (some x5) = true → (∀ r ∈ rows, Row a k r) → acc.length + 6 * rows.length ≤ 100000 →
    ∃ x5', noOwn1 (some x5') = true ∧ forL t__law_wishes_3 b__law_wishes_4 (rows.map tupI) [some (.sh (.int a)), x1, x2, x3, some (.sh (.lst ((acc).map tupI))), x5, none] = some (.nx [some (.sh (.int a)), x1, x2, x3, some (.sh (.lst ((acc ++ rows.flatMap (ext a)).map tupI))), x5', none])
  | [], acc, x5, hn, _, _ => ⟨x5, hn, by simp [forL]⟩
  | r :: rows, acc, x5, hn, h, hl => by
    have hr := h r (by simp)
    have hel := ext_len hr h6
    simp only [List.length_cons] at hl
    obtain ⟨x5', q1, q2⟩ := loop_rowsW a h6 x1 x2 x3 k hk rows (acc ++ ext a r) (some (.sh (tupI r))) rfl (fun s hs => h s (by simp [hs])) (by simp; omega)
    refine ⟨x5', q1, ?_⟩
    have es := b4_step a h6 x1 x2 x3 k hk r hr acc (by omega)
    rw [List.flatMap_cons, ← List.append_assoc, ← q2]
    rw [List.map_cons]
    have et : t__law_wishes_3 (tupI r) [some (.sh (.int a)), x1, x2, x3, some (.sh (.lst ((acc).map tupI))), x5, none] = some [some (.sh (.int a)), x1, x2, x3, some (.sh (.lst ((acc).map tupI))), some (.sh (tupI r)), none] := by simp [t__law_wishes_3]
    show ((t__law_wishes_3 (tupI r) [some (.sh (.int a)), x1, x2, x3, some (.sh (.lst ((acc).map tupI))), x5, none]).bind fun ρ1 => (b__law_wishes_4 ρ1).bind _) = _
    rw [et, Option.bind_some, es, Option.bind_some]
theorem flat_row {a : Int} {k : Nat} {rows : List (List Int)} (h6 : a < 6) (h : ∀ r ∈ rows, Row a k r) : (∀ s ∈ rows.flatMap (ext a), Row a (k + 1) s) ∧ (rows.flatMap (ext a)).length ≤ 6 * rows.length := by
  refine ⟨fun s hs => ?_, ?_⟩
  · obtain ⟨r, hr, hs⟩ := List.mem_flatMap.mp hs
    exact ext_row (h r hr) s hs
  · induction rows with
    | nil => simp
    | cons r rows ih =>
      have := ih fun s hs => h s (by simp [hs])
      have := ext_len (h r (by simp)) h6
      rw [List.flatMap_cons, List.length_append, List.length_cons]
      omega
theorem loop_deep (a : Int) (h6 : a < 6) (x1 : Option Slot) : ∀ (n j : Nat) (rows : List (List Int)) (x3 x4 x5 : Option Slot), noOwn1 (some x5) = true → (∀ r ∈ rows, Row a j r) → rows.length ≤ 6 ^ j → j + n ≤ 4 →
    ∃ (rows' : List (List Int)) (x3' x4' x5' : Option Slot), noOwn1 (some x5') = true ∧ forL t__law_wishes_5 b__law_wishes_6 (rgD j n) [some (.sh (.int a)), x1, some (.sh (.lst ((rows).map tupI))), x3, x4, x5, none] = some (.nx [some (.sh (.int a)), x1, some (.sh (.lst ((rows').map tupI))), x3', x4', x5', none]) ∧ (∀ r ∈ rows', Row a (j + n) r) ∧ rows'.length ≤ 1296
  | 0, j, rows, x3, x4, x5, hn, h, hl, hj => by
    refine ⟨rows, x3, x4, x5, hn, by simp [rgD, forL], h, Nat.le_trans hl ?_⟩
    exact Nat.le_trans (Nat.pow_le_pow_right (by decide) (show j ≤ 4 by omega)) (by decide)
  | n + 1, j, rows, x3, x4, x5, hn, h, hl, hj => by
    have h5 : 6 ^ j ≤ 216 := Nat.le_trans (Nat.pow_le_pow_right (by decide) (show j ≤ 3 by omega)) (by decide)
    obtain ⟨f1, f2⟩ := flat_row h6 h
    obtain ⟨x5', q1, q2⟩ := loop_rowsW a h6 x1 (some (.sh (.lst ((rows).map tupI)))) (some (.sh (.int (j : Int)))) j (by omega) rows [] x5 hn h (by simp; omega)
    rw [List.nil_append] at q2
    simp only [List.map_nil] at q2
    obtain ⟨rows', y3, y4, y5, g1, g2, g3, g4⟩ := loop_deep a h6 x1 n (j + 1) (rows.flatMap (ext a)) (some (.sh (.int (j : Int)))) (some (.sh (.lst ((rows.flatMap (ext a)).map tupI)))) x5' q1 f1 (by rw [Nat.pow_succ]; omega) (by omega)
    refine ⟨rows', y3, y4, y5, g1, ?_, by rw [show j + (n + 1) = j + 1 + n by omega]; exact g3, g4⟩
    rw [← g2]
    have hr : rgD j (n + 1) = .int (j : Int) :: rgD (j + 1) n := by simp [rgD, List.range'_succ]
    rw [hr]
    have hs : dSeq (.lst (rows.map tupI)) = some (rows.map tupI) := rfl
    generalize (rows.flatMap (ext a)).map tupI = fm at q2 ⊢
    generalize rows.map tupI = rm at q2 hs ⊢
    simp [forL, t__law_wishes_5, b__law_wishes_6, many, q2]
theorem loop_last (a : Int) (x1 x2 x3 x4 x5 : Option Slot) (hn : noOwn1 (some x5) = true) : ∀ rows : List (List Int), (∀ r ∈ rows, r.length ≤ 100) → lcL t__law_wishes_3 c__law_wishes_1 e__law_wishes_7 [5] (rows.map tupI) [some (.sh (.int a)), x1, x2, x3, x4, x5, none] =
    some ((rows.map fun r => r ++ [a - r.sum]).map tupI, [some (.sh (.int a)), x1, x2, x3, x4, x5, none])
  | [], _ => by simp [lcL]
  | r :: rows, h => by
    have ih := loop_last a x1 x2 x3 x4 x5 hn rows fun s hs => h s (by simp [hs])
    have hl := h r (by simp)
    have hs : dSum (tupI r) = some (.int r.sum) := by simp [tupI]
    have hd : dAdd (tupI r) (.tup [.int (a - r.sum)]) = some (tupI (r ++ [a - r.sum])) := by
      have : r.length + 1 ≤ 1000000 := by omega
      simp [tupI, many, this]
    have ht : dTup [.int (a - r.sum)] = some (.tup [.int (a - r.sum)]) := by simp [many]
    simp [-dAdd, -dTup, -dSum, t__law_wishes_3, c__law_wishes_1, e__law_wishes_7] at ih
    simp [-dAdd, -dTup, -dSum, lcL, noOwn, hn, wipeF, backF, t__law_wishes_3, c__law_wishes_1, e__law_wishes_7, hs, hd, ht, ih]
theorem m_law_wishes {a p : Int} (h0 : 0 ≤ a) (h6 : a < 6) (hp : 1 ≤ p) (hp5 : p ≤ 5) : ∃ wss : List (List Int), F__law_wishes [.int a, .int p] = some (.sh (.lst (wss.map tupI))) ∧ wss.length ≤ 1296 ∧ ∀ ws ∈ wss, Wi p a ws := by
  obtain ⟨n, hn⟩ : ∃ n : Nat, p - 1 = (n : Int) := ⟨(p - 1).toNat, by omega⟩
  obtain ⟨rows, y3, y4, y5, g1, g2, g3, g4⟩ := loop_deep a h6 (some (.sh (.int p))) n 0 [[]] none none none rfl (by simp; exact ⟨rfl, by simp, by simpa using h0⟩) (by simp) (by omega)
  rw [Nat.zero_add] at g3
  refine ⟨rows.map fun r => r ++ [a - r.sum], ?_, by simpa using g4, fun ws hws => ?_⟩
  · have e := loop_last a (some (.sh (.int p))) (some (.sh (.lst ((rows).map tupI)))) y3 y4 y5 g1 rows fun r hr => by have := (g3 r hr).len; omega
    have h4 : dRng1 [.int (p - 1)] = some (rgD 0 n) := by rw [hn, ← rngL_rg]; exact dRng1_nat _ (by omega)
    have s0 : (fSet 2 (fFrz (fLst (fArgs dLst (fCons (fArgs dTup fNil) fNil))))) [some (.sh (.int a)), some (.sh (.int p)), none, none, none, none, none] = some (.nx [some (.sh (.int a)), some (.sh (.int p)), some (.sh (.lst (([[]]).map tupI))), none, none, none, none]) := by simp [many, tupI]
    have s1 : (fFor (fArgs dRng1 (fCons (fBin (dI fun i j => i - j) (fVar 1) (fC (.int 1))) fNil)) t__law_wishes_5 b__law_wishes_6) [some (.sh (.int a)), some (.sh (.int p)), some (.sh (.lst (([[]]).map tupI))), none, none, none, none] = some (.nx [some (.sh (.int a)), some (.sh (.int p)), some (.sh (.lst ((rows).map tupI))), y3, y4, y5, none]) := by
      have q : fArgs dRng1 (fCons (fBin (dI fun i j => i - j) (fVar 1) (fC (.int 1))) fNil) [some (.sh (.int a)), some (.sh (.int p)), some (.sh (.lst (([[]]).map tupI))), none, none, none, none] = some (rgD 0 n, [some (.sh (.int a)), some (.sh (.int p)), some (.sh (.lst (([[]]).map tupI))), none, none, none, none]) := fArgs_of (ds := [.int (p - 1)]) (by simp) h4
      unfold fFor
      rw [q]
      exact g2
    have hm : rows.length < 1000000 := by omega
    have hs : dSeq (.lst (rows.map tupI)) = some (rows.map tupI) := rfl
    have hml : (rows.map tupI).length < 1000000 := by simpa using hm
    have s2 : (fRet (fFrz (fLst (fLc (fUn dSeq (fVar 2)) t__law_wishes_3 c__law_wishes_1 e__law_wishes_7 [5])))) [some (.sh (.int a)), some (.sh (.int p)), some (.sh (.lst ((rows).map tupI))), y3, y4, y5, none] = some (.rt (.sh (.lst ((rows.map fun r => r ++ [a - r.sum]).map tupI))) [some (.sh (.int a)), some (.sh (.int p)), some (.sh (.lst ((rows).map tupI))), y3, y4, y5, none]) := by
      generalize (rows.map fun r => r ++ [a - r.sum]).map tupI = xs at e ⊢
      generalize rows.map tupI = rm at e hs hml ⊢
      simp [many, hml, e]
    unfold F__law_wishes fnD f__law_wishes
    show outD 7 (fSeq _ _ [some (.sh (.int a)), some (.sh (.int p)), none, none, none, none, none]) = _
    rw [fSeq_nx s0, fSeq_nx s1, s2]
    rfl
  · obtain ⟨r, hr, rfl⟩ := List.mem_map.mp hws
    have R := g3 r hr
    refine ⟨by simp [R.len]; omega, fun w hw => ?_, by rw [List.sum_append]; simp; omega⟩
    rcases List.mem_append.mp hw with q | q
    · exact R.nn w q
    · have := R.sum; simp at q; omega
end K79
end

section
set_option linter.all false
set_option maxRecDepth 100000
set_option maxHeartbeats 2000000
namespace K79
open Fl PySem
theorem loop_right (x0 x1 x2 x3 x4 x6 x7 : Option Slot) {p : Nat} (hp : 2 ≤ p) (hp5 : p ≤ 5) (R : List Int) (okr : okCoins R) (srt : R.Pairwise (· ≤ ·)) (good : okL p 0 R) (hs : R.sum ≤ 1000) : ∀ (wss : List (List Int)) (a : Option Slot), (∀ ws ∈ wss, Wi p R.sum ws) →
    ∃ a', forL t__law_rest_right_0 b__law_rest_right_1 (wss.map tupI) [x0, x1, x2, x3, x4, some (.sh (tupI R)), x6, x7, a] = some (.nx [x0, x1, x2, x3, x4, some (.sh (tupI R)), x6, x7, a'])
  | [], a, _ => ⟨a, by simp [forL]⟩
  | ws :: wss, a, h => by
    obtain ⟨a', e⟩ := loop_right x0 x1 x2 x3 x4 x6 x7 hp hp5 R okr srt good hs wss (some (.sh (tupI ws))) fun v hv => h v (by simp [hv])
    refine ⟨a', ?_⟩
    have W := h ws (by simp)
    have okw := W.ok (by omega) (by omega) (by omega)
    have hwl : ws.length = p := by have := W.len; omega
    obtain ⟨gs, g1, g2, g3, g4, g5⟩ := m_greatest_first (tupI R) (tupI ws) hp hp5 R ws rfl okr (by rw [sortI_id srt]; exact good) (.inr rfl) okw hwl W.sum
    have g6 := m_is_split gs R ws g2 g3 g4 g5 srt (fun x hx => (okr.2 x hx).1) (by have := okr.1; omega) (by omega)
    rw [List.map_cons, ← e]
    generalize D.tup (gs.map tupI) = tg at *
    generalize tupI ws = tw at *
    generalize tupI R = tr at *
    simp [forL, t__law_rest_right_0, b__law_rest_right_1, g1, g6]
theorem Cl.ok {cs lot : List Int} (h : Cl lot cs) (ok : okCoins cs) (hl : lot.length ≤ 12) : okCoins lot := ⟨hl, fun n hn => ok.2 n (List.count_pos_iff.mp (Nat.lt_of_lt_of_le (List.count_pos_iff.mpr hn) (h n)))⟩
theorem okCoins.perm {cs ds : List Int} (h : okCoins cs) (q : ds.Perm cs) : okCoins ds := ⟨by rw [q.length_eq]; exact h.1, fun n hn => h.2 n (q.mem_iff.mp hn)⟩
theorem m_rest_right {p lost : Int} (hp : 2 ≤ p) (hp5 : p ≤ 5) (h0 : 0 ≤ lost) (h12 : lost ≤ 12) {cs lot : List Int} (L : LPool cs) (hb : Bear p lost cs) (hcl : Cl lot cs) (hll : (lot.length : Int) ≤ lost) {o : O} (ho : HandOk o) :
    ∃ o', F__law_rest_right [] o [.lst (cs.map .int), .int p, tupI lot, .int (lost - (lot.length : Int))] = some (.sh (.bl true), o') ∧ HandOk o' := by
  obtain ⟨d, o1, ds, e1, ho1, hd, hpd⟩ := m_turned ho cs (by have := L.len; omega)
  have okl := hcl.ok L.ok (by omega)
  have okd := L.ok.perm hpd
  have e2 := m_less_lot d (tupI lot) ds lot hd okd rfl okl (fun c => by rw [hpd.count_eq c]; exact hcl c)
  rw [sortI_congr hpd, sortI_id L.srt] at e2
  have sub := less_sublist lot cs
  have e3 := m_law_less (.lst (cs.map .int)) (tupI lot) cs lot rfl rfl hcl (by have := L.len; omega)
  have hlen := (less_perm hcl).length_eq
  have hsum := Fl.sum_perm (less_perm hcl)
  rw [List.sum_append] at hsum
  rw [List.length_append] at hlen
  have hlpos : 0 ≤ lot.sum := sum_nonneg fun c hc => (okl.2 c hc).1
  generalize less cs lot = R at *
  have okr := L.ok.sub sub
  have srt := L.srt.sublist sub
  have hbR : Bear p (lost - (lot.length : Int)) R := bear_sub hp sub L.srt L.pos hb (by omega) hll
  have good := bear_ok hp (by omega) (fun c hc => (okr.2 c hc).1) hbR
  have e4 := m_serves p hp hp5 (tupI R) R rfl okr
  rw [sortI_id srt, serveD_good hp hp5 good] at e4
  have e5 := m_serves_after_no (tupI R) hp hp5 (lost := lost - (lot.length : Int)) (by omega) (by omega) R rfl okr (by rw [sortI_id srt]; exact hbR)
  have t0 : 0 ≤ R.sum := sum_nonneg fun c hc => (okr.2 c hc).1
  have t9 : R.sum ≤ 200 := by have := L.sum; omega
  have e6 := m_even_wish t0 (by omega) (show 1 ≤ p by omega) hp5
  obtain ⟨o2, w1, e7, ho2, W1⟩ := m_drawn_wish t0 (by omega) (show 1 ≤ p by omega) hp5 ho1
  obtain ⟨o3, w2, e8, ho3, W2⟩ := m_drawn_wish t0 (by omega) (show 1 ≤ p by omega) hp5 ho2
  have W0 := even_wi t0 (show 1 ≤ p by omega) hp5
  generalize evenly R.sum p = w0 at e6 W0
  have f2 : fit 8 (tupI R) = true := by simp [tupI, fits_ints]
  have hne : dNe (tupI R) (tupI R) = some (.bl false) := by simp [f2, eqD_tupI]
  have hs : dSum (tupI R) = some (.int R.sum) := by simp [tupI]
  obtain ⟨all, hall, hW⟩ : ∃ all : List (List Int), (fIfS (fTest (fBin dLt (fVar 6) (fC (.int 6)))) (fSet 7 (fFrz (fLst (fBin dCatL (fVar 7) (fCall F__law_wishes [] (fCons (fVar 6) (fCons (fVar 2) fNil))))))) fSkip) [some (.own false o3), some (.sh (.lst (cs.map .int))), some (.sh (.int p)), some (.sh (tupI lot)), some (.sh (.int (lost - (lot.length : Int)))), some (.sh (tupI R)), some (.sh (.int R.sum)), some (.sh (.lst ([w0, w1, w2].map tupI))), none] = some (.nx [some (.own false o3), some (.sh (.lst (cs.map .int))), some (.sh (.int p)), some (.sh (tupI lot)), some (.sh (.int (lost - (lot.length : Int)))), some (.sh (tupI R)), some (.sh (.int R.sum)), some (.sh (.lst (all.map tupI))), none]) ∧ ∀ ws ∈ all, Wi p R.sum ws := by
    by_cases h6 : R.sum < 6
    · obtain ⟨wss, e9, hl9, hW9⟩ := m_law_wishes t0 h6 (show 1 ≤ p by omega) hp5
      refine ⟨[w0, w1, w2] ++ wss, ?_, ?_⟩
      · have hc : dCatL (.lst ([w0, w1, w2].map tupI)) (.lst (wss.map tupI)) = some (([w0, w1, w2] ++ wss).map tupI) := by
          have : 3 + wss.length ≤ 1000000 := by omega
          have : wss.length + 3 ≤ 1000000 := by omega
          have : wss.length + 1 + 1 + 1 ≤ 1000000 := by omega
          simp [many, *]
        generalize ([w0, w1, w2] ++ wss).map tupI = X at hc ⊢
        generalize [w0, w1, w2].map tupI = Y at hc ⊢
        generalize wss.map tupI = Z at hc e9
        simp [-dCatL, h6, e9, hc]
      · intro ws hw
        rcases List.mem_append.mp hw with q | q
        · simp at q
          rcases q with rfl | rfl | rfl
          · exact W0
          · exact W1
          · exact W2
        · exact hW9 ws q
    · refine ⟨[w0, w1, w2], ?_, ?_⟩
      · generalize [w0, w1, w2].map tupI = Y
        simp [h6]
      · intro ws q
        simp at q
        rcases q with rfl | rfl | rfl
        · exact W0
        · exact W1
        · exact W2
  obtain ⟨pn, rfl⟩ : ∃ pn : Nat, p = (pn : Int) := ⟨p.toNat, by omega⟩
  obtain ⟨a', el⟩ := loop_right (some (.own false o3)) (some (.sh (.lst (cs.map .int)))) (some (.sh (.int pn))) (some (.sh (tupI lot))) (some (.sh (.int (lost - (lot.length : Int))))) (some (.sh (.int R.sum))) (some (.sh (.lst (all.map tupI)))) (p := pn) (by omega) (by omega) R okr srt good (by omega) all none hW
  refine ⟨o3, ?_, ho3⟩
  have hsq : dSeq (.lst (all.map tupI)) = some (all.map tupI) := rfl
  have hl3 : ∀ ts : List D, ts = [tupI w0, tupI w1, tupI w2] → [w0, w1, w2].map tupI = ts := fun ts h => by rw [h]; rfl
  have hl3' := hl3 _ rfl
  rw [hl3'] at hall
  generalize tupI w0 = t0' at *
  generalize tupI w1 = t1' at *
  generalize tupI w2 = t2' at *
  generalize all.map tupI = la at *
  generalize lost - (lot.length : Int) = left at *
  generalize tupI lot = tl at *
  generalize tupI R = tr at *
  generalize hcm : D.lst (cs.map D.int) = cm at *
  have s0 : (fSet 5 (fCall F_less_lot [] (fCons (fCallI 0 F__law_turned (fHere 0 (fCons (fVar 1) fNil))) (fCons (fVar 3) fNil)))) [some (.own false o), some (.sh cm), some (.sh (.int pn)), some (.sh tl), some (.sh (.int left)), none, none, none, none] = some (.nx [some (.own false o1), some (.sh cm), some (.sh (.int pn)), some (.sh tl), some (.sh (.int left)), some (.sh tr), none, none, none]) := by simp [e1, e2]
  have s1 : (fIfS (fOr (fTest (fBin dNe (fVar 5) (fCall F__law_less [] (fCons (fVar 1) (fCons (fVar 3) fNil))))) (fOr (fTest (fBin dNotN (fCall F_serves [] (fCons (fVar 5) (fCons (fVar 2) fNil))) (fC .non))) (fTest (fBin dNotN (fCall F_serves_after [] (fCons (fVar 5) (fCons (fVar 2) (fCons (fVar 4) fNil)))) (fC .non))))) (fRet (fC (.bl false))) fSkip) [some (.own false o1), some (.sh cm), some (.sh (.int pn)), some (.sh tl), some (.sh (.int left)), some (.sh tr), none, none, none] = some (.nx [some (.own false o1), some (.sh cm), some (.sh (.int pn)), some (.sh tl), some (.sh (.int left)), some (.sh tr), none, none, none]) := by
    simp [-dNe, e3, hne, e4, e5]
  have s2 : (fSet 6 (fArgs (d1 dSum) (fCons (fVar 5) fNil))) [some (.own false o1), some (.sh cm), some (.sh (.int pn)), some (.sh tl), some (.sh (.int left)), some (.sh tr), none, none, none] = some (.nx [some (.own false o1), some (.sh cm), some (.sh (.int pn)), some (.sh tl), some (.sh (.int left)), some (.sh tr), some (.sh (.int R.sum)), none, none]) := by
    simp [-dSum, hs]
  have s3 : (fSet 7 (fFrz (fLst (fArgs dLst (fCons (fCall F_even_wish [] (fCons (fVar 6) (fCons (fVar 2) fNil))) (fCons (fCallI 0 F__law_drawn_wish (fHere 0 (fCons (fVar 6) (fCons (fVar 2) fNil)))) (fCons (fCallI 0 F__law_drawn_wish (fHere 0 (fCons (fVar 6) (fCons (fVar 2) fNil)))) fNil))))))) [some (.own false o1), some (.sh cm), some (.sh (.int pn)), some (.sh tl), some (.sh (.int left)), some (.sh tr), some (.sh (.int R.sum)), none, none] = some (.nx [some (.own false o3), some (.sh cm), some (.sh (.int pn)), some (.sh tl), some (.sh (.int left)), some (.sh tr), some (.sh (.int R.sum)), some (.sh (.lst [t0', t1', t2'])), none]) := by
    simp [e6, e7, e8, many]
  have s5 : (fFor (fUn dSeq (fVar 7)) t__law_rest_right_0 b__law_rest_right_1) [some (.own false o3), some (.sh cm), some (.sh (.int pn)), some (.sh tl), some (.sh (.int left)), some (.sh tr), some (.sh (.int R.sum)), some (.sh (.lst la)), none] = some (.nx [some (.own false o3), some (.sh cm), some (.sh (.int pn)), some (.sh tl), some (.sh (.int left)), some (.sh tr), some (.sh (.int R.sum)), some (.sh (.lst la)), a']) := by
    have q : fUn dSeq (fVar 7) [some (.own false o3), some (.sh cm), some (.sh (.int pn)), some (.sh tl), some (.sh (.int left)), some (.sh tr), some (.sh (.int R.sum)), some (.sh (.lst la)), none] = some (la, [some (.own false o3), some (.sh cm), some (.sh (.int pn)), some (.sh tl), some (.sh (.int left)), some (.sh tr), some (.sh (.int R.sum)), some (.sh (.lst la)), none]) := by simp
    unfold fFor
    rw [q]
    exact el
  have s6 : (fRet (fC (.bl true))) [some (.own false o3), some (.sh cm), some (.sh (.int pn)), some (.sh tl), some (.sh (.int left)), some (.sh tr), some (.sh (.int R.sum)), some (.sh (.lst la)), a'] = some (.rt (.sh (.bl true)) [some (.own false o3), some (.sh cm), some (.sh (.int pn)), some (.sh tl), some (.sh (.int left)), some (.sh tr), some (.sh (.int R.sum)), some (.sh (.lst la)), a']) := by simp
  refine fnI_rt (ρ0 := [some (.own false o), some (.sh cm), some (.sh (.int pn)), some (.sh tl), some (.sh (.int left)), none, none, none, none]) (ρ := [some (.own false o3), some (.sh cm), some (.sh (.int pn)), some (.sh tl), some (.sh (.int left)), some (.sh tr), some (.sh (.int R.sum)), some (.sh (.lst la)), a']) rfl ?_ rfl ho.one ho3.one
  unfold f__law_rest_right
  rw [fSeq_nx s0, fSeq_nx s1, fSeq_nx s2, fSeq_nx s3, fSeq_nx hall, fSeq_nx s5, s6]
end K79
end

section
set_option linter.all false
set_option maxRecDepth 100000
set_option maxHeartbeats 2000000
namespace K79
open Fl PySem
theorem ent_step {n : Nat} {c : Int} {x y : List Int} (h : Ent n x) (s : Step c x y) : Ent n y := by
  obtain ⟨i, l, h1, h2, rfl⟩ := s
  have hi := (List.getElem?_eq_some_iff.mp h1).1
  obtain ⟨g1, g2, g3⟩ := h
  rw [putS_set hi]
  refine ⟨by rw [sortI_len, List.length_set]; exact g1, sortI_sorted _, fun z hz => ?_⟩
  rcases List.mem_or_eq_of_mem_set (sortI_mem.mp hz) with q | q
  · exact g3 z q
  · omega
theorem lays_ent {n : Nat} : ∀ (r : List Int) (L : List (List Int)), (∀ y ∈ L, Ent n y) → ∀ M ∈ lays r L, ∀ y ∈ M, Ent n y
  | [], L, h, M, hM => by
    simp [lays] at hM
    subst hM
    exact h
  | c :: r, L, h, M, hM => by
    unfold lays at hM
    split at hM
    · simp at hM
      rcases hM with rfl | rfl
      · exact h
      · intro y hy; cases hy
    · rcases List.mem_cons.mp hM with rfl | hM
      · exact h
      · refine lays_ent r (nextE c L) (fun z hz => ?_) M hM
        obtain ⟨x, hx, s⟩ := mem_next.mp hz
        exact ent_step (h x hx) s
theorem filter_lt_sum {l : List Int} (c : Int) (h : ∀ x ∈ l, 0 ≤ x) : (l.filter fun x => decide (x < c)).sum ≤ l.sum := by
  induction l with
  | nil => simp
  | cons a l ih =>
    have h1 := ih fun x hx => h x (by simp [hx])
    have h2 := h a (by simp)
    rw [List.filter_cons]
    split <;> simp only [List.sum_cons] <;> omega
theorem mk_fall {p lost : Int} (hp : 2 ≤ p) (hp5 : p ≤ 5) (h0 : 0 ≤ lost) (h12 : lost ≤ 12) {cs : List Int} (L : LPool cs) (hb : ¬ Bear p lost cs) :
    ∃ (lot R ws : List Int) (c : Int), Fall p lost cs lot R ws c ∧ ∀ (d : D) (ns : List Int), dSeq d = some (ns.map .int) → ns.Perm cs → F_serves_after [d, .int p, .int lost] = some (.sh (.obj 3 [tupI lot, .int c, tupI ws])) := by
  obtain ⟨k, c, hk, hc, hf⟩ := not_bear hb
  obtain ⟨z, zs, hz⟩ := fall_fails hp hp5 h0 L.pos hc hf
  have rsub := fallR_sub cs lost h0 k
  have okr := L.ok.sub rsub
  have rsrt := L.srt.sublist rsub
  have hRs : (fallR cs lost k).sum ≤ 200 := by
    have h1 := Fl.sum_perm (fallR_perm cs lost h0 k)
    rw [List.sum_append] at h1
    have h2 : 0 ≤ (fallL cs lost k).sum := sum_nonneg fun x hx => L.pos x (by
      unfold fallL at hx
      exact List.mem_of_mem_drop (List.mem_of_mem_take hx))
    have := L.sum
    omega
  obtain ⟨w1, w2, w3, u, c', es, A, rest, q1, q2, q3, q4, q5⟩ := wish_stuck hp hp5 rsrt (fun x hx => (okr.2 x hx).1) hz
  have hstk : Stk u es A [sortI (wishS p (fallR cs lost k) z.toNat)] := ⟨by simp, fun y hy => by simp at hy; subst hy; exact sortI_sorted _, fun y hy => by simp at hy; subst hy; exact q5⟩
  have hl := lays_stuck1 (rest := rest) q2 q3 A _ q4 hstk
  have hr := rows_stuck (rest := rest) q2 q3 A _ q4 hstk
  rw [← q1] at hl hr
  refine ⟨fallL cs lost k, fallR cs lost k, wishS p (fallR cs lost k) z.toNat, c, ⟨L.ok, L.srt, okr, rsrt, fallR_perm cs lost h0 k, ?_, ?_, ?_, ?_, ⟨by omega, by omega, fun w hw => ⟨(w3 w hw).1, by have := (w3 w hw).2; omega⟩⟩, w1, by omega, hl, ?_, hr⟩, ?_⟩
  · unfold fallL
    exact (List.take_sublist _ _).trans (List.drop_sublist _ _)
  · have : (fallL cs lost k).length ≤ k - fst k lost := by
      unfold fallL
      rw [List.length_take]
      exact Nat.min_le_left _ _
    unfold fst at this
    omega
  · unfold fallR
    rw [split_at hc]
    simp
  · refine Int.lt_of_le_of_lt (cov_room hp ?_) hf
    unfold fallR
    rw [List.filter_append, List.sum_append]
    have e1 : (cs.drop k).filter (fun x => decide (x < c)) = [] := by
      rw [List.filter_eq_nil_iff]
      intro x hx
      obtain ⟨j, hj⟩ := List.getElem?_of_mem hx
      rw [List.getElem?_drop] at hj
      have := sorted_get L.srt (show k ≤ k + j by omega) hc hj
      simp
      omega
    rw [e1]
    have := filter_lt_sum (l := cs.take (fst k lost)) c (fun x hx => by have := L.pos x (List.mem_of_mem_take hx); omega)
    unfold cov
    unfold fst at this ⊢
    simpa using this
  · refine lays_ent _ _ fun y hy => ?_
    simp at hy
    subst hy
    exact ⟨sortI_len _, sortI_sorted _, fun l hl => (w3 l (sortI_mem.mp hl)).1⟩
  · intro d ns hd hpm
    have e : sortI ns = cs := by rw [sortI_congr hpm, sortI_id L.srt]
    have := m_serves_after_yes d hp hp5 h0 h12 ns hd (⟨by rw [hpm.length_eq]; exact L.ok.1, fun n hn => L.ok.2 n (hpm.mem_iff.mp hn)⟩) (k := k) (by rw [e]; exact hk) (by rw [e]; exact hc) (by rw [e]; exact hz)
    rw [e] at this
    exact this
end K79
end

section
set_option linter.all false
set_option maxRecDepth 100000
set_option maxHeartbeats 2000000
namespace K79
open Fl PySem
theorem m_fallen_right {p lost : Int} (hp : 2 ≤ p) (hp5 : p ≤ 5) (h0 : 0 ≤ lost) (h12 : lost ≤ 12) {cs lot R ws : List Int} {c : Int} (L : LPool cs) (F : Fall p lost cs lot R ws c) {o : O} (ho : HandOk o) :
    ∃ o', F__law_fallen_right [] o [.lst (cs.map .int), .int p, .int lost, .obj 3 [tupI lot, .int c, tupI ws]] = some (.sh (.bl true), o') ∧ HandOk o' := by
  obtain ⟨d, o1, ds, e1, ho1, hd, hpd⟩ := m_turned ho cs (by have := L.len; omega)
  have okd := L.ok.perm hpd
  have e0 := m_fallen_fault hp hp5 h0 h12 F (.lst (cs.map .int)) rfl
  have e2 := m_less_lot d (tupI lot) ds lot hd okd rfl F.okl (fun c => by rw [hpd.count_eq c]; exact F.cl c)
  rw [sortI_congr hpd, sortI_id L.srt, F.less] at e2
  have e3 := m_law_layers R ws (by have := F.okr.1; omega) F.okw.five F.row1
  have e4 := F.split
  have hfive := F.okw.five
  have e5 := m_layers_fault (tupI R) (tupI ws) R ws rfl F.okr (.inr rfl) F.okw F.sum (by rw [sortI_id F.rsrt]; exact fun M hM => ⟨Nat.le_trans (F.lay1.2 M hM) (by decide), F.layE M hM⟩) (by rw [sortI_id F.rsrt]; exact F.lay1.1)
  rw [sortI_id F.rsrt] at e5
  have l1 : dLen (tupI lot) = some (.int (lot.length : Nat)) := by simp [tupI]
  have l2 : dLen (tupI ws) = some (.int p) := by simp [tupI, F.wlen]
  have l3 : dSum (tupI R) = some (.int R.sum) := by simp [tupI]
  have l5 : dSum (tupI ws) = some (.int R.sum) := by simp [tupI, F.sum]
  have l4 : ¬ (lost < (lot.length : Int)) := by have := F.len; omega
  refine ⟨o1, ?_, ho1⟩
  generalize (D.tup ((lays R.reverse [sortI ws]).map lay)) = lx at *
  generalize lot.length = n1 at *
  generalize tupI lot = tl at *
  generalize tupI ws = tw at *
  generalize R.sum = rs at *
  generalize tupI R = tr at *
  generalize D.lst (cs.map D.int) = cm at *
  have s0 : (fIfS (fOr (fNot (fUn dTruth (fUn (dIsiC 3) (fVar 4)))) (fOr (fTest (fBin dGt (fArgs (d1 dLen) (fCons (fUn (dFld 3 0) (fVar 4)) fNil)) (fVar 3))) (fTest (fBin dNotN (fCall F_fallen_fault [] (fCons (fVar 1) (fCons (fVar 2) (fCons (fVar 3) (fCons (fVar 4) fNil))))) (fC .non))))) (fRet (fC (.bl false))) fSkip) [some (.own false o), some (.sh cm), some (.sh (.int p)), some (.sh (.int lost)), some (.sh (.obj 3 [tl, .int c, tw])), none, none] = some (.nx [some (.own false o), some (.sh cm), some (.sh (.int p)), some (.sh (.int lost)), some (.sh (.obj 3 [tl, .int c, tw])), none, none]) := by
    simp [-dLen, l1, l4, e0]
  have s1 : (fSet 5 (fCall F_less_lot [] (fCons (fCallI 0 F__law_turned (fHere 0 (fCons (fVar 1) fNil))) (fCons (fUn (dFld 3 0) (fVar 4)) fNil)))) [some (.own false o), some (.sh cm), some (.sh (.int p)), some (.sh (.int lost)), some (.sh (.obj 3 [tl, .int c, tw])), none, none] = some (.nx [some (.own false o1), some (.sh cm), some (.sh (.int p)), some (.sh (.int lost)), some (.sh (.obj 3 [tl, .int c, tw])), some (.sh tr), none]) := by
    simp [e1, e2]
  have s2 : (fIfS (fOr (fTest (fBin dNe (fArgs (d1 dLen) (fCons (fUn (dFld 3 2) (fVar 4)) fNil)) (fVar 2))) (fOr (fTest (fBin dNe (fArgs (d1 dSum) (fCons (fUn (dFld 3 2) (fVar 4)) fNil)) (fArgs (d1 dSum) (fCons (fVar 5) fNil)))) (fTest (fBin dNe (fCall F__law_layers [] (fCons (fVar 5) (fCons (fUn (dFld 3 2) (fVar 4)) fNil))) (fC (.int 0)))))) (fRet (fC (.bl false))) fSkip) [some (.own false o1), some (.sh cm), some (.sh (.int p)), some (.sh (.int lost)), some (.sh (.obj 3 [tl, .int c, tw])), some (.sh tr), none] = some (.nx [some (.own false o1), some (.sh cm), some (.sh (.int p)), some (.sh (.int lost)), some (.sh (.obj 3 [tl, .int c, tw])), some (.sh tr), none]) := by
    simp [-dLen, -dSum, l2, l3, l5, e3]
  have s3 : (fSet 6 (fCall F_any_split [] (fCons (fVar 5) (fCons (fUn (dFld 3 2) (fVar 4)) fNil)))) [some (.own false o1), some (.sh cm), some (.sh (.int p)), some (.sh (.int lost)), some (.sh (.obj 3 [tl, .int c, tw])), some (.sh tr), none] = some (.nx [some (.own false o1), some (.sh cm), some (.sh (.int p)), some (.sh (.int lost)), some (.sh (.obj 3 [tl, .int c, tw])), some (.sh tr), some (.sh (.obj 1 [lx]))]) := by
    simp [e4]
  have s4 : (fRet (fAndV (fUn (dIsiC 1) (fVar 6)) (fBin dIsN (fCall F_layers_fault [] (fCons (fVar 5) (fCons (fUn (dFld 3 2) (fVar 4)) (fCons (fUn (dFld 1 0) (fVar 6)) fNil)))) (fC .non)))) [some (.own false o1), some (.sh cm), some (.sh (.int p)), some (.sh (.int lost)), some (.sh (.obj 3 [tl, .int c, tw])), some (.sh tr), some (.sh (.obj 1 [lx]))] = some (.rt (.sh (.bl true)) [some (.own false o1), some (.sh cm), some (.sh (.int p)), some (.sh (.int lost)), some (.sh (.obj 3 [tl, .int c, tw])), some (.sh tr), some (.sh (.obj 1 [lx]))]) := by
    simp [e5]
  refine fnI_rt (ρ0 := [some (.own false o), some (.sh cm), some (.sh (.int p)), some (.sh (.int lost)), some (.sh (.obj 3 [tl, .int c, tw])), none, none]) (ρ := [some (.own false o1), some (.sh cm), some (.sh (.int p)), some (.sh (.int lost)), some (.sh (.obj 3 [tl, .int c, tw])), some (.sh tr), some (.sh (.obj 1 [lx]))]) rfl ?_ rfl ho.one ho1.one
  unfold f__law_fallen_right
  rw [fSeq_nx s0, fSeq_nx s1, fSeq_nx s2, fSeq_nx s3, s4]
end K79
end

section
set_option linter.all false
set_option maxRecDepth 100000
set_option maxHeartbeats 2000000
namespace K79
open Fl PySem
/-! ### the greatest loss that is borne -/
structure Bor (p : Int) (cs : List Int) (k : Nat) (b : Int) : Prop where
  good : b = -1 ∨ (0 ≤ b ∧ Bear p b cs)
  lt : b < k
  max : ∀ j : Nat, j < k → Bear p (j : Int) cs → (j : Int) ≤ b
theorem loop_most (x0 : Option Slot) {p : Int} (hp : 2 ≤ p) (hp5 : p ≤ 5) (cs : List Int) (hl : cs.length ≤ 1000) : ∀ (n k : Nat) (b : Int) (a : Option Slot), Bor p cs k b → 
    ∃ (b' : Int) (a' : Option Slot), forL t_most_lost_0 b_most_lost_1 (rgD k n) [x0, some (.sh (.int p)), some (.sh (tupI cs)), some (.sh (.int b)), a] = some (.nx [x0, some (.sh (.int p)), some (.sh (tupI cs)), some (.sh (.int b')), a']) ∧ Bor p cs (k + n) b'
  | 0, k, b, a, h => ⟨b, a, by simp [rgD, forL], h⟩
  | n + 1, k, b, a, h => by
    have e1 := m_first_fallen (tupI cs) hp hp5 cs (k : Int) rfl (by omega) hl
    have hr : rgD k (n + 1) = .int (k : Int) :: rgD (k + 1) n := by simp [rgD, List.range'_succ]
    rw [hr, show k + (n + 1) = k + 1 + n by omega]
    cases e : ff p (k : Int) cs cs 0 with
    | none =>
      rw [e] at e1
      obtain ⟨b', a', q1, q2⟩ := loop_most x0 hp hp5 cs hl n (k + 1) (k : Int) (some (.sh (.int (k : Int)))) ⟨.inr ⟨by omega, e⟩, by omega, fun j hj _ => by omega⟩
      refine ⟨b', a', ?_, q2⟩
      rw [← q1]
      generalize tupI cs = tc at *
      simp [forL, t_most_lost_0, b_most_lost_1, e1, optN]
    | some i =>
      rw [e] at e1
      obtain ⟨b', a', q1, q2⟩ := loop_most x0 hp hp5 cs hl n (k + 1) b (some (.sh (.int (k : Int)))) ⟨h.good, by have := h.lt; omega, fun j hj hb => by
        rcases Nat.lt_or_eq_of_le (Nat.le_of_lt_succ hj) with q | q
        · exact h.max j q hb
        · subst q; unfold Bear at hb; rw [e] at hb; cases hb⟩
      refine ⟨b', a', ?_, q2⟩
      rw [← q1]
      generalize tupI cs = tc at *
      simp [forL, t_most_lost_0, b_most_lost_1, e1, optN]
theorem last_of {cs : List Int} (hne : cs ≠ []) : ∃ (m : List Int) (x : Int), cs = m ++ [x] := ⟨cs.dropLast, cs.getLast hne, (List.dropLast_concat_getLast hne).symm⟩
theorem cov_nn {cs : List Int} (h : ∀ c ∈ cs, 1 ≤ c) (lost : Int) (k : Nat) : 0 ≤ cov cs lost k := sum_nonneg fun c hc => h c (List.mem_of_mem_take hc)
theorem bear_ones {p : Int} (hp : 2 ≤ p) {cs : List Int} (h : ∀ c ∈ cs, c = 1) (lost : Int) : Bear p lost cs := by
  rw [bear_iff]
  intro i c e
  have := h c (List.mem_of_getElem? e)
  have h1 := cov_nn (fun c hc => by have := h c hc; omega) lost i (cs := cs)
  have : 0 ≤ cov cs lost i / (p - 1) := Int.ediv_nonneg h1 (by omega)
  omega
theorem bear_far {p lost : Int} {m : List Int} {x : Int} (h : Bear p lost (m ++ [x])) (hl : ((m ++ [x]).length : Int) ≤ lost) : x ≤ 1 := by
  rw [bear_iff] at h
  have := h m.length x (by simp)
  unfold cov at this
  simp at hl
  rw [show ((m.length : Int) - lost).toNat = 0 by omega] at this
  simpa using this
theorem m_most_lost {p : Int} (hp : 2 ≤ p) (hp5 : p ≤ 5) {cs : List Int} (L : LPool cs) :
    (F_most_lost [.lst (cs.map .int), .int p] = some (.sh .non) ∧ ∀ c ∈ cs, c = 1) ∨
    ∃ b : Int, F_most_lost [.lst (cs.map .int), .int p] = some (.sh (.int b)) ∧ (b = -1 ∨ (0 ≤ b ∧ Bear p b cs)) ∧ b < 7 ∧ ¬ Bear p (b + 1) cs ∧ ∀ lost : Int, 0 ≤ lost → Bear p lost cs → lost ≤ b := by
  have e1 := m_check_pool (.lst (cs.map .int)) cs rfl L.ok
  rw [sortI_id L.srt] at e1
  have e1 : F_check_pool [.lst (cs.map .int)] = some (.sh (tupI cs)) := e1
  have e2 := m_check_people p 1 (by omega) hp5
  have hp1 : ¬ p = 1 := by omega
  have l1 : dLen (tupI cs) = some (.int (cs.length : Nat)) := by simp [tupI]
  by_cases hne : cs = []
  · subst hne
    refine .inl ⟨?_, by simp⟩
    simp only [List.map_nil] at e1 ⊢
    generalize tupI [] = tc at *
    simp [-dLen, F_most_lost, f_most_lost, e1, e2, hp1, l1]
  · obtain ⟨m, x, hmx⟩ := last_of hne
    have hx := last_ix m x
    have hix : dIx (tupI cs) (.int (-1)) = some (.int x) := by rw [hmx]; exact hx
    have hl0 : ¬ cs.length = 0 := fun z => hne (List.eq_nil_of_length_eq_zero z)
    have hx1 : 1 ≤ x := L.pos x (by rw [hmx]; simp)
    by_cases h1 : x = 1
    · refine .inl ⟨?_, fun c hc => ?_⟩
      · generalize D.lst (cs.map D.int) = cm at *
        generalize tupI cs = tc at *
        generalize cs.length = n at *
        simp [-dLen, -dIx, F_most_lost, f_most_lost, e1, e2, hp1, l1, hl0, hix, h1]
      · have h2 := L.srt
        have h3 := L.pos c hc
        rw [hmx] at h2 hc
        rcases List.mem_append.mp hc with q | q
        · have := (List.pairwise_append.mp h2).2.2 c q x (by simp)
          omega
        · simp at q; omega
    · obtain ⟨b, a, e3, B⟩ := loop_most (some (.sh (.lst (cs.map .int)))) hp hp5 cs (by have := L.len; omega) cs.length 0 (-1) none ⟨.inl rfl, by omega, fun j hj => by omega⟩
      rw [Nat.zero_add] at B
      have far : ∀ lost : Int, (cs.length : Int) ≤ lost → ¬ Bear p lost cs := fun lost hl hb => by
        rw [hmx] at hb hl
        have := bear_far hb hl
        omega
      have hlen := L.len
      have hblt := B.lt
      refine .inr ⟨b, ?_, B.good, by omega, fun hb => ?_, fun lost hl0 hb => ?_⟩
      · have h4 : dRng1 [.int (cs.length : Int)] = some (rgD 0 cs.length) := by rw [← rngL_rg]; exact dRng1_nat _ (by omega)
        generalize D.lst (cs.map D.int) = cm at *
        generalize tupI cs = tc at *
        generalize cs.length = n at *
        have s0 : (fSet 2 (fCall F_check_pool [] (fCons (fVar 0) fNil))) [some (.sh cm), some (.sh (.int p)), none, none, none] = some (.nx [some (.sh cm), some (.sh (.int p)), some (.sh tc), none, none]) := by simp [e1]
        have s1 : (fDrop (fCall F_check_people [.int 1] (fCons (fVar 1) fNil))) [some (.sh cm), some (.sh (.int p)), some (.sh tc), none, none] = some (.nx [some (.sh cm), some (.sh (.int p)), some (.sh tc), none, none]) := by simp [e2]
        have s2 : (fIfS (fOr (fTest (fBin dEq (fVar 1) (fC (.int 1)))) (fOr (fTest (fBin dEq (fArgs (d1 dLen) (fCons (fVar 2) fNil)) (fC (.int 0)))) (fTest (fBin dEq (fBin dIx (fVar 2) (fUn dNeg (fC (.int 1)))) (fC (.int 1)))))) (fRet (fC .non)) fSkip) [some (.sh cm), some (.sh (.int p)), some (.sh tc), none, none] = some (.nx [some (.sh cm), some (.sh (.int p)), some (.sh tc), none, none]) := by simp [-dLen, -dIx, hp1, l1, hl0, hix, h1]
        have s3 : (fSet 3 (fUn dNeg (fC (.int 1)))) [some (.sh cm), some (.sh (.int p)), some (.sh tc), none, none] = some (.nx [some (.sh cm), some (.sh (.int p)), some (.sh tc), some (.sh (.int (-1))), none]) := by simp
        have s4 : (fFor (fArgs dRng1 (fCons (fArgs (d1 dLen) (fCons (fVar 2) fNil)) fNil)) t_most_lost_0 b_most_lost_1) [some (.sh cm), some (.sh (.int p)), some (.sh tc), some (.sh (.int (-1))), none] = some (.nx [some (.sh cm), some (.sh (.int p)), some (.sh tc), some (.sh (.int b)), a]) := by
          have q : (fArgs dRng1 (fCons (fArgs (d1 dLen) (fCons (fVar 2) fNil)) fNil)) [some (.sh cm), some (.sh (.int p)), some (.sh tc), some (.sh (.int (-1))), none] = some (rgD 0 n, [some (.sh cm), some (.sh (.int p)), some (.sh tc), some (.sh (.int (-1))), none]) := fArgs_of (ds := [.int (n : Int)]) (by simp [-dLen, l1]) h4
          unfold fFor
          rw [q]
          exact e3
        have s5 : (fRet (fVar 3)) [some (.sh cm), some (.sh (.int p)), some (.sh tc), some (.sh (.int b)), a] = some (.rt (.sh (.int b)) [some (.sh cm), some (.sh (.int p)), some (.sh tc), some (.sh (.int b)), a]) := by simp
        unfold F_most_lost fnD f_most_lost
        show outD 5 (fSeq _ _ [some (.sh cm), some (.sh (.int p)), none, none, none]) = _
        rw [fSeq_nx s0, fSeq_nx s1, fSeq_nx s2, fSeq_nx s3, fSeq_nx s4, s5]
        rfl
      · rcases Int.lt_or_le (b + 1) (cs.length : Int) with q | q
        · have hb0 : 0 ≤ b + 1 := by rcases B.good with h | h <;> omega
          obtain ⟨j, hj⟩ : ∃ j : Nat, b + 1 = (j : Int) := ⟨(b + 1).toNat, by omega⟩
          rw [hj] at hb q
          have := B.max j (by omega) hb
          omega
        · exact far _ q hb
      · rcases Int.lt_or_le lost (cs.length : Int) with q | q
        · obtain ⟨j, rfl⟩ : ∃ j : Nat, lost = (j : Int) := ⟨lost.toNat, by omega⟩
          exact B.max j (by omega) hb
        · exact absurd hb (far _ q)
end K79
end

section
set_option linter.all false
set_option maxRecDepth 100000
set_option maxHeartbeats 2000000
namespace K79
open Fl PySem
theorem hand_ok (ns : List Int) : HandOk (handO ns) := ⟨ns.map absI, 0, 0, handTot 0 0 ns, by unfold handO hdO; simp [Function.comp_def]⟩
theorem len_lot (lot : List Int) : dLen (tupI lot) = some (.int (lot.length : Nat)) := by simp [tupI]
theorem b_law_step {p lost : Int} (hp : 2 ≤ p) (hp5 : p ≤ 5) (h0 : 0 ≤ lost) (h12 : lost ≤ 12) {cs : List Int} (L : LPool cs) (hb : Bear p lost cs) (x0 x5 x6 x7 x8 : Option Slot) {o : O} (ho : HandOk o) :
    ∃ (o' : O) (x7' : Option Slot), b_law_1 [x0, some (.own true o), some (.sh (.int p)), some (.sh (.int lost)), some (.sh (.lst (cs.map .int))), x5, x6, x7, x8] = some (.nx [x0, some (.own true o'), some (.sh (.int p)), some (.sh (.int lost)), some (.sh (.lst (cs.map .int))), x5, x6, x7', x8]) ∧ HandOk o' := by
  obtain ⟨o1, lot, e1, ho1, _, hcl, hll⟩ := m_drawn_lot h0 ho cs (by have := L.len; omega)
  obtain ⟨o2, e2, ho2⟩ := m_rest_right hp hp5 h0 h12 L hb hcl hll ho1
  have l1 := len_lot lot
  refine ⟨o2, some (.sh (tupI lot)), ?_, ho2⟩
  generalize lot.length = n at *
  generalize tupI lot = tl at *
  generalize D.lst (cs.map D.int) = cm at *
  have s0 : (fSet 7 (fCallI 1 F__law_drawn_lot (fHere 1 (fCons (fVar 4) (fCons (fVar 3) fNil))))) [x0, some (.own true o), some (.sh (.int p)), some (.sh (.int lost)), some (.sh cm), x5, x6, x7, x8] = some (.nx [x0, some (.own true o1), some (.sh (.int p)), some (.sh (.int lost)), some (.sh cm), x5, x6, some (.sh tl), x8]) := by simp [e1]
  unfold b_law_1
  rw [fSeq_nx s0]
  simp [-dLen, l1, e2]
theorem loop_law {p lost : Int} (hp : 2 ≤ p) (hp5 : p ≤ 5) (h0 : 0 ≤ lost) (h12 : lost ≤ 12) {cs : List Int} (L : LPool cs) (hb : Bear p lost cs) (x0 x5 x8 : Option Slot) : ∀ (n k : Nat) (x6 x7 : Option Slot) (o : O), HandOk o →
    ∃ (o' : O) (x6' x7' : Option Slot), forL t_law_0 b_law_1 (rgD k n) [x0, some (.own true o), some (.sh (.int p)), some (.sh (.int lost)), some (.sh (.lst (cs.map .int))), x5, x6, x7, x8] = some (.nx [x0, some (.own true o'), some (.sh (.int p)), some (.sh (.int lost)), some (.sh (.lst (cs.map .int))), x5, x6', x7', x8]) ∧ HandOk o'
  | 0, k, x6, x7, o, ho => ⟨o, x6, x7, by simp [rgD, forL], ho⟩
  | n + 1, k, x6, x7, o, ho => by
    obtain ⟨o1, y7, e1, ho1⟩ := b_law_step hp hp5 h0 h12 L hb x0 x5 (some (.sh (.int (k : Int)))) x7 x8 ho
    obtain ⟨o', z6, z7, e, ho'⟩ := loop_law hp hp5 h0 h12 L hb x0 x5 x8 n (k + 1) (some (.sh (.int (k : Int)))) y7 o1 ho1
    refine ⟨o', z6, z7, ?_, ho'⟩
    have hr : rgD k (n + 1) = .int (k : Int) :: rgD (k + 1) n := by simp [rgD, List.range'_succ]
    rw [hr, ← e]
    have et : t_law_0 (.int (k : Int)) [x0, some (.own true o), some (.sh (.int p)), some (.sh (.int lost)), some (.sh (.lst (cs.map .int))), x5, x6, x7, x8] = some [x0, some (.own true o), some (.sh (.int p)), some (.sh (.int lost)), some (.sh (.lst (cs.map .int))), x5, some (.sh (.int (k : Int))), x7, x8] := by simp [t_law_0]
    show ((t_law_0 (.int (k : Int)) [x0, some (.own true o), some (.sh (.int p)), some (.sh (.int lost)), some (.sh (.lst (cs.map .int))), x5, x6, x7, x8]).bind fun ρ1 => (b_law_1 ρ1).bind _) = _
    rw [et, Option.bind_some, e1, Option.bind_some]
theorem law_true : Fl.LawTrue f_law 7 := fun ns hns => by
  have ho := hand_ok ns
  generalize handO ns = o at *
  obtain ⟨p, o1, e1, ho1, hp, hp5⟩ := m_few ho
  obtain ⟨lost, o2, e2, ho2, h0, h12⟩ := m_lost ho1
  obtain ⟨o3, cs, e3, ho3, L⟩ := m_loss_pool hp hp5 h0 ho2
  obtain ⟨d, o4, ds, e4, ho4, hd, hpd⟩ := m_turned ho3 cs (by have := L.len; omega)
  have s0 : (fSet 2 (fCallI 1 F__law_few_people (fHere 1 fNil))) [none, some (.own true o), none, none, none, none, none, none, none] = some (.nx [none, some (.own true o1), some (.sh (.int p)), none, none, none, none, none, none]) := by simp [e1]
  have s1 : (fSet 3 (fCallI 1 F__law_lost (fHere 1 fNil))) [none, some (.own true o1), some (.sh (.int p)), none, none, none, none, none, none] = some (.nx [none, some (.own true o2), some (.sh (.int p)), some (.sh (.int lost)), none, none, none, none, none]) := by simp [e2]
  have s2 : (fSet 4 (fCallI 1 F__law_loss_pool (fHere 1 (fCons (fC (.int 7)) (fCons (fVar 2) (fCons (fVar 3) fNil)))))) [none, some (.own true o2), some (.sh (.int p)), some (.sh (.int lost)), none, none, none, none, none] = some (.nx [none, some (.own true o3), some (.sh (.int p)), some (.sh (.int lost)), some (.sh (.lst (cs.map .int))), none, none, none, none]) := by
    generalize D.lst (cs.map D.int) = cm at *
    simp [e3]
  by_cases hb : Bear p lost cs
  · have e5 := m_serves_after_no d hp hp5 h0 h12 ds hd (L.ok.perm hpd) (by rw [sortI_congr hpd, sortI_id L.srt]; exact hb)
    obtain ⟨o5, x6, x7, e6, ho5⟩ := loop_law hp hp5 h0 h12 L hb none (some (.sh .non)) none 4 0 none none o4 ho4
    have s3 : (fSet 5 (fCall F_serves_after [] (fCons (fCallI 1 F__law_turned (fHere 1 (fCons (fVar 4) fNil))) (fCons (fVar 2) (fCons (fVar 3) fNil))))) [none, some (.own true o3), some (.sh (.int p)), some (.sh (.int lost)), some (.sh (.lst (cs.map .int))), none, none, none, none] = some (.nx [none, some (.own true o4), some (.sh (.int p)), some (.sh (.int lost)), some (.sh (.lst (cs.map .int))), some (.sh .non), none, none, none]) := by
      generalize D.lst (cs.map D.int) = cm at *
      simp [e4, e5]
    have s4 : (fIfS (fTest (fBin dNotN (fVar 5) (fC .non))) (fRet (fCallI 1 F__law_fallen_right (fHere 1 (fCons (fVar 4) (fCons (fVar 2) (fCons (fVar 3) (fCons (fVar 5) fNil))))))) fSkip) [none, some (.own true o4), some (.sh (.int p)), some (.sh (.int lost)), some (.sh (.lst (cs.map .int))), some (.sh .non), none, none, none] = some (.nx [none, some (.own true o4), some (.sh (.int p)), some (.sh (.int lost)), some (.sh (.lst (cs.map .int))), some (.sh .non), none, none, none]) := by
      generalize D.lst (cs.map D.int) = cm at *
      simp
    have s5 : (fFor (fArgs dRng1 (fCons (fC (.int 4)) fNil)) t_law_0 b_law_1) [none, some (.own true o4), some (.sh (.int p)), some (.sh (.int lost)), some (.sh (.lst (cs.map .int))), some (.sh .non), none, none, none] = some (.nx [none, some (.own true o5), some (.sh (.int p)), some (.sh (.int lost)), some (.sh (.lst (cs.map .int))), some (.sh .non), x6, x7, none]) := by
      have h4 : dRng1 [.int ((4 : Nat) : Int)] = some (rgD 0 4) := by rw [← rngL_rg]; exact dRng1_nat _ (by omega)
      have q : (fArgs dRng1 (fCons (fC (.int 4)) fNil)) [none, some (.own true o4), some (.sh (.int p)), some (.sh (.int lost)), some (.sh (.lst (cs.map .int))), some (.sh .non), none, none, none] = some (rgD 0 4, [none, some (.own true o4), some (.sh (.int p)), some (.sh (.int lost)), some (.sh (.lst (cs.map .int))), some (.sh .non), none, none, none]) := fArgs_of (ds := [.int ((4 : Nat) : Int)]) (by simp) h4
      unfold fFor
      rw [q]
      exact e6
    rcases m_most_lost hp hp5 L with ⟨e7, hones⟩ | ⟨b, e7, g1, g2, g3, g4⟩
    · have e8 := m_serves_after_no (.lst (cs.map .int)) hp hp5 (lost := 12) (by omega) (by omega) cs rfl L.ok (by rw [sortI_id L.srt]; exact bear_ones hp hones 12)
      refine ⟨[none, some (.own true o5), some (.sh (.int p)), some (.sh (.int lost)), some (.sh (.lst (cs.map .int))), some (.sh .non), x6, x7, some (.sh .non)], ?_⟩
      show f_law [none, some (.own true o), none, none, none, none, none, none, none] = _
      unfold f_law
      rw [fSeq_nx s0, fSeq_nx s1, fSeq_nx s2, fSeq_nx s3, fSeq_nx s4, fSeq_nx s5]
      generalize D.lst (cs.map D.int) = cm at *
      have s6 : (fSet 8 (fCall F_most_lost [] (fCons (fVar 4) (fCons (fVar 2) fNil)))) [none, some (.own true o5), some (.sh (.int p)), some (.sh (.int lost)), some (.sh cm), some (.sh .non), x6, x7, none] = some (.nx [none, some (.own true o5), some (.sh (.int p)), some (.sh (.int lost)), some (.sh cm), some (.sh .non), x6, x7, some (.sh .non)]) := by simp [e7]
      have s7 : (fIfS (fTest (fBin dIsN (fVar 8) (fC .non))) (fRet (fBin dIsN (fCall F_serves_after [] (fCons (fVar 4) (fCons (fVar 2) (fCons (fC (.int 12)) fNil)))) (fC .non))) fSkip) [none, some (.own true o5), some (.sh (.int p)), some (.sh (.int lost)), some (.sh cm), some (.sh .non), x6, x7, some (.sh .non)] = some (.rt (.sh (.bl true)) [none, some (.own true o5), some (.sh (.int p)), some (.sh (.int lost)), some (.sh cm), some (.sh .non), x6, x7, some (.sh .non)]) := by simp [e8]
      rw [fSeq_nx s6, fSeq_rt s7]
    · have hlb := g4 lost h0 hb
      have hbB : Bear p b cs := by rcases g1 with h | h
                                   · omega
                                   · exact h.2
      have e8 := m_serves_after_no (.lst (cs.map .int)) hp hp5 (lost := b) (by omega) (by omega) cs rfl L.ok (by rw [sortI_id L.srt]; exact hbB)
      obtain ⟨lot, R, ws, c, F, e9⟩ := mk_fall hp hp5 (lost := b + 1) (by omega) (by omega) L g3
      have e9 := e9 (.lst (cs.map .int)) cs rfl (List.Perm.refl _)
      obtain ⟨o6, e10, ho6⟩ := m_fallen_right hp hp5 (by omega) (by omega) L F ho5
      have hlb2 : ¬ b < lost := by omega
      refine ⟨[none, some (.own true o6), some (.sh (.int p)), some (.sh (.int lost)), some (.sh (.lst (cs.map .int))), some (.sh .non), x6, x7, some (.sh (.int b))], ?_⟩
      show f_law [none, some (.own true o), none, none, none, none, none, none, none] = _
      unfold f_law
      rw [fSeq_nx s0, fSeq_nx s1, fSeq_nx s2, fSeq_nx s3, fSeq_nx s4, fSeq_nx s5]
      generalize D.obj 3 [tupI lot, .int c, tupI ws] = ob at *
      generalize D.lst (cs.map D.int) = cm at *
      have s6 : (fSet 8 (fCall F_most_lost [] (fCons (fVar 4) (fCons (fVar 2) fNil)))) [none, some (.own true o5), some (.sh (.int p)), some (.sh (.int lost)), some (.sh cm), some (.sh .non), x6, x7, none] = some (.nx [none, some (.own true o5), some (.sh (.int p)), some (.sh (.int lost)), some (.sh cm), some (.sh .non), x6, x7, some (.sh (.int b))]) := by simp [e7]
      have s7 : (fIfS (fTest (fBin dIsN (fVar 8) (fC .non))) (fRet (fBin dIsN (fCall F_serves_after [] (fCons (fVar 4) (fCons (fVar 2) (fCons (fC (.int 12)) fNil)))) (fC .non))) fSkip) [none, some (.own true o5), some (.sh (.int p)), some (.sh (.int lost)), some (.sh cm), some (.sh .non), x6, x7, some (.sh (.int b))] = some (.nx [none, some (.own true o5), some (.sh (.int p)), some (.sh (.int lost)), some (.sh cm), some (.sh .non), x6, x7, some (.sh (.int b))]) := by simp
      have s8 : (fIfS (fOr (fTest (fBin dLt (fVar 8) (fVar 3))) (fTest (fBin dNotN (fCall F_serves_after [] (fCons (fVar 4) (fCons (fVar 2) (fCons (fVar 8) fNil)))) (fC .non)))) (fRet (fC (.bl false))) fSkip) [none, some (.own true o5), some (.sh (.int p)), some (.sh (.int lost)), some (.sh cm), some (.sh .non), x6, x7, some (.sh (.int b))] = some (.nx [none, some (.own true o5), some (.sh (.int p)), some (.sh (.int lost)), some (.sh cm), some (.sh .non), x6, x7, some (.sh (.int b))]) := by simp [hlb2, e8]
      have s9 : (fRet (fCallI 1 F__law_fallen_right (fHere 1 (fCons (fVar 4) (fCons (fVar 2) (fCons (fBin dAdd (fVar 8) (fC (.int 1))) (fCons (fCall F_serves_after [] (fCons (fVar 4) (fCons (fVar 2) (fCons (fBin dAdd (fVar 8) (fC (.int 1))) fNil)))) fNil))))))) [none, some (.own true o5), some (.sh (.int p)), some (.sh (.int lost)), some (.sh cm), some (.sh .non), x6, x7, some (.sh (.int b))] = some (.rt (.sh (.bl true)) [none, some (.own true o6), some (.sh (.int p)), some (.sh (.int lost)), some (.sh cm), some (.sh .non), x6, x7, some (.sh (.int b))]) := by simp [e9, e10]
      rw [fSeq_nx s6, fSeq_nx s7, fSeq_nx s8, s9]
  · obtain ⟨lot, R, ws, c, F, e9⟩ := mk_fall hp hp5 h0 h12 L hb
    have e5 := e9 d ds hd hpd
    obtain ⟨o6, e10, ho6⟩ := m_fallen_right hp hp5 h0 h12 L F ho4
    have hob : dNotN (.obj 3 [tupI lot, .int c, tupI ws]) .non = some (.bl true) := rfl
    generalize D.obj 3 [tupI lot, .int c, tupI ws] = ob at *
    refine ⟨[none, some (.own true o6), some (.sh (.int p)), some (.sh (.int lost)), some (.sh (.lst (cs.map .int))), some (.sh ob), none, none, none], ?_⟩
    show f_law [none, some (.own true o), none, none, none, none, none, none, none] = _
    unfold f_law
    rw [fSeq_nx s0, fSeq_nx s1, fSeq_nx s2]
    generalize D.lst (cs.map D.int) = cm at *
    have s3 : (fSet 5 (fCall F_serves_after [] (fCons (fCallI 1 F__law_turned (fHere 1 (fCons (fVar 4) fNil))) (fCons (fVar 2) (fCons (fVar 3) fNil))))) [none, some (.own true o3), some (.sh (.int p)), some (.sh (.int lost)), some (.sh cm), none, none, none, none] = some (.nx [none, some (.own true o4), some (.sh (.int p)), some (.sh (.int lost)), some (.sh cm), some (.sh ob), none, none, none]) := by simp [e4, e5]
    have s4 : (fIfS (fTest (fBin dNotN (fVar 5) (fC .non))) (fRet (fCallI 1 F__law_fallen_right (fHere 1 (fCons (fVar 4) (fCons (fVar 2) (fCons (fVar 3) (fCons (fVar 5) fNil))))))) fSkip) [none, some (.own true o4), some (.sh (.int p)), some (.sh (.int lost)), some (.sh cm), some (.sh ob), none, none, none] = some (.rt (.sh (.bl true)) [none, some (.own true o6), some (.sh (.int p)), some (.sh (.int lost)), some (.sh cm), some (.sh ob), none, none, none]) := by simp [-dNotN, hob, e10]
    rw [fSeq_nx s3, fSeq_rt s4]
end K79
end
open PySem PySem.W PyProof.Rows
set_option maxRecDepth 100000 in
set_option maxHeartbeats 0 in
theorem PySem.Challenge.cw_anyworths_k79_whole_drawn_losses_struck_holds : PySem.Challenge.rw_anyworths_k79_whole_drawn_losses_struck.Holds := by
  w_on; o_law; k_head; (case hw => w_witness2)
  k_fill
  refine L2.walk_of (l := PySem.Challenge.rw_anyworths_k79_whole_drawn_losses_struck) (n := 63) (k := 10) (x := "_law_script") (CX := fun _ => L2.CX0) (sp := fun w => Fl.spLaw _) rfl (by decide) rfl ⟨rfl, by decide, by decide⟩ (fun w h Y => PySem.W.kIn_of Y) ?F (fun _ _ a ns hl _ hS => ⟨a, ns, rfl, hS, hl, fun _ => rfl⟩) (fun _ _ _ _ _ h => h)
  case F =>
    intro w mg fa h KX G hmg
    refine' K79.all_mk K79.law_true KX G hmg ?a0 ?l0 ?c0 ?k0 ?a1 ?l1 ?c1 ?k1 ?a2 ?l2 ?c2 ?k2 ?a3 ?l3 ?c3 ?k3 ?a4 ?l4 ?c4 ?k4 ?a5 ?l5 ?c5 ?k5 ?a6 ?l6 ?c6 ?k6 ?a7 ?l7 ?c7 ?k7 ?a8 ?l8 ?c8 ?k8 ?a9 ?l9 ?c9 ?k9 ?a10 ?l10 ?c10 ?k10 ?a11 ?l11 ?c11 ?k11 ?lT11 ?a12 ?l12 ?c12 ?k12 ?a13 ?l13 ?c13 ?k13 ?a14 ?l14 ?c14 ?k14 ?a15 ?l15 ?c15 ?k15 ?a16 ?l16 ?c16 ?k16 ?a17 ?l17 ?c17 ?k17 ?a18 ?l18 ?c18 ?k18 ?a19 ?l19 ?c19 ?k19 ?a20 ?l20 ?c20 ?k20 ?a21 ?l21 ?c21 ?k21 ?a22 ?l22 ?c22 ?k22 ?a23 ?l23 ?c23 ?k23 ?a24 ?l24 ?c24 ?k24 ?a25 ?l25 ?c25 ?k25 ?a26 ?l26 ?c26 ?k26 ?a27 ?l27 ?c27 ?k27 ?a28 ?l28 ?c28 ?k28 ?a29 ?l29 ?c29 ?k29 ?a30 ?l30 ?c30 ?k30 ?a31 ?l31 ?c31 ?k31 ?a32 ?l32 ?c32 ?k32 ?a33 ?l33 ?c33 ?k33 ?a34 ?l34 ?c34 ?k34 ?a35 ?l35 ?c35 ?k35 ?a36 ?l36 ?c36 ?k36 ?a37 ?l37 ?c37 ?k37 ?a38 ?l38 ?c38 ?k38 ?a39 ?l39 ?c39 ?k39 ?a40 ?l40 ?c40 ?k40 ?a41 ?l41 ?c41 ?k41 ?a42 ?l42 ?c42 ?k42 ?a43 ?l43 ?c43 ?k43 ?lT43 ?a44 ?l44 ?c44 ?k44 ?a45 ?l45 ?c45 ?k45 ?a46 ?l46 ?c46 ?k46 ?a47 ?l47 ?c47 ?k47 ?a48 ?l48 ?c48 ?k48 ?a49 ?l49 ?c49 ?k49 ?a50 ?l50 ?c50 ?k50 ?a51 ?l51 ?c51 ?k51 ?a52 ?l52 ?c52 ?k52 ?a53 ?l53 ?c53 ?k53 ?a54 ?l54 ?c54 ?k54 ?a55 ?l55 ?c55 ?k55 ?a56 ?l56 ?c56 ?k56 ?a57 ?l57 ?c57 ?k57 ?a58 ?l58 ?c58 ?k58 ?A0 ?pg0 ?hd0 ?po0 ?sa0 ?ha0 ?hn0 ?ht0 ?hm0 ?ic0 ?ty0 ?na0_0 ?na0_1 ?m10 ?m20 ?m30 ?m40 ?L0 ?Oc0 ?Ok0 ?A1 ?pg1 ?hd1 ?po1 ?sa1 ?ha1 ?hn1 ?ht1 ?hm1 ?ic1 ?ty1 ?na1_0 ?m11 ?m21 ?m31 ?m41 ?L1 ?Oc1 ?Ok1 ?A2 ?pg2 ?hd2 ?po2 ?sa2 ?ha2 ?hn2 ?ht2 ?hm2 ?ic2 ?ty2 ?na2_0 ?na2_1 ?m12 ?m22 ?m32 ?m42 ?L2 ?Oc2 ?Ok2 ?A3 ?pg3 ?hd3 ?po3 ?sa3 ?ha3 ?hn3 ?ht3 ?hm3 ?ic3 ?ty3 ?na3_0 ?na3_1 ?na3_2 ?m13 ?m23 ?m33 ?m43 ?L3 ?Oc3 ?Ok3 ?z_abs ?z_all ?z_bool ?z_divmod ?z_enumerate ?z_int ?z_isinstance ?z_len ?z_list ?z_max ?z_min ?z_range ?z_sorted ?z_sum ?z_tuple ?z_zip ?v_MOST_AMOUNT ?v_MOST_COINS ?v_MOST_ENTRIES ?v_MOST_PEOPLE ?v_MOST_WORTH
    (case a0 => k_is); (case l0 => k_is); (case c0 => k_is); (case k0 => k_is); (case a1 => k_is); (case l1 => k_is); (case c1 => k_is); (case k1 => k_is); (case a2 => k_is); (case l2 => k_is); (case c2 => k_is); (case k2 => k_is); (case a3 => k_is); (case l3 => k_is); (case c3 => k_is); (case k3 => k_is); (case a4 => k_is); (case l4 => k_is); (case c4 => k_is); (case k4 => k_is); (case a5 => k_is); (case l5 => k_is); (case c5 => k_is); (case k5 => k_is); (case a6 => k_is); (case l6 => k_is); (case c6 => k_is); (case k6 => k_is); (case a7 => k_is); (case l7 => k_is); (case c7 => k_is); (case k7 => k_is); (case a8 => k_is); (case l8 => k_is); (case c8 => k_is); (case k8 => k_is); (case a9 => k_is); (case l9 => k_is); (case c9 => k_is); (case k9 => k_is); (case a10 => k_is); (case l10 => k_is); (case c10 => k_is); (case k10 => k_is); (case a11 => k_is); (case l11 => k_is); (case c11 => k_is); (case k11 => k_is); (case lT11 => k_is); (case a12 => k_is); (case l12 => k_is); (case c12 => k_is); (case k12 => k_is); (case a13 => k_is); (case l13 => k_is); (case c13 => k_is); (case k13 => k_is); (case a14 => k_is); (case l14 => k_is); (case c14 => k_is); (case k14 => k_is); (case a15 => k_is); (case l15 => k_is); (case c15 => k_is); (case k15 => k_is); (case a16 => k_is); (case l16 => k_is); (case c16 => k_is); (case k16 => k_is); (case a17 => k_is); (case l17 => k_is); (case c17 => k_is); (case k17 => k_is); (case a18 => k_is); (case l18 => k_is); (case c18 => k_is); (case k18 => k_is); (case a19 => k_is); (case l19 => k_is); (case c19 => k_is); (case k19 => k_is); (case a20 => k_is); (case l20 => k_is); (case c20 => k_is); (case k20 => k_is); (case a21 => k_is); (case l21 => k_is); (case c21 => k_is); (case k21 => k_is); (case a22 => k_is); (case l22 => k_is); (case c22 => k_is); (case k22 => k_is); (case a23 => k_is); (case l23 => k_is); (case c23 => k_is); (case k23 => k_is); (case a24 => k_is); (case l24 => k_is); (case c24 => k_is); (case k24 => k_is); (case a25 => k_is); (case l25 => k_is); (case c25 => k_is); (case k25 => k_is); (case a26 => k_is); (case l26 => k_is); (case c26 => k_is); (case k26 => k_is); (case a27 => k_is); (case l27 => k_is); (case c27 => k_is); (case k27 => k_is); (case a28 => k_is); (case l28 => k_is); (case c28 => k_is); (case k28 => k_is); (case a29 => k_is); (case l29 => k_is); (case c29 => k_is); (case k29 => k_is); (case a30 => k_is); (case l30 => k_is); (case c30 => k_is); (case k30 => k_is); (case a31 => k_is); (case l31 => k_is); (case c31 => k_is); (case k31 => k_is); (case a32 => k_is); (case l32 => k_is); (case c32 => k_is); (case k32 => k_is); (case a33 => k_is); (case l33 => k_is); (case c33 => k_is); (case k33 => k_is); (case a34 => k_is); (case l34 => k_is); (case c34 => k_is); (case k34 => k_is); (case a35 => k_is); (case l35 => k_is); (case c35 => k_is); (case k35 => k_is); (case a36 => k_is); (case l36 => k_is); (case c36 => k_is); (case k36 => k_is); (case a37 => k_is); (case l37 => k_is); (case c37 => k_is); (case k37 => k_is); (case a38 => k_is); (case l38 => k_is); (case c38 => k_is); (case k38 => k_is); (case a39 => k_is); (case l39 => k_is); (case c39 => k_is); (case k39 => k_is); (case a40 => k_is); (case l40 => k_is); (case c40 => k_is); (case k40 => k_is); (case a41 => k_is); (case l41 => k_is); (case c41 => k_is); (case k41 => k_is); (case a42 => k_is); (case l42 => k_is); (case c42 => k_is); (case k42 => k_is); (case a43 => k_is); (case l43 => k_is); (case c43 => k_is); (case k43 => k_is); (case lT43 => k_is); (case a44 => k_is); (case l44 => k_is); (case c44 => k_is); (case k44 => k_is); (case a45 => k_is); (case l45 => k_is); (case c45 => k_is); (case k45 => k_is); (case a46 => k_is); (case l46 => k_is); (case c46 => k_is); (case k46 => k_is); (case a47 => k_is); (case l47 => k_is); (case c47 => k_is); (case k47 => k_is); (case a48 => k_is); (case l48 => k_is); (case c48 => k_is); (case k48 => k_is); (case a49 => k_is); (case l49 => k_is); (case c49 => k_is); (case k49 => k_is); (case a50 => k_is); (case l50 => k_is); (case c50 => k_is); (case k50 => k_is); (case a51 => k_is); (case l51 => k_is); (case c51 => k_is); (case k51 => k_is); (case a52 => k_is); (case l52 => k_is); (case c52 => k_is); (case k52 => k_is); (case a53 => k_is); (case l53 => k_is); (case c53 => k_is); (case k53 => k_is); (case a54 => k_is); (case l54 => k_is); (case c54 => k_is); (case k54 => k_is); (case a55 => k_is); (case l55 => k_is); (case c55 => k_is); (case k55 => k_is); (case a56 => k_is); (case l56 => k_is); (case c56 => k_is); (case k56 => k_is); (case a57 => k_is); (case l57 => k_is); (case c57 => k_is); (case k57 => k_is); (case a58 => k_is); (case l58 => k_is); (case c58 => k_is); (case k58 => k_is); (case A0 => k_is); (case pg0 => k_is); (case hd0 => k_is); (case po0 => k_is); (case sa0 => k_is); (case ha0 => k_is); (case hn0 => k_is); (case ht0 => k_is); (case hm0 => k_is); (case ic0 => k_is); (case ty0 => k_is); (case na0_0 => k_is); (case na0_1 => k_is); (case m10 => k_is); (case m20 => k_is); (case m30 => k_is); (case m40 => k_is); (case L0 => k_is); (case Oc0 => k_is); (case Ok0 => k_is); (case A1 => k_is); (case pg1 => k_is); (case hd1 => k_is); (case po1 => k_is); (case sa1 => k_is); (case ha1 => k_is); (case hn1 => k_is); (case ht1 => k_is); (case hm1 => k_is); (case ic1 => k_is); (case ty1 => k_is); (case na1_0 => k_is); (case m11 => k_is); (case m21 => k_is); (case m31 => k_is); (case m41 => k_is); (case L1 => k_is); (case Oc1 => k_is); (case Ok1 => k_is); (case A2 => k_is); (case pg2 => k_is); (case hd2 => k_is); (case po2 => k_is); (case sa2 => k_is); (case ha2 => k_is); (case hn2 => k_is); (case ht2 => k_is); (case hm2 => k_is); (case ic2 => k_is); (case ty2 => k_is); (case na2_0 => k_is); (case na2_1 => k_is); (case m12 => k_is); (case m22 => k_is); (case m32 => k_is); (case m42 => k_is); (case L2 => k_is); (case Oc2 => k_is); (case Ok2 => k_is); (case A3 => k_is); (case pg3 => k_is); (case hd3 => k_is); (case po3 => k_is); (case sa3 => k_is); (case ha3 => k_is); (case hn3 => k_is); (case ht3 => k_is); (case hm3 => k_is); (case ic3 => k_is); (case ty3 => k_is); (case na3_0 => k_is); (case na3_1 => k_is); (case na3_2 => k_is); (case m13 => k_is); (case m23 => k_is); (case m33 => k_is); (case m43 => k_is); (case L3 => k_is); (case Oc3 => k_is); (case Ok3 => k_is); (case z_abs => k_is); (case z_all => k_is); (case z_bool => k_is); (case z_divmod => k_is); (case z_enumerate => k_is); (case z_int => k_is); (case z_isinstance => k_is); (case z_len => k_is); (case z_list => k_is); (case z_max => k_is); (case z_min => k_is); (case z_range => k_is); (case z_sorted => k_is); (case z_sum => k_is); (case z_tuple => k_is); (case z_zip => k_is); (case v_MOST_AMOUNT => k_is); (case v_MOST_COINS => k_is); (case v_MOST_ENTRIES => k_is); (case v_MOST_PEOPLE => k_is); (case v_MOST_WORTH => k_is)
