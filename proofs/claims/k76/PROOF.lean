import PyProof.Rows.All
import Wide.All
import OpenK.AllK
import Wide.FinOn
import HandS.ForMost
import HandS.TupAny
import HandS.TupMul
import HandS.Wide
import HandS.Deep
import HandS.IsInst
import HandS.Conv
import HandS.Zip
import HandS.Style
import KE.SortData
import KE.KTupSum
import KE.OsSortAny
import HandS.More
import KE.GoesEnum
import HandS.Walk
import HandS.Comp
import HandS.Words
import HandS.Defaults
import HandS.Flow
import PyProof.P3In
import HandS.EndBits
import PySem.Challenge.RW_anyworths_k76_whole_next_coins_and_one_m
set_option Elab.async false
set_option linter.all false
section
set_option Elab.async false
set_option linter.all false
set_option autoImplicit false
set_option maxRecDepth 100000
set_option maxHeartbeats 2000000
namespace Fl
open PySem PySem.Spec PyProof.Rows L2

/-! ### data -/
inductive D where
  | non
  | bl (b : Bool)
  | int (i : Int)
  | str (s : Str)
  | tup (l : List D)
  | lst (l : List D)
  | obj (c : Nat) (l : List D)
  deriving Inhabited

/-- what an owned slot holds -/
inductive O where
  | lst (l : List D)
  | dT (kvs : List (List Key × D))
  | dK (kvs : List (Key × D))
  | ll (l : List (List D))

inductive Slot where
  | sh (d : D)
  | own (f : Bool) (o : O)

abbrev Fenv := List (Option Slot)

/-- the program's classes by number: address, attribute names -/
structure Tab where
  cls : Nat → Option (Addr × List Str)

/-! ### heaps -/
def Ex (H H' : Hp) : Prop := ∀ a o, H a = some o → H' a = some o
theorem Ex.refl (H : Hp) : Ex H H := fun _ _ h => h
theorem Ex.trans {H H1 H2 : Hp} (a : Ex H H1) (b : Ex H1 H2) : Ex H H2 := fun x o h => b x o (a x o h)
theorem Ex.new {H : Hp} {p : Addr} {o : HO} (h : H p = none) : Ex H (upd H p o) := fun a u e => by
  rw [upd_ne (ne_of_none e h)]
  exact e
theorem Ex.free {H H' : Hp} {p : Addr} (e : Ex H H') (h : H' p = none) : H p = none := by
  cases q : H p with
  | none => rfl
  | some o => rw [e p o q] at h; cases h
theorem Ex.upd {H H' : Hp} {p : Addr} {o : HO} (e : Ex H H') : Ex (upd H p o) (upd H' p o) := fun a u h => by
  by_cases q : a = p
  · subst q; rw [upd_same] at h ⊢; exact h
  · rw [upd_ne q] at h ⊢; exact e a u h
/-- an object that H does not know may change -/
theorem Ex.mut {H H' : Hp} {p : Addr} {o : HO} (e : Ex H H') (h : H p = none) : Ex H (L2.upd H' p o) := fun a u ha => by
  rw [upd_ne (ne_of_none ha h)]
  exact e a u ha
theorem Ex.rd {H H' : Hp} {a : Addr} {u : HO} (e : Ex H H') (h : Rd H a u) : Rd H' a u := by
  rcases h with h | ⟨o, h⟩
  · exact Or.inl (e a _ h)
  · exact Or.inr ⟨o, e a _ h⟩

/-! ### data in a heap -/
mutual
inductive Rep (T : Tab) (G : Hp) : D → V → Prop
  | non : Rep T G .non .non
  | bl (b : Bool) : Rep T G (.bl b) (.bl b)
  | int (i : Int) : Rep T G (.int i) (.int i)
  | str (s : Str) : Rep T G (.str s) (.str s)
  | tup {a : Addr} {xs : List V} {ds : List D} : G a = some (.tup xs) → Reps T G ds xs → Rep T G (.tup ds) (.ref a)
  | lst {a : Addr} {xs : List V} {ds : List D} : G a = some (.lst xs) → Reps T G ds xs → Rep T G (.lst ds) (.ref a)
  | obj {a C dx : Addr} {c : Nat} {ns : List Str} {xs : List V} {ds : List D} : T.cls c = some (C, ns) → G a = some (.ins C dx (ns.zip xs)) → ns.length = xs.length → Reps T G ds xs → Rep T G (.obj c ds) (.ref a)
inductive Reps (T : Tab) (G : Hp) : List D → List V → Prop
  | nil : Reps T G [] []
  | cons {d : D} {v : V} {ds : List D} {vs : List V} : Rep T G d v → Reps T G ds vs → Reps T G (d :: ds) (v :: vs)
end

mutual
theorem Rep.mono {T : Tab} {G G' : Hp} (e : Ex G G') : ∀ {d : D} {v : V}, Rep T G d v → Rep T G' d v
  | _, _, .non => .non
  | _, _, .bl b => .bl b
  | _, _, .int i => .int i
  | _, _, .str s => .str s
  | _, _, .tup h r => .tup (e _ _ h) (Reps.mono e r)
  | _, _, .lst h r => .lst (e _ _ h) (Reps.mono e r)
  | _, _, .obj c h l r => .obj c (e _ _ h) l (Reps.mono e r)
theorem Reps.mono {T : Tab} {G G' : Hp} (e : Ex G G') : ∀ {ds : List D} {vs : List V}, Reps T G ds vs → Reps T G' ds vs
  | _, _, .nil => .nil
  | _, _, .cons h r => .cons (Rep.mono e h) (Reps.mono e r)
end

section
variable {T : Tab} {G G' : Hp}
theorem Reps.length {ds : List D} {vs : List V} (r : Reps T G ds vs) : ds.length = vs.length := by
  induction ds generalizing vs with
  | nil => cases r; rfl
  | cons d ds ih => cases r with | cons h r => simp [ih r]
theorem Reps.get {ds : List D} {vs : List V} {i : Nat} {d : D} (r : Reps T G ds vs) (h : ds[i]? = some d) : ∃ v, vs[i]? = some v ∧ Rep T G d v := by
  induction ds generalizing vs i with
  | nil => simp at h
  | cons a ds ih =>
    cases r with
    | cons h1 r =>
      cases i with
      | zero => simp at h; subst h; exact ⟨_, rfl, h1⟩
      | succ i => simp at h; obtain ⟨v, e, q⟩ := ih r h; exact ⟨v, by simpa using e, q⟩
theorem Reps.get' {ds : List D} {vs : List V} {i : Nat} {v : V} (r : Reps T G ds vs) (h : vs[i]? = some v) : ∃ d, ds[i]? = some d ∧ Rep T G d v := by
  induction ds generalizing vs i with
  | nil => cases r; simp at h
  | cons a ds ih =>
    cases r with
    | cons h1 r =>
      cases i with
      | zero => simp at h; subst h; exact ⟨_, rfl, h1⟩
      | succ i => simp at h; obtain ⟨v, e, q⟩ := ih r h; exact ⟨v, by simpa using e, q⟩
theorem Reps.append {ds es : List D} {vs us : List V} (r : Reps T G ds vs) (q : Reps T G es us) : Reps T G (ds ++ es) (vs ++ us) := by
  induction ds generalizing vs with
  | nil => cases r; exact q
  | cons d ds ih => cases r with | cons h r => exact .cons h (ih r)
theorem Reps.set {ds : List D} {vs : List V} (i : Nat) {d : D} {v : V} (r : Reps T G ds vs) (q : Rep T G d v) : Reps T G (ds.set i d) (vs.set i v) := by
  induction ds generalizing vs i with
  | nil => cases r; exact .nil
  | cons d ds ih =>
    cases r with
    | cons h r =>
      cases i with
      | zero => exact .cons q r
      | succ i => exact .cons h (ih i r)
theorem Reps.take {ds : List D} {vs : List V} (n : Nat) (r : Reps T G ds vs) : Reps T G (ds.take n) (vs.take n) := by
  induction ds generalizing vs n with
  | nil => cases r; simpa using Reps.nil
  | cons d ds ih =>
    cases r with
    | cons h r =>
      cases n with
      | zero => exact .nil
      | succ n => exact .cons h (ih n r)
theorem Reps.drop {ds : List D} {vs : List V} (n : Nat) (r : Reps T G ds vs) : Reps T G (ds.drop n) (vs.drop n) := by
  induction ds generalizing vs n with
  | nil => cases r; simpa using Reps.nil
  | cons d ds ih =>
    cases r with
    | cons h r =>
      cases n with
      | zero => exact .cons h r
      | succ n => exact ih n r
theorem Reps.reverse {ds : List D} {vs : List V} (r : Reps T G ds vs) : Reps T G ds.reverse vs.reverse := by
  induction ds generalizing vs with
  | nil => cases r; exact .nil
  | cons d ds ih =>
    cases r with
    | cons h r => rw [List.reverse_cons, List.reverse_cons]; exact (ih r).append (.cons h .nil)
theorem Reps.ints {ns : List Int} {vs : List V} (r : Reps T G (ns.map D.int) vs) : vs = ns.map V.int := by
  induction ns generalizing vs with
  | nil => cases r; rfl
  | cons n ns ih => cases r with | cons h r => cases h; rw [ih r]; rfl
theorem Reps.of_ints (ns : List Int) : Reps T G (ns.map D.int) (ns.map V.int) := by
  induction ns with
  | nil => exact .nil
  | cons n ns ih => exact .cons (.int n) ih
end

/-! ### data without lists -/
mutual
def noL : D → Bool
  | .lst _ => false
  | .tup l => noLs l
  | .obj _ l => noLs l
  | _ => true
def noLs : List D → Bool
  | [] => true
  | d :: ds => noL d && noLs ds
end
/-- all but lists is kept -/
def ExN (G G' : Hp) : Prop := ∀ a o, G a = some o → (∀ xs, o ≠ .lst xs) → G' a = some o
mutual
theorem Rep.noL {T : Tab} {G G' : Hp} (e : ExN G G') : ∀ {d : D} {v : V}, Rep T G d v → noL d = true → Rep T G' d v
  | _, _, .non, _ => .non
  | _, _, .bl b, _ => .bl b
  | _, _, .int i, _ => .int i
  | _, _, .str s, _ => .str s
  | _, _, .tup h r, n => .tup (e _ _ h fun _ z => nomatch z) (Reps.noL e r (by simpa [Fl.noL] using n))
  | _, _, .lst h r, n => by simp [Fl.noL] at n
  | _, _, .obj c h l r, n => .obj c (e _ _ h fun _ z => nomatch z) l (Reps.noL e r (by simpa [Fl.noL] using n))
theorem Reps.noL {T : Tab} {G G' : Hp} (e : ExN G G') : ∀ {ds : List D} {vs : List V}, Reps T G ds vs → noLs ds = true → Reps T G' ds vs
  | _, _, .nil, _ => .nil
  | _, _, .cons (d := d) (ds := ds) h r, n => by
    have n' : Fl.noL d = true ∧ noLs ds = true := by simpa [Fl.noLs] using n
    exact .cons (Rep.noL e h n'.1) (Reps.noL e r n'.2)
end

/-! ### owned objects -/
@[simp] def O.toD : O → D
  | .lst l => .lst l
  | .ll l => .lst (l.map .lst)
  | _ => .non
/-- one that may be frozen -/
@[simp] def O.frz : O → Bool
  | .lst _ => true
  | .ll _ => true
  | _ => false
def KVs (T : Tab) (G : Hp) {κ : Type} : List (κ × D) → List (κ × V) → Prop := Paired fun (p : κ × D) (q : κ × V) => p.1 = q.1 ∧ Rep T G p.2 q.2
theorem KVs.mono {T : Tab} {G G' : Hp} {κ : Type} (e : Ex G G') {l : List (κ × D)} {l' : List (κ × V)} (r : KVs T G l l') : KVs T G' l l' := Paired.mapP r fun _ _ h => ⟨h.1, h.2.mono e⟩
/-- inner lists, owned -/
def LLs (T : Tab) (G H : Hp) : List (List D) → List Addr → Prop := Paired fun (ds : List D) (a : Addr) => ∃ xs, H a = some (.lst xs) ∧ Reps T G ds xs
def OwnOk (T : Tab) (G H : Hp) : O → V → List Addr → Prop
  | .lst ds, v, fp => ∃ a xs, v = .ref a ∧ fp = [a] ∧ H a = some (.lst xs) ∧ Reps T G ds xs
  | .dT kvs, v, fp => ∃ a xs, v = .ref a ∧ fp = [a] ∧ H a = some (.dT xs) ∧ KVs T G kvs xs
  | .dK kvs, v, fp => ∃ a xs, v = .ref a ∧ fp = [a] ∧ H a = some (.dK xs) ∧ KVs T G kvs xs
  | .ll dss, v, fp => ∃ a as, v = .ref a ∧ fp = a :: as ∧ H a = some (.lst (as.map .ref)) ∧ LLs T G H dss as ∧ (a :: as).Nodup
theorem OwnOk.mono {T : Tab} {G G' H H' : Hp} {o : O} {v : V} {fp : List Addr} (e : Ex G G') (h : ∀ a ∈ fp, ∀ u, H a = some u → H' a = some u) (r : OwnOk T G H o v fp) : OwnOk T G' H' o v fp := by
  cases o with
  | lst ds => obtain ⟨a, xs, rfl, rfl, h1, h2⟩ := r; exact ⟨a, xs, rfl, rfl, h a (by simp) _ h1, h2.mono e⟩
  | dT ds => obtain ⟨a, xs, rfl, rfl, h1, h2⟩ := r; exact ⟨a, xs, rfl, rfl, h a (by simp) _ h1, h2.mono e⟩
  | dK ds => obtain ⟨a, xs, rfl, rfl, h1, h2⟩ := r; exact ⟨a, xs, rfl, rfl, h a (by simp) _ h1, h2.mono e⟩
  | ll ds =>
    obtain ⟨a, as, rfl, rfl, h1, h2, nd⟩ := r
    refine ⟨a, as, rfl, rfl, h a (by simp) _ h1, ?_, nd⟩
    have q : ∀ (l : List (List D)) (as' : List Addr), (∀ b ∈ as', b ∈ as) → LLs T G H l as' → LLs T G' H' l as' := by
      intro l as' hs hl
      induction hl with
      | nil => exact .nil
      | cons r1 r2 ih =>
        obtain ⟨xs, e1, e2⟩ := r1
        exact .cons ⟨xs, h _ (List.mem_cons_of_mem _ (hs _ (by simp))) _ e1, e2.mono e⟩ (ih fun b hb => hs b (by simp [hb]))
    exact q ds as (fun _ h => h) h2
theorem OwnOk.there {T : Tab} {G H : Hp} {o : O} {v : V} {fp : List Addr} (r : OwnOk T G H o v fp) : ∀ b ∈ fp, ∃ u, H b = some u ∧ ∀ xs, u ≠ .tup xs := by
  cases o with
  | lst ds => obtain ⟨a, xs, rfl, rfl, h1, h2⟩ := r; intro b hb; simp at hb; subst hb; exact ⟨_, h1, fun _ z => nomatch z⟩
  | dT ds => obtain ⟨a, xs, rfl, rfl, h1, h2⟩ := r; intro b hb; simp at hb; subst hb; exact ⟨_, h1, fun _ z => nomatch z⟩
  | dK ds => obtain ⟨a, xs, rfl, rfl, h1, h2⟩ := r; intro b hb; simp at hb; subst hb; exact ⟨_, h1, fun _ z => nomatch z⟩
  | ll ds =>
    obtain ⟨a, as, rfl, rfl, h1, h2, nd⟩ := r
    clear nd
    intro b hb
    rcases List.mem_cons.mp hb with hb | hb
    · subst hb; exact ⟨_, h1, fun _ z => nomatch z⟩
    · clear h1
      induction h2 with
      | nil => cases hb
      | cons r1 r2 ih =>
        rcases List.mem_cons.mp hb with hb' | hb'
        · subst hb'; obtain ⟨xs, e1, _⟩ := r1; exact ⟨_, e1, fun _ z => nomatch z⟩
        · exact ih (by simp [hb']) hb'
theorem refs_inj : ∀ (l l' : List Addr), l.map V.ref = l'.map V.ref → l = l'
  | [], [], _ => rfl
  | [], _ :: _, h => by simp at h
  | _ :: _, [], h => by simp at h
  | x :: l, y :: l', h => by
    simp only [List.map_cons, List.cons.injEq, V.ref.injEq] at h
    rw [h.1, refs_inj l l' h.2]
theorem OwnOk.fpEq {T : Tab} {G G' H : Hp} {o : O} {v : V} {fp fp2 : List Addr} (old : OwnOk T G H o v fp) (q2 : OwnOk T G' H o v fp2) : fp = fp2 := by
  cases o with
  | lst ds => obtain ⟨a, xs, rfl, rfl, _⟩ := old; obtain ⟨a2, xs2, z, rfl, _⟩ := q2; cases z; rfl
  | dT ds => obtain ⟨a, xs, rfl, rfl, _⟩ := old; obtain ⟨a2, xs2, z, rfl, _⟩ := q2; cases z; rfl
  | dK ds => obtain ⟨a, xs, rfl, rfl, _⟩ := old; obtain ⟨a2, xs2, z, rfl, _⟩ := q2; cases z; rfl
  | ll ds =>
    obtain ⟨a, as, rfl, rfl, z1, z2, _⟩ := old
    obtain ⟨a2, as2, z, rfl, z3, z4⟩ := q2
    cases z
    rw [z3] at z1
    have z5 := Option.some.inj z1
    injection z5 with z5
    rw [refs_inj _ _ z5]

/-! ### the state of a def's body -/
/-- the entry: the heap, what of it stands still, what may be changed -/
structure C0 where
  H0 : Hp
  G0 : Hp
  io : List Addr
/-- an owned address: the def's own (f) or one that it was given to change -/
def C0.mine (C : C0) (f : Bool) (b : Addr) : Prop := match f with
  | true => C.H0 b = none
  | false => b ∈ C.io
theorem C0.mine_or {C : C0} {f : Bool} {b : Addr} (h : C.mine f b) : C.H0 b = none ∨ b ∈ C.io := by
  cases f with
  | true => exact .inl h
  | false => exact .inr h
structure Sta (T : Tab) (C : C0) (ρ : Fenv) (σ : L2.St) (H G : Hp) : Prop where
  gh : Ex G H
  g0 : Ex C.G0 G
  h0 : ∀ a o, a ∉ C.io → C.H0 a = some o → H a = some o
  fr : ∀ a u, C.H0 a = some u → (∀ xs, u ≠ .tup xs) → C.G0 a = none → G a = none
  io : ∀ a ∈ C.io, ∃ u, H a = some u ∧ ∀ xs, u ≠ .tup xs
  len : σ.length = ρ.length
  sh : ∀ (i : Nat) (d : D), ρ[i]? = some (some (.sh d)) → ∃ v, σ[i]? = some (some v) ∧ Rep T G d v
  own : ∃ ow : Addr → Option Nat, ∀ (i : Nat) (f : Bool) (o : O), ρ[i]? = some (some (.own f o)) → ∃ v fp, σ[i]? = some (some v) ∧ OwnOk T G H o v fp ∧ ∀ b ∈ fp, ow b = some i ∧ G b = none ∧ C.mine f b

section
variable {T : Tab} {C : C0} {ρ : Fenv} {σ : L2.St} {H G H' G' : Hp}
/-- the callee's (or a new object's) step: all is kept, what is still and new is still -/
structure Stp (H G H' G' : Hp) : Prop where
  hh : Ex H H'
  gg : Ex G G'
  gh : Ex G' H'
  fr : ∀ a u, H a = some u → (∀ xs, u ≠ .tup xs) → G a = none → G' a = none
theorem Stp.trans {H1 G1 H2 G2 : Hp} (a : Stp H G H1 G1) (b : Stp H1 G1 H2 G2) : Stp H G H2 G2 :=
  ⟨a.hh.trans b.hh, a.gg.trans b.gg, b.gh, fun x u h t g => b.fr x u (a.hh x u h) t (a.fr x u h t g)⟩
theorem Stp.refl (h : Ex G H) : Stp H G H G := ⟨Ex.refl H, Ex.refl G, h, fun _ _ _ _ g => g⟩
theorem Stp.new {p : Addr} {o : HO} (h : Ex G H) (n : H p = none) : Stp H G (upd H p o) (upd G p o) :=
  ⟨Ex.new n, Ex.new (h.free n), h.upd, fun a u ha _ ga => by
    by_cases q : a = p
    · subst q; rw [n] at ha; cases ha
    · rw [upd_ne q]; exact ga⟩
theorem Stp.grow {p : Addr} {o : HO} (h : Ex G H) (n : H p = none) : Stp H G (upd H p o) G :=
  ⟨Ex.new n, Ex.refl G, h.mut (h.free n), fun _ _ _ _ g => g⟩
theorem Sta.stp (S : Sta T C ρ σ H G) (q : Stp H G H' G') : Sta T C ρ σ H' G' where
  gh := q.gh
  g0 := S.g0.trans q.gg
  h0 := fun a o h e => q.hh _ _ (S.h0 a o h e)
  fr := fun a u h t e => by
    by_cases z : a ∈ C.io
    · obtain ⟨w, hw, tw⟩ := S.io a z
      exact q.fr a w hw tw (S.fr a u h t e)
    · exact q.fr a u (S.h0 a u z h) t (S.fr a u h t e)
  io := fun a h => let ⟨u, e, t⟩ := S.io a h; ⟨u, q.hh a u e, t⟩
  len := S.len
  sh := fun i d h => let ⟨v, e, r⟩ := S.sh i d h; ⟨v, e, r.mono q.gg⟩
  own := by
    obtain ⟨ow, h⟩ := S.own
    refine ⟨ow, fun i f o e => ?_⟩
    obtain ⟨v, fp, e1, e2, e3⟩ := h i f o e
    exact ⟨v, fp, e1, e2.mono q.gg fun a _ u w => q.hh a u w, fun b hb => ⟨(e3 b hb).1, (let ⟨u, eu, tu⟩ := e2.there b hb; q.fr b u eu tu (e3 b hb).2.1), (e3 b hb).2.2⟩⟩
theorem Sta.newG (S : Sta T C ρ σ H G) {p : Addr} (n : H p = none) (o : HO) : Sta T C ρ σ (upd H p o) (upd G p o) := S.stp (Stp.new S.gh n)
theorem Sta.freeH0 (S : Sta T C ρ σ H G) {p : Addr} (n : H p = none) : C.H0 p = none := by
  cases w : C.H0 p with
  | none => rfl
  | some o =>
    by_cases z : p ∈ C.io
    · obtain ⟨u, e, _⟩ := S.io p z; rw [n] at e; cases e
    · rw [S.h0 p o z w] at n; cases n
/-- an owned object behind all slots -/
theorem Sta.push (S : Sta T C ρ σ H G) {o : O} {v : V} {fp : List Addr} (r : OwnOk T G H o v fp) (n : ∀ b ∈ fp, G b = none ∧ C.H0 b = none ∧ ∀ (i : Nat) (f : Bool) (o' : O) (v' : V) (fp' : List Addr), ρ[i]? = some (some (.own f o')) → σ[i]? = some (some v') → OwnOk T G H o' v' fp' → b ∉ fp') :
    Sta T C (ρ ++ [some (.own true o)]) (σ ++ [some v]) H G where
  gh := S.gh
  g0 := S.g0
  h0 := S.h0
  fr := S.fr
  io := S.io
  len := by simp [S.len]
  sh := fun i d h => by
    have hi : i < ρ.length := by
      rw [List.getElem?_append] at h
      split at h
      · assumption
      · rename_i hn
        cases e : i - ρ.length with
        | zero => rw [e] at h; simp at h
        | succ k => rw [e] at h; simp at h
    rw [List.getElem?_append_left hi] at h
    obtain ⟨w, e, q⟩ := S.sh i d h
    exact ⟨w, by rw [List.getElem?_append_left (by rw [S.len]; exact hi)]; exact e, q⟩
  own := by
    obtain ⟨ow, h⟩ := S.own
    refine ⟨fun b => if b ∈ fp then some ρ.length else ow b, fun i f o' e => ?_⟩
    by_cases hi : i < ρ.length
    · rw [List.getElem?_append_left hi] at e
      obtain ⟨w, fp', e1, e2, e3⟩ := h i f o' e
      refine ⟨w, fp', by rw [List.getElem?_append_left (by rw [S.len]; exact hi)]; exact e1, e2, fun b hb => ?_⟩
      have hn : b ∉ fp := fun z => (n b z).2.2 i f o' w fp' e e1 e2 hb
      exact ⟨by show (if b ∈ fp then some ρ.length else ow b) = _; rw [if_neg hn]; exact (e3 b hb).1, (e3 b hb).2⟩
    · have ei : i = ρ.length := by
        rw [List.getElem?_append_right (by omega)] at e
        cases q : i - ρ.length with
        | zero => omega
        | succ k => rw [q] at e; simp at e
      subst ei
      rw [List.getElem?_append_right (Nat.le_refl _), Nat.sub_self] at e
      simp at e
      obtain ⟨rfl, rfl⟩ := e
      refine ⟨v, fp, by rw [List.getElem?_append_right (by rw [S.len]; exact Nat.le_refl _), S.len]; simp, r, fun b hb => ⟨if_pos hb, (n b hb).1, (n b hb).2.1⟩⟩
/-- .. that is new -/
theorem Sta.pushNew (S : Sta T C ρ σ H G) {o : O} {p : Addr} {u : HO} (n : H p = none) (r : OwnOk T G (upd H p u) o (.ref p) [p]) : Sta T C (ρ ++ [some (.own true o)]) (σ ++ [some (.ref p)]) (upd H p u) G := by
  refine (S.stp (Stp.grow S.gh n)).push r fun b hb => ?_
  have e : b = p := by simpa using hb
  subst e
  refine ⟨S.gh.free n, S.freeH0 n, fun i f o' v' fp' e1 e2 e3 hb' => ?_⟩
  obtain ⟨ow, h⟩ := S.own
  obtain ⟨w, fp2, q1, q2, q3⟩ := h i f o' e1
  rw [e2] at q1; cases q1
  have hfp : fp' = fp2 := e3.fpEq (q2.mono (Ex.refl G) fun c hc u hu => Ex.new n c u hu)
  subst hfp
  obtain ⟨u, eu, _⟩ := q2.there b hb'
  rw [n] at eu
  cases eu
theorem Sta.pop {x : Option Slot} {y : Option V} (S : Sta T C (ρ ++ [x]) (σ ++ [y]) H G) : Sta T C ρ σ H G where
  gh := S.gh
  g0 := S.g0
  h0 := S.h0
  fr := S.fr
  io := S.io
  len := by have := S.len; simpa using this
  sh := fun i d h => by
    have hi : i < ρ.length := (List.getElem?_eq_some_iff.mp h).1
    obtain ⟨w, e, q⟩ := S.sh i d (by rw [List.getElem?_append_left hi]; exact h)
    have hl : σ.length = ρ.length := by have := S.len; simpa using this
    exact ⟨w, by rw [List.getElem?_append_left (by omega)] at e; exact e, q⟩
  own := by
    obtain ⟨ow, h⟩ := S.own
    refine ⟨ow, fun i f o e => ?_⟩
    have hi : i < ρ.length := (List.getElem?_eq_some_iff.mp e).1
    obtain ⟨w, fp, e1, e2, e3⟩ := h i f o (by rw [List.getElem?_append_left hi]; exact e)
    have hl : σ.length = ρ.length := by have := S.len; simpa using this
    exact ⟨w, fp, by rw [List.getElem?_append_left (by omega)] at e1; exact e1, e2, e3⟩

theorem Sta.assignSh (S : Sta T C ρ σ H G) {i : Nat} {d : D} {v : V} (r : Rep T G d v) : Sta T C (ρ.set i (some (.sh d))) (σ.set i (some v)) H G where
  gh := S.gh
  g0 := S.g0
  h0 := S.h0
  fr := S.fr
  io := S.io
  len := by simp [S.len]
  sh := fun j e h => by
    by_cases q : i = j
    · subst q
      have hi : i < ρ.length := by have := (List.getElem?_eq_some_iff.mp h).1; simpa using this
      rw [List.getElem?_set_self hi] at h
      cases h
      exact ⟨v, List.getElem?_set_self (by rw [S.len]; exact hi), r⟩
    · rw [List.getElem?_set_ne q] at h
      obtain ⟨w, e1, e2⟩ := S.sh j e h
      exact ⟨w, by rw [List.getElem?_set_ne q]; exact e1, e2⟩
  own := by
    obtain ⟨ow, h⟩ := S.own
    refine ⟨ow, fun j f o e => ?_⟩
    by_cases q : i = j
    · subst q
      have hi : i < ρ.length := by have := (List.getElem?_eq_some_iff.mp e).1; simpa using this
      rw [List.getElem?_set_self hi] at e
      cases e
    · rw [List.getElem?_set_ne q] at e
      obtain ⟨w, fp, e1, e2, e3⟩ := h j f o e
      exact ⟨w, fp, by rw [List.getElem?_set_ne q]; exact e1, e2, e3⟩
theorem Sta.assignNo (S : Sta T C ρ σ H G) {i : Nat} {y : Option V} : Sta T C (ρ.set i none) (σ.set i y) H G where
  gh := S.gh
  g0 := S.g0
  h0 := S.h0
  fr := S.fr
  io := S.io
  len := by simp [S.len]
  sh := fun j e h => by
    by_cases q : i = j
    · subst q
      have hi : i < ρ.length := by have := (List.getElem?_eq_some_iff.mp h).1; simpa using this
      rw [List.getElem?_set_self hi] at h
      cases h
    · rw [List.getElem?_set_ne q] at h
      obtain ⟨w, e1, e2⟩ := S.sh j e h
      exact ⟨w, by rw [List.getElem?_set_ne q]; exact e1, e2⟩
  own := by
    obtain ⟨ow, h⟩ := S.own
    refine ⟨ow, fun j f o e => ?_⟩
    by_cases q : i = j
    · subst q
      have hi : i < ρ.length := by have := (List.getElem?_eq_some_iff.mp e).1; simpa using this
      rw [List.getElem?_set_self hi] at e
      cases e
    · rw [List.getElem?_set_ne q] at e
      obtain ⟨w, fp, e1, e2, e3⟩ := h j f o e
      exact ⟨w, fp, by rw [List.getElem?_set_ne q]; exact e1, e2, e3⟩
theorem Sta.assignOwn {i : Nat} {o : O} {v : V} (S : Sta T C (ρ ++ [some (.own true o)]) (σ ++ [some v]) H G) : Sta T C (ρ.set i (some (.own true o))) (σ.set i (some v)) H G where
  gh := S.gh
  g0 := S.g0
  h0 := S.h0
  fr := S.fr
  io := S.io
  len := by have := S.len; simpa using this
  sh := fun j e h => by
    have hl : σ.length = ρ.length := by have := S.len; simpa using this
    by_cases q : i = j
    · subst q
      have hi : i < ρ.length := by have := (List.getElem?_eq_some_iff.mp h).1; simpa using this
      rw [List.getElem?_set_self hi] at h
      cases h
    · rw [List.getElem?_set_ne q] at h
      have hj : j < ρ.length := (List.getElem?_eq_some_iff.mp h).1
      obtain ⟨w, e1, e2⟩ := S.sh j e (by rw [List.getElem?_append_left hj]; exact h)
      rw [List.getElem?_append_left (by omega)] at e1
      exact ⟨w, by rw [List.getElem?_set_ne q]; exact e1, e2⟩
  own := by
    have hl : σ.length = ρ.length := by have := S.len; simpa using this
    obtain ⟨ow, h⟩ := S.own
    refine ⟨fun b => if ow b = some ρ.length then some i else ow b, fun j f o' e => ?_⟩
    by_cases q : i = j
    · subst q
      have hi : i < ρ.length := by have := (List.getElem?_eq_some_iff.mp e).1; simpa using this
      rw [List.getElem?_set_self hi] at e
      cases e
      obtain ⟨w, fp, e1, e2, e3⟩ := h ρ.length true o (by rw [List.getElem?_append_right (Nat.le_refl _), Nat.sub_self]; rfl)
      rw [List.getElem?_append_right (by omega), ← hl, Nat.sub_self] at e1
      have e1' : v = w := by simpa using e1
      subst e1'
      refine ⟨v, fp, List.getElem?_set_self (by omega), e2, fun b hb => ⟨if_pos (e3 b hb).1, (e3 b hb).2⟩⟩
    · rw [List.getElem?_set_ne q] at e
      have hj : j < ρ.length := (List.getElem?_eq_some_iff.mp e).1
      obtain ⟨w, fp, e1, e2, e3⟩ := h j f o' (by rw [List.getElem?_append_left hj]; exact e)
      rw [List.getElem?_append_left (by omega)] at e1
      refine ⟨w, fp, by rw [List.getElem?_set_ne q]; exact e1, e2, fun b hb => ⟨?_, (e3 b hb).2⟩⟩
      show (if ow b = some ρ.length then some i else ow b) = some j
      rw [(e3 b hb).1, if_neg (by intro z; have := Option.some.inj z; omega)]
/-- the owned object of slot i is changed -/
theorem Sta.updOwn (S : Sta T C ρ σ H G) {i : Nat} {f : Bool} {o o' : O} {v : V} {fp fp' : List Addr} (h1 : ρ[i]? = some (some (.own f o)))
    (ch : ∀ b u, b ∉ fp → H b = some u → H' b = some u) (th : ∀ b u, H b = some u → (∀ xs, u ≠ .tup xs) → ∃ u', H' b = some u' ∧ ∀ xs, u' ≠ .tup xs) (hi : σ[i]? = some (some v)) (old : OwnOk T G H o v fp) (new : OwnOk T G H' o' v fp') (sub : ∀ b ∈ fp', b ∈ fp ∨ (f = true ∧ H b = none)) :
    Sta T C (ρ.set i (some (.own f o'))) σ H' G := by
  obtain ⟨ow, h⟩ := S.own
  obtain ⟨w, fp2, q1, q2, q3⟩ := h i f o h1
  rw [hi] at q1; cases q1
  have hfp : fp = fp2 := old.fpEq q2
  subst hfp
  have hi' : i < ρ.length := (List.getElem?_eq_some_iff.mp h1).1
  refine ⟨fun b u e => ch b u (fun z => by rw [(q3 b z).2.1] at e; cases e) (S.gh b u e), S.g0, fun a u hn e => ?_, S.fr, fun a ha => let ⟨u, e, t⟩ := S.io a ha; th a u e t, by simp [S.len], fun j d e => ?_, ?_⟩
  · refine ch a u (fun z => ?_) (S.h0 a u hn e)
    rcases C0.mine_or (q3 a z).2.2 with y | y
    · rw [y] at e; cases e
    · exact hn y
  · by_cases q : i = j
    · subst q
      rw [List.getElem?_set_self hi'] at e
      cases e
    · rw [List.getElem?_set_ne q] at e
      exact S.sh j d e
  · refine ⟨fun b => if b ∈ fp' then some i else ow b, fun j g o2 e => ?_⟩
    by_cases q : i = j
    · subst q
      rw [List.getElem?_set_self hi'] at e
      cases e
      refine ⟨v, fp', hi, new, fun b hb => ⟨if_pos hb, ?_⟩⟩
      rcases sub b hb with y | y
      · exact (q3 b y).2
      · obtain ⟨yf, y⟩ := y
        subst yf
        exact ⟨S.gh.free y, S.freeH0 y⟩
    · rw [List.getElem?_set_ne q] at e
      obtain ⟨w2, fp2, e1, e2, e3⟩ := h j g o2 e
      have nb : ∀ b ∈ fp2, b ∉ fp := fun b hb z => by
        have y1 := (e3 b hb).1
        rw [(q3 b z).1] at y1
        exact q (Option.some.inj y1)
      refine ⟨w2, fp2, e1, e2.mono (Ex.refl G) fun b hb u hu => ch b u (nb b hb) hu, fun b hb => ⟨?_, (e3 b hb).2⟩⟩
      show (if b ∈ fp' then some i else ow b) = some j
      rw [if_neg fun z => (sub b z).elim (nb b hb) fun y => by obtain ⟨u, eu, _⟩ := e2.there b hb; rw [y.2] at eu; cases eu]
      exact (e3 b hb).1
end

/-! ### freezing -/
/-- the addresses fp of H are put to what stands still -/
def frzH (H G : Hp) (fp : List Addr) : Hp := fun b => if b ∈ fp then H b else G b
/-- .. are taken away -/
def lessH (G : Hp) (fp : List Addr) : Hp := fun b => if b ∈ fp then none else G b
section
variable {T : Tab} {C : C0} {ρ : Fenv} {σ : L2.St} {H G H' G' : Hp} {fp : List Addr}
theorem frz_ex (n : ∀ b ∈ fp, G b = none) : Ex G (frzH H G fp) := fun b u e => by
  unfold frzH
  rw [if_neg fun z => by rw [n b z] at e; cases e]
  exact e
theorem frz_le (h : Ex G H) : Ex (frzH H G fp) H := fun b u e => by
  unfold frzH at e
  split at e
  · exact e
  · exact h b u e
theorem OwnOk.frz {o : O} {v : V} (r : OwnOk T G H o v fp) (n : ∀ b ∈ fp, G b = none) (f : o.frz = true) : Rep T (frzH H G fp) o.toD v := by
  cases o with
  | lst ds =>
    obtain ⟨a, xs, rfl, rfl, h1, h2⟩ := r
    exact .lst (by unfold frzH; rw [if_pos (by simp)]; exact h1) (h2.mono (frz_ex n))
  | dT ds => simp [O.frz] at f
  | dK ds => simp [O.frz] at f
  | ll ds =>
    obtain ⟨a, as, rfl, rfl, h1, h2, nd⟩ := r
    clear nd
    have e := frz_ex (H := H) n
    refine .lst (by unfold frzH; rw [if_pos (by simp)]; exact h1) ?_
    have q : ∀ (l : List (List D)) (as' : List Addr), (∀ b ∈ as', b ∈ as) → LLs T G H l as' → Reps T (frzH H G (a :: as)) (l.map .lst) (as'.map .ref) := by
      intro l as' hs hl
      induction hl with
      | nil => exact .nil
      | cons r1 r2 ih =>
        obtain ⟨xs, e1, e2⟩ := r1
        refine .cons (.lst ?_ (e2.mono e)) (ih fun b hb => hs b (by simp [hb]))
        unfold frzH
        rw [if_pos (List.mem_cons_of_mem _ (hs _ (by simp)))]
        exact e1
    exact q ds as (fun _ h => h) h2
/-- the last one, for good -/
theorem Sta.freezeLast {o : O} {v : V} (S : Sta T C (ρ ++ [some (.own true o)]) (σ ++ [some v]) H G) (f : o.frz = true) :
    ∃ G', Sta T C ρ σ H G' ∧ Ex G G' ∧ Rep T G' o.toD v := by
  have hl : σ.length = ρ.length := by have := S.len; simpa using this
  obtain ⟨ow, h⟩ := S.own
  obtain ⟨w, fp, e1, e2, e3⟩ := h ρ.length true o (by rw [List.getElem?_append_right (Nat.le_refl _), Nat.sub_self]; rfl)
  rw [List.getElem?_append_right (by omega), ← hl, Nat.sub_self] at e1
  have e1' : v = w := by simpa using e1
  subst e1'
  have n : ∀ b ∈ fp, G b = none := fun b hb => (e3 b hb).2.1
  have P := S.pop
  refine ⟨frzH H G fp, ⟨frz_le S.gh, S.g0.trans (frz_ex n), S.h0, fun a u ha ta ga => ?_, S.io, P.len, fun i d e => ?_, ow, fun i g o' e => ?_⟩, frz_ex n, e2.frz n f⟩
  · unfold frzH
    rw [if_neg fun z => by have y : C.H0 a = none := (e3 a z).2.2; rw [y] at ha; cases ha]
    exact S.fr a u ha ta ga
  · obtain ⟨w, q1, q2⟩ := P.sh i d e
    exact ⟨w, q1, q2.mono (frz_ex n)⟩
  · have hi : i < ρ.length := (List.getElem?_eq_some_iff.mp e).1
    obtain ⟨w, fp', q1, q2, q3⟩ := h i g o' (by rw [List.getElem?_append_left hi]; exact e)
    rw [List.getElem?_append_left (by omega)] at q1
    refine ⟨w, fp', q1, q2.mono (frz_ex n) fun _ _ _ z => z, fun b hb => ⟨(q3 b hb).1, ?_, (q3 b hb).2.2⟩⟩
    unfold frzH
    rw [if_neg fun z => ?_]
    · exact (q3 b hb).2.1
    · have y1 := (e3 b z).1
      rw [(q3 b hb).1] at y1
      have := Option.some.inj y1
      omega
/-- slot i, for good -/
theorem Sta.freezeAt (S : Sta T C ρ σ H G) {i : Nat} {o : O} (hi : ρ[i]? = some (some (.own true o))) (f : o.frz = true) :
    ∃ G', Sta T C (ρ.set i (some (.sh o.toD))) σ H G' ∧ Ex G G' := by
  obtain ⟨ow, h⟩ := S.own
  obtain ⟨v, fp, e1, e2, e3⟩ := h i true o hi
  have n : ∀ b ∈ fp, G b = none := fun b hb => (e3 b hb).2.1
  have hl : i < ρ.length := (List.getElem?_eq_some_iff.mp hi).1
  refine ⟨frzH H G fp, ⟨frz_le S.gh, S.g0.trans (frz_ex n), S.h0, fun a u ha ta ga => ?_, S.io, by simp [S.len], fun j d e => ?_, ow, fun j g o' e => ?_⟩, frz_ex n⟩
  · unfold frzH
    rw [if_neg fun z => by have y : C.H0 a = none := (e3 a z).2.2; rw [y] at ha; cases ha]
    exact S.fr a u ha ta ga
  · by_cases q : i = j
    · subst q
      rw [List.getElem?_set_self hl] at e
      cases e
      exact ⟨v, e1, e2.frz n f⟩
    · rw [List.getElem?_set_ne q] at e
      obtain ⟨w, q1, q2⟩ := S.sh j d e
      exact ⟨w, q1, q2.mono (frz_ex n)⟩
  · by_cases q : i = j
    · subst q
      rw [List.getElem?_set_self hl] at e
      cases e
    · rw [List.getElem?_set_ne q] at e
      obtain ⟨w, fp', q1, q2, q3⟩ := h j g o' e
      refine ⟨w, fp', q1, q2.mono (frz_ex n) fun _ _ _ z => z, fun b hb => ⟨(q3 b hb).1, ?_, (q3 b hb).2.2⟩⟩
      unfold frzH
      rw [if_neg fun z => ?_]
      · exact (q3 b hb).2.1
      · have y1 := (e3 b z).1
        rw [(q3 b hb).1] at y1
        exact q (Option.some.inj y1).symm
/-- slot i, for a while: what is reckoned meanwhile changes no owned object -/
theorem Sta.lend (S : Sta T C ρ σ H G) {i : Nat} {g : Bool} {o : O} (hi : ρ[i]? = some (some (.own g o))) (f : o.frz = true) :
    ∃ fp v, σ[i]? = some (some v) ∧ OwnOk T G H o v fp ∧ (∀ b ∈ fp, G b = none) ∧ (∀ b ∈ fp, ∃ xs, H b = some (.lst xs)) ∧ Sta T { C with G0 := frzH H C.G0 fp } (ρ.set i (some (.sh o.toD))) σ H (frzH H G fp) ∧
      ∀ H' G', Ex H H' → Ex (frzH H G fp) G' → Sta T { C with G0 := frzH H C.G0 fp } (ρ.set i (some (.sh o.toD))) σ H' G' → Sta T C ρ σ H' (lessH G' fp) := by
  obtain ⟨ow, h⟩ := S.own
  obtain ⟨v, fp, e1, e2, e3⟩ := h i g o hi
  have n : ∀ b ∈ fp, G b = none := fun b hb => (e3 b hb).2.1
  have n0 : ∀ b ∈ fp, C.G0 b = none := fun b hb => S.g0.free (n b hb)
  have hl : i < ρ.length := (List.getElem?_eq_some_iff.mp hi).1
  have lsts : ∀ b ∈ fp, ∃ xs, H b = some (.lst xs) := by
    cases o with
    | lst ds => obtain ⟨a, xs, rfl, rfl, h1, h2⟩ := e2; intro b hb; simp at hb; subst hb; exact ⟨_, h1⟩
    | dT ds => simp [O.frz] at f
    | dK ds => simp [O.frz] at f
    | ll ds =>
      obtain ⟨a, as, rfl, rfl, h1, h2, nd⟩ := e2
      clear nd
      intro b hb
      rcases List.mem_cons.mp hb with hb | hb
      · subst hb; exact ⟨_, h1⟩
      · clear h1 e1 e3 n n0 hi f
        induction h2 with
        | nil => cases hb
        | cons r1 r2 ih =>
          rcases List.mem_cons.mp hb with hb' | hb'
          · subst hb'; obtain ⟨xs, e1, _⟩ := r1; exact ⟨_, e1⟩
          · exact ih (List.mem_cons_of_mem _ hb') hb'
  refine ⟨fp, v, e1, e2, n, lsts, ⟨frz_le S.gh, fun b u e => ?_, S.h0, fun a u ha ta ga => ?_, S.io, by simp [S.len], fun j d e => ?_, ow, fun j g' o' e => ?_⟩, fun H' G' hh gg S' => ?_⟩
  · show frzH H G fp b = some u
    have e : frzH H C.G0 fp b = some u := e
    unfold frzH at e ⊢
    split
    · rename_i z; rw [if_pos z] at e; exact e
    · rename_i z; rw [if_neg z] at e; exact S.g0 b u e
  · show frzH H G fp a = none
    have ga : frzH H C.G0 fp a = none := ga
    unfold frzH at ga ⊢
    split
    · rename_i z; rw [if_pos z] at ga; exact ga
    · rename_i z; rw [if_neg z] at ga; exact S.fr a u ha ta ga
  · by_cases q : i = j
    · subst q
      rw [List.getElem?_set_self hl] at e
      cases e
      exact ⟨v, e1, e2.frz n f⟩
    · rw [List.getElem?_set_ne q] at e
      obtain ⟨w, q1, q2⟩ := S.sh j d e
      exact ⟨w, q1, q2.mono (frz_ex n)⟩
  · by_cases q : i = j
    · subst q
      rw [List.getElem?_set_self hl] at e
      cases e
    · rw [List.getElem?_set_ne q] at e
      obtain ⟨w, fp', q1, q2, q3⟩ := h j g' o' e
      refine ⟨w, fp', q1, q2.mono (frz_ex n) fun _ _ _ z => z, fun b hb => ⟨(q3 b hb).1, ?_, (q3 b hb).2.2⟩⟩
      unfold frzH
      rw [if_neg fun z => ?_]
      · exact (q3 b hb).2.1
      · have y1 := (e3 b z).1
        rw [(q3 b hb).1] at y1
        exact q (Option.some.inj y1).symm
  · have gl : Ex G (lessH G' fp) := fun b u e => by
      unfold lessH
      rw [if_neg fun z => by rw [n b z] at e; cases e]
      exact gg b u (frz_ex n b u e)
    refine ⟨fun b u e => ?_, S.g0.trans gl, fun a u hn e => hh a u (S.h0 a u hn e), fun a u ha ta ga => ?_, fun a ha => let ⟨u, e, t⟩ := S.io a ha; ⟨u, hh a u e, t⟩, S.len, fun j d e => ?_, ow, fun j g' o' e => ?_⟩
    · unfold lessH at e
      split at e
      · cases e
      · exact S'.gh b u e
    · unfold lessH
      split
      · rfl
      · rename_i z
        refine S'.fr a u ha ta ?_
        show frzH H C.G0 fp a = none
        unfold frzH
        rw [if_neg z]
        exact ga
    · obtain ⟨w, q1, q2⟩ := S.sh j d e
      exact ⟨w, q1, q2.mono gl⟩
    · obtain ⟨w, fp', q1, q2, q3⟩ := h j g' o' e
      refine ⟨w, fp', q1, q2.mono gl fun b _ u z => hh b u z, fun b hb => ⟨(q3 b hb).1, ?_, (q3 b hb).2.2⟩⟩
      unfold lessH
      split
      · rfl
      · rename_i z
        by_cases q : i = j
        · subst q
          have eo : some (some (Slot.own g o)) = some (some (Slot.own g' o')) := hi.symm.trans e
          cases eo
          rw [e1] at q1
          cases q1
          have := e2.fpEq q2
          subst this
          exact absurd hb z
        · obtain ⟨ow2, h2⟩ := S'.own
          obtain ⟨w2, fp2, y1, y2, y3⟩ := h2 j g' o' (by rw [List.getElem?_set_ne q]; exact e)
          have q1' : σ[j]? = some (some w) := q1
          rw [q1'] at y1
          cases y1
          have := (q2.mono (G' := G') (gl.trans fun b u e => by unfold lessH at e; split at e; cases e; exact e) fun b _ u z => hh b u z).fpEq y2
          subst this
          exact (y3 b hb).2.1
/-- what has no list does not lean on a lent one -/
theorem lent_rep {d : D} {v : V} (r : Rep T G' d v) (h : noL d = true) (ls : ∀ b ∈ fp, ∃ xs, H b = some (.lst xs)) (gg : Ex (frzH H G fp) G') : Rep T (lessH G' fp) d v :=
  r.noL (fun a o e hn => by
    unfold lessH
    rw [if_neg fun z => ?_]
    · exact e
    · obtain ⟨xs, q⟩ := ls a z
      have := gg a (.lst xs) (by unfold frzH; rw [if_pos z]; exact q)
      rw [this] at e
      cases e
      exact hn xs rfl) h
end
end Fl
end

section
set_option Elab.async false
set_option linter.all false
set_option autoImplicit false
set_option maxRecDepth 100000
set_option maxHeartbeats 2000000
namespace Fl
open PySem PySem.Spec PyProof.Rows L2

abbrev FE := Fenv → Option (D × Fenv)
abbrev FT := Fenv → Option (Bool × Fenv)
abbrev FA := Fenv → Option (List D × Fenv)
abbrev FO := Fenv → Option (O × Fenv)

structure Nxt (T : Tab) (C : C0) (ρ : Fenv) (σ : L2.St) (pu : Bool) (H G H' G' : Hp) : Prop where
  st : Sta T C ρ σ H' G'
  ex : Ex G G'
  pu : pu = true → Ex H H'
section
variable {T : Tab} {C : C0} {ρ ρ' : Fenv} {σ σ' : L2.St} {pu pv : Bool} {H G H' G' H2 G2 : Hp}
theorem Nxt.refl (S : Sta T C ρ σ H G) : Nxt T C ρ σ pu H G H G := ⟨S, Ex.refl G, fun _ => Ex.refl H⟩
theorem Nxt.trans (a : Nxt T C ρ σ pu H G H' G') (b : Nxt T C ρ' σ' pv H' G' H2 G2) : Nxt T C ρ' σ' (pu && pv) H G H2 G2 :=
  ⟨b.st, a.ex.trans b.ex, fun h => by
    rw [Bool.and_eq_true] at h
    exact (a.pu h.1).trans (b.pu h.2)⟩
theorem Nxt.stp (a : Nxt T C ρ σ pu H G H' G') (b : Stp H' G' H2 G2) : Nxt T C ρ σ pu H G H2 G2 := ⟨a.st.stp b, a.ex.trans b.gg, fun h => (a.pu h).trans b.hh⟩
theorem Nxt.weak (a : Nxt T C ρ σ true H G H' G') : Nxt T C ρ σ pu H G H' G' := ⟨a.st, a.ex, fun _ => a.pu rfl⟩
theorem Nxt.no (a : Nxt T C ρ σ pu H G H' G') : Nxt T C ρ σ false H G H' G' := ⟨a.st, a.ex, fun h => nomatch h⟩
end

/-! ### judgements -/
def tD (T : Tab) (pu : Bool) (f : FE) : TE := fun σ H Q => ∃ C ρ G d ρ', Sta T C ρ σ H G ∧ f ρ = some (d, ρ') ∧ ∀ v H' G', Nxt T C ρ' σ pu H G H' G' → Rep T G' d v → Q v H'
def tBl (T : Tab) (pu : Bool) (f : FT) : TT := fun σ H Q => ∃ C ρ G b ρ', Sta T C ρ σ H G ∧ f ρ = some (b, ρ') ∧ ∀ H' G', Nxt T C ρ' σ pu H G H' G' → Q b H'
def tDs (T : Tab) (pu : Bool) (f : FA) : TA := fun σ H Q => ∃ C ρ G ds ρ', Sta T C ρ σ H G ∧ f ρ = some (ds, ρ') ∧ ∀ vs H' G', Nxt T C ρ' σ pu H G H' G' → Reps T G' ds vs → Q vs H'
def tOw (T : Tab) (pu : Bool) (f : FO) : TE := fun σ H Q => ∃ C ρ G o ρ', Sta T C ρ σ H G ∧ f ρ = some (o, ρ') ∧ ∀ v H' G', Nxt T C (ρ' ++ [some (.own true o)]) (σ ++ [some v]) pu H G H' G' → Q v H'
/-- a pure reading leaves the slots -/
def Same1 {α : Type} (pu : Bool) (f : Fenv → Option (α × Fenv)) : Prop := pu = true → ∀ ρ a ρ', f ρ = some (a, ρ') → ρ' = ρ
structure PEf (X : Cx) (T : Tab) (pu : Bool) (e : Expr) (f : FE) : Prop where
  pe : PE X e (tD T pu f)
  same : Same1 pu f
structure PTf (X : Cx) (T : Tab) (pu : Bool) (e : Expr) (f : FT) : Prop where
  pt : PT X e (tBl T pu f)
  same : Same1 pu f
structure PWf (X : Cx) (T : Tab) (pu : Bool) (e : Expr) (f : FT) : Prop where
  pw : PW X e (tBl T pu f)
  same : Same1 pu f
structure PAf (X : Cx) (T : Tab) (pu : Bool) (es : List Expr) (f : FA) : Prop where
  pa : PA X es (tDs T pu f)
  same : Same1 pu f
structure PEo (X : Cx) (T : Tab) (pu : Bool) (e : Expr) (f : FO) : Prop where
  pe : PE X e (tOw T pu f)
  same : Same1 pu f

theorem _root_.L2.PE.imp {X : Cx} {e : Expr} {t t' : TE} (h : PE X e t) (k : ∀ σ H Q, t' σ H Q → t σ H Q) : PE X e t' := ⟨fun pins s σ H Q I q => h.run pins s σ H Q I (k σ H Q q)⟩
theorem _root_.L2.PT.imp {X : Cx} {e : Expr} {t t' : TT} (h : PT X e t) (k : ∀ σ H Q, t' σ H Q → t σ H Q) : PT X e t' := ⟨fun pins s σ H Q I q => h.run pins s σ H Q I (k σ H Q q)⟩
theorem _root_.L2.PW.imp {X : Cx} {e : Expr} {t t' : TT} (h : PW X e t) (k : ∀ σ H Q, t' σ H Q → t σ H Q) : PW X e t' := ⟨fun wh pins s σ H Q I q => h.run wh pins s σ H Q I (k σ H Q q)⟩
theorem _root_.L2.PA.imp {X : Cx} {es : List Expr} {t t' : TA} (h : PA X es t) (k : ∀ σ H Q, t' σ H Q → t σ H Q) : PA X es t' := ⟨fun pos pins s σ H Q I q => h.run pos pins s σ H Q I (k σ H Q q)⟩
theorem _root_.L2.PS.imp {X : Cx} {st : Stmt} {t t' : TS} (h : PS X st t) (k : ∀ D σ H, t' D σ H → t D σ H) : PS X st t' := ⟨fun pins s σ H D I q => h.run pins s σ H D I (k D σ H q)⟩
theorem _root_.L2.PSs.imp {X : Cx} {st : List Stmt} {t t' : TS} (h : PSs X st t) (k : ∀ D σ H, t' D σ H → t D σ H) : PSs X st t' := ⟨fun pins s σ H D I q => h.run pins s σ H D I (k D σ H q)⟩

/-! ### what operators do with data -/
/-- two values -/
def Lift2 (T : Tab) (r : R2) (g : D → D → Option D) : Prop := ∀ (H G : Hp) (dx dy : D) (x y : V) (dz : D), Ex G H → Rep T G dx x → Rep T G dy y → g dx dy = some dz → ∀ Q : VK, (∀ v H' G', Stp H G H' G' → Rep T G' dz v → Q v H') → r x y H Q
/-- .. a new list -/
def Lift2O (T : Tab) (r : R2) (g : D → D → Option (List D)) : Prop := ∀ (H G : Hp) (dx dy : D) (x y : V) (l : List D), Ex G H → Rep T G dx x → Rep T G dy y → g dx dy = some l → ∀ Q : VK, (∀ p xs, H p = none → Reps T G l xs → Q (.ref p) (upd H p (.lst xs))) → r x y H Q
def Lift1 (T : Tab) (r : V → Hp → VK → Prop) (g : D → Option D) : Prop := ∀ (H G : Hp) (dx : D) (x : V) (dz : D), Ex G H → Rep T G dx x → g dx = some dz → ∀ Q : VK, (∀ v H' G', Stp H G H' G' → Rep T G' dz v → Q v H') → r x H Q
def LiftN (T : Tab) (r : List V → Hp → VK → Prop) (g : List D → Option D) : Prop := ∀ (H G : Hp) (ds : List D) (xs : List V) (dz : D), Ex G H → Reps T G ds xs → g ds = some dz → ∀ Q : VK, (∀ v H' G', Stp H G H' G' → Rep T G' dz v → Q v H') → r xs H Q
def LiftNO (T : Tab) (r : List V → Hp → VK → Prop) (g : List D → Option (List D)) : Prop := ∀ (H G : Hp) (ds : List D) (xs : List V) (l : List D), Ex G H → Reps T G ds xs → g ds = some l → ∀ Q : VK, (∀ p ys, H p = none → Reps T G l ys → Q (.ref p) (upd H p (.lst ys))) → r xs H Q
def LiftT (T : Tab) (r : V → Hp → (Bool → Hp → Prop) → Prop) (g : D → Option Bool) : Prop := ∀ (H G : Hp) (dx : D) (x : V) (b : Bool), Ex G H → Rep T G dx x → g dx = some b → ∀ Q : Bool → Hp → Prop, Q b H → r x H Q

theorem Lift2.or {T : Tab} {r r' : R2} {g g' : D → D → Option D} (a : Lift2 T r g) (b : Lift2 T r' g') : Lift2 T (fun x y H Q => r x y H Q ∨ r' x y H Q) (fun x y => (g x y).or (g' x y)) := by
  intro H G dx dy x y dz e rx ry h Q k
  have h : (g dx dy).or (g' dx dy) = some dz := h
  cases q : g dx dy with
  | some z => rw [q] at h; exact .inl (a H G dx dy x y dz e rx ry (by rw [q]; exact h) Q k)
  | none => rw [q] at h; exact .inr (b H G dx dy x y dz e rx ry h Q k)
theorem LiftN.or {T : Tab} {r r' : List V → Hp → VK → Prop} {g g' : List D → Option D} (a : LiftN T r g) (b : LiftN T r' g') : LiftN T (fun x H Q => r x H Q ∨ r' x H Q) (fun x => (g x).or (g' x)) := by
  intro H G dx x dz e rx h Q k
  have h : (g dx).or (g' dx) = some dz := h
  cases q : g dx with
  | some z => rw [q] at h; exact .inl (a H G dx x dz e rx (by rw [q]; exact h) Q k)
  | none => rw [q] at h; exact .inr (b H G dx x dz e rx h Q k)

/-! ### readings of expressions -/
@[simp] def fVar (i : Nat) : FE := fun ρ => match ρ[i]? with
  | some (some (.sh d)) => some (d, ρ)
  | _ => none
@[simp] def fC (d : D) : FE := fun ρ => some (d, ρ)
@[simp] def fBin {α : Type} (g : D → D → Option α) (a b : FE) : Fenv → Option (α × Fenv) := fun ρ => (a ρ).bind fun x => (b x.2).bind fun y => (g x.1 y.1).map fun z => (z, y.2)
@[simp] def fUn {α : Type} (g : D → Option α) (a : FE) : Fenv → Option (α × Fenv) := fun ρ => (a ρ).bind fun x => (g x.1).map fun z => (z, x.2)
@[simp] def fArgs {α : Type} (g : List D → Option α) (a : FA) : Fenv → Option (α × Fenv) := fun ρ => (a ρ).bind fun x => (g x.1).map fun z => (z, x.2)
@[simp] def fNil : FA := fun ρ => some ([], ρ)
@[simp] def fCons (a : FE) (r : FA) : FA := fun ρ => (a ρ).bind fun x => (r x.2).bind fun y => some (x.1 :: y.1, y.2)
@[simp] def fIf {α : Type} (t : FT) (a b : Fenv → Option (α × Fenv)) : Fenv → Option (α × Fenv) := fun ρ => (t ρ).bind fun x => if x.1 then a x.2 else b x.2
@[simp] def fAnd (t u : FT) : FT := fun ρ => (t ρ).bind fun x => if x.1 then u x.2 else some (false, x.2)
@[simp] def fOr (t u : FT) : FT := fun ρ => (t ρ).bind fun x => if x.1 then some (true, x.2) else u x.2
@[simp] def fNot (t : FT) : FT := fun ρ => (t ρ).bind fun x => some (!x.1, x.2)
@[simp] def dBool : D → Option Bool
  | .bl b => some b
  | _ => none
/-- a reading as a truth value, and back -/
@[simp] def fTest (a : FE) : FT := fUn dBool a
@[simp] def fVal (t : FT) : FE := fun ρ => (t ρ).bind fun x => some (.bl x.1, x.2)
/-- what owned list slot i is lent meanwhile -/
@[simp] def fLend {α : Type} (i : Nat) (ok : α → Bool) (f : Fenv → Option (α × Fenv)) : Fenv → Option (α × Fenv) := fun ρ => match ρ[i]? with
  | some (some (.own _ o)) => if o.frz then (f (ρ.set i (some (.sh o.toD)))).bind fun x => if ok x.1 then some (x.1, ρ) else none else none
  | _ => none
@[simp] def fFrz (f : FO) : FE := fun ρ => (f ρ).bind fun x => if x.1.frz then some (x.1.toD, x.2) else none
@[simp] def fLst (f : Fenv → Option (List D × Fenv)) : FO := fun ρ => (f ρ).bind fun x => some (.lst x.1, x.2)

section
variable {X : Cx} {T : Tab} {pu pa pb pc : Bool} {e a b c : Expr} {es : List Expr} {f fa fb fc : FE} {ft fu : FT} {fs : FA} {pos : Pos}

theorem Same1.bind {α β : Type} {f : Fenv → Option (α × Fenv)} {k : α × Fenv → Option (β × Fenv)} (h : Same1 pa f) (hk : ∀ x y, k x = some y → pb = true → y.2 = x.2) : Same1 (pa && pb) fun ρ => (f ρ).bind k := fun hp ρ z ρ' e => by
  rw [Bool.and_eq_true] at hp
  obtain ⟨x, e1, e2⟩ := Option.bind_eq_some_iff.mp e
  have := h hp.1 ρ x.1 x.2 e1
  rw [← this]
  exact hk x (z, ρ') e2 hp.2

theorem pef_var {i : Nat} {x : Str} (hN : X.N[i]? = some x := by rfl) (hv : Vis X.env.scope x := by first | exact Or.inl rfl | exact Or.inr (Or.inl rfl) | exact Or.inr (Or.inr rfl)) (hd : (x == ("__debug__" : Str)) = false := by decide) (hcd : (x == ("__classdict__" : Str)) = false := by decide) :
    PEf X T true (.Name x pos) (fVar i) where
  pe := (pe_var hN hv hd hcd).imp fun σ H Q ⟨C, ρ, G, d, ρ', S, h, k⟩ => by
    unfold fVar at h
    split at h
    · rename_i d' hi
      cases h
      obtain ⟨v, e, r⟩ := S.sh i d hi
      exact ⟨v, e, k v H G (Nxt.refl S) r⟩
    · cases h
  same := fun _ ρ d ρ' h => by
    unfold fVar at h
    split at h
    · cases h; rfl
    · cases h
theorem pef_c {d : D} {v : V} (h : PE X e (tC v)) (r : ∀ G, Rep T G d v) : PEf X T true e (fC d) where
  pe := h.imp fun σ H Q ⟨C, ρ, G, d', ρ', S, h, k⟩ => by
    cases h
    exact k v H G (Nxt.refl S) (r G)
  same := fun _ ρ d ρ' h => by cases h; rfl
theorem pef_int {i : Int} {j : Nat} : PEf X T true (.Constant (.int i) j pos) (fC (.int i)) := pef_c pe_int fun _ => .int i
theorem pef_bl {b : Bool} {j : Nat} : PEf X T true (.Constant (.bool b) j pos) (fC (.bl b)) := pef_c pe_bl fun _ => .bl b
theorem pef_non {j : Nat} : PEf X T true (.Constant .none j pos) (fC .non) := pef_c pe_non fun _ => .non
theorem pef_str {x : Str} {j : Nat} : PEf X T true (.Constant (.str x) j pos) (fC (.str x)) := pef_c pe_str fun _ => .str x
/-- a module's whole number -/
theorem pef_globI {x : Str} {i : Int} {t : Tok} (hg : Gl X x) (hm : X.mg x = some (.int i t)) (hd : (x == ("__debug__" : Str)) = false := by decide) : PEf X T true (.Name x pos) (fC (.int i)) :=
  pef_c (v := .int i) (pe_glob hg hm ⟨t, rfl⟩ hd) fun _ => .int i

theorem bin_run {r : R2} {α : Type} {g : D → D → Option α} (ha : PEf X T pa a fa) (hb : PEf X T pb b fb) {C : C0} {ρ ρ' : Fenv} {σ : L2.St} {H G : Hp} {z : α} {Q : VK} (S : Sta T C ρ σ H G) (h : fBin g fa fb ρ = some (z, ρ'))
    (k : ∀ dx dy x y H' G', Nxt T C ρ' σ (pa && pb) H G H' G' → Rep T G' dx x → Rep T G' dy y → g dx dy = some z → r x y H' Q) : tOp r (tD T pa fa) (tD T pb fb) σ H Q := by
  obtain ⟨⟨dx, ρ1⟩, e1, h⟩ := Option.bind_eq_some_iff.mp h
  obtain ⟨⟨dy, ρ2⟩, e2, h⟩ := Option.bind_eq_some_iff.mp h
  obtain ⟨z', e3, h⟩ := Option.map_eq_some_iff.mp h
  cases h
  refine ⟨C, ρ, G, dx, ρ1, S, e1, fun x H1 G1 n1 r1 => ⟨C, ρ1, G1, dy, ρ2, n1.st, e2, fun y H2 G2 n2 r2 => ?_⟩⟩
  exact k dx dy x y H2 G2 (n1.trans n2) (r1.mono n2.ex) r2 e3
theorem bin_same {α : Type} {g : D → D → Option α} (ha : Same1 pa fa) (hb : Same1 pb fb) : Same1 (pa && pb) (fBin g fa fb) := fun hp ρ z ρ' h => by
  rw [Bool.and_eq_true] at hp
  obtain ⟨⟨dx, ρ1⟩, e1, h⟩ := Option.bind_eq_some_iff.mp h
  obtain ⟨⟨dy, ρ2⟩, e2, h⟩ := Option.bind_eq_some_iff.mp h
  obtain ⟨z', e3, h⟩ := Option.map_eq_some_iff.mp h
  cases h
  exact (hb hp.2 _ _ _ e2).trans (ha hp.1 _ _ _ e1)
theorem pef_bin {r : R2} {g : D → D → Option D} (mk : ∀ {ta tb : TE}, PE X a ta → PE X b tb → PE X e (tOp r ta tb)) (l : Lift2 T r g) (ha : PEf X T pa a fa) (hb : PEf X T pb b fb) : PEf X T (pa && pb) e (fBin g fa fb) where
  pe := (mk ha.pe hb.pe).imp fun σ H Q ⟨C, ρ, G, d, ρ', S, h, k⟩ => bin_run ha hb S h fun dx dy x y H' G' n rx ry hz =>
    l H' G' dx dy x y d n.st.gh rx ry hz Q fun v H2 G2 q r => k v H2 G2 (n.stp q) r
  same := bin_same ha.same hb.same
theorem Nxt.push {C : C0} {ρ' : Fenv} {σ : L2.St} {H G H' G' : Hp} {l : List D} {xs : List V} {p : Addr} (n : Nxt T C ρ' σ pu H G H' G') (hp : H' p = none) (r : Reps T G' l xs) : Nxt T C (ρ' ++ [some (.own true (.lst l))]) (σ ++ [some (.ref p)]) pu H G (upd H' p (.lst xs)) G' :=
  ⟨n.st.pushNew hp ⟨p, xs, rfl, rfl, upd_same, r⟩, n.ex, fun h => (n.pu h).trans (Ex.new hp)⟩
theorem peo_bin {r : R2} {g : D → D → Option (List D)} (mk : ∀ {ta tb : TE}, PE X a ta → PE X b tb → PE X e (tOp r ta tb)) (l : Lift2O T r g) (ha : PEf X T pa a fa) (hb : PEf X T pb b fb) : PEo X T (pa && pb) e (fLst (fBin g fa fb)) where
  pe := (mk ha.pe hb.pe).imp fun σ H Q ⟨C, ρ, G, o, ρ', S, h, k⟩ => by
    obtain ⟨⟨l', ρ2⟩, h2, e⟩ := Option.bind_eq_some_iff.mp h
    cases e
    exact bin_run ha hb S h2 fun dx dy x y H' G' n rx ry hz => l H' G' dx dy x y l' n.st.gh rx ry hz Q fun p xs hp r => k _ _ _ (n.push hp r)
  same := fun hp ρ z ρ' h => by
    obtain ⟨⟨l', ρ2⟩, h2, e⟩ := Option.bind_eq_some_iff.mp h
    cases e
    exact bin_same ha.same hb.same hp _ _ _ h2
theorem pef_un {op : UnaryOp} {r : V → Hp → VK → Prop} {g : D → Option D} (ho : UnR X (unaryOp op) r) (l : Lift1 T r g) (ha : PEf X T pa a fa) : PEf X T pa (.UnaryOp op a pos) (fUn g fa) where
  pe := (pe_un ho ha.pe).imp fun σ H Q ⟨C, ρ, G, d, ρ', S, h, k⟩ => by
    obtain ⟨⟨dx, ρ1⟩, e1, h⟩ := Option.bind_eq_some_iff.mp h
    obtain ⟨z', e3, h⟩ := Option.map_eq_some_iff.mp h
    cases h
    exact ⟨C, ρ, G, dx, ρ1, S, e1, fun x H1 G1 n1 r1 => l H1 G1 dx x d n1.st.gh r1 e3 Q fun v H2 G2 q r => k v H2 G2 (n1.stp q) r⟩
  same := fun hp ρ z ρ' h => by
    obtain ⟨⟨dx, ρ1⟩, e1, h⟩ := Option.bind_eq_some_iff.mp h
    obtain ⟨z', e3, h⟩ := Option.map_eq_some_iff.mp h
    cases h
    exact ha.same hp _ _ _ e1

/-! ### argument lists, displays, calls of built-ins -/
theorem paf_nil : PAf X T true [] fNil where
  pa := pa_nil.imp fun σ H Q ⟨C, ρ, G, d, ρ', S, h, k⟩ => by cases h; exact k [] H G (Nxt.refl S) .nil
  same := fun _ ρ d ρ' h => by cases h; rfl
theorem cons_same (ha : Same1 pa fa) (hs : Same1 pb fs) : Same1 (pa && pb) (fCons fa fs) := fun hp ρ z ρ' h => by
  rw [Bool.and_eq_true] at hp
  obtain ⟨⟨dx, ρ1⟩, e1, h⟩ := Option.bind_eq_some_iff.mp h
  obtain ⟨⟨dy, ρ2⟩, e2, h⟩ := Option.bind_eq_some_iff.mp h
  cases h
  exact (hs hp.2 _ _ _ e2).trans (ha hp.1 _ _ _ e1)
theorem paf_cons (ha : PEf X T pa a fa) (hr : PAf X T pb es fs) (hs : starEach (a :: es) X.env = (false, eval a X.env) :: starEach es X.env := by rfl) : PAf X T (pa && pb) (a :: es) (fCons fa fs) where
  pa := (pa_cons ha.pe hr.pa hs).imp fun σ H Q ⟨C, ρ, G, d, ρ', S, h, k⟩ => by
    obtain ⟨⟨dx, ρ1⟩, e1, h⟩ := Option.bind_eq_some_iff.mp h
    obtain ⟨⟨dy, ρ2⟩, e2, h⟩ := Option.bind_eq_some_iff.mp h
    cases h
    exact ⟨C, ρ, G, dx, ρ1, S, e1, fun x H1 G1 n1 r1 => ⟨C, ρ1, G1, dy, ρ2, n1.st, e2, fun ys H2 G2 n2 r2 => k _ _ _ (n1.trans n2) (.cons (r1.mono n2.ex) r2)⟩⟩
  same := cons_same ha.same hr.same
theorem args_same {α : Type} {g : List D → Option α} (hs : Same1 pa fs) : Same1 pa (fArgs g fs) := fun hp ρ z ρ' h => by
  obtain ⟨⟨dx, ρ1⟩, e1, h⟩ := Option.bind_eq_some_iff.mp h
  obtain ⟨z', e3, h⟩ := Option.map_eq_some_iff.mp h
  cases h
  exact hs hp _ _ _ e1
/-- more items than any written display -/
def many : Nat := 1000000
theorem many_le : many ≤ sizeLine := by rw [sizeLine_eq]; decide
@[simp] def dTup (l : List D) : Option D := if l.length ≤ many then some (.tup l) else none
@[simp] def dLst (l : List D) : Option (List D) := if l.length ≤ many then some l else none
theorem pef_tup {k : Nat} (h : PAf X T pa es fs) : PEf X T pa (.Tuple es k pos) (fArgs dTup fs) where
  pe := (pe_tup h.pa).imp fun σ H Q ⟨C, ρ, G, d, ρ', S, hh, kk⟩ => by
    obtain ⟨⟨dx, ρ1⟩, e1, hh⟩ := Option.bind_eq_some_iff.mp hh
    obtain ⟨z', e3, hh⟩ := Option.map_eq_some_iff.mp hh
    cases hh
    refine ⟨C, ρ, G, dx, ρ1, S, e1, fun xs H1 G1 n1 r1 => ?_⟩
    simp only [dTup] at e3
    split at e3
    · rename_i hl
      cases e3
      refine ⟨Nat.le_trans (by rw [← r1.length]; exact hl) many_le, fun p hp => kk _ _ (upd G1 p (.tup xs)) (n1.stp (Stp.new n1.st.gh hp)) (.tup upd_same (r1.mono (Ex.new (n1.st.gh.free hp))))⟩
    · cases e3
  same := args_same h.same
theorem peo_lst (h : PAf X T pa es fs) : PEo X T pa (.List es pos) (fLst (fArgs dLst fs)) where
  pe := (pe_lst h.pa).imp fun σ H Q ⟨C, ρ, G, o, ρ', S, hh, kk⟩ => by
    obtain ⟨⟨l', ρ2⟩, h2, e⟩ := Option.bind_eq_some_iff.mp hh
    cases e
    obtain ⟨⟨dx, ρ1⟩, e1, hh⟩ := Option.bind_eq_some_iff.mp h2
    obtain ⟨z', e3, hh⟩ := Option.map_eq_some_iff.mp hh
    cases hh
    refine ⟨C, ρ, G, dx, ρ1, S, e1, fun xs H1 G1 n1 r1 => ?_⟩
    simp only [dLst] at e3
    split at e3
    · rename_i hl
      cases e3
      exact ⟨Nat.le_trans (by rw [← r1.length]; exact hl) many_le, fun p hp => kk _ _ G1 (n1.push hp r1)⟩
    · cases e3
  same := fun hp ρ z ρ' hh => by
    obtain ⟨⟨l', ρ2⟩, h2, e⟩ := Option.bind_eq_some_iff.mp hh
    cases e
    exact args_same h.same hp _ _ _ h2
theorem pef_args {r : List V → Hp → VK → Prop} {g : List D → Option D} (mk : PE X e (tCB r (tDs T pa fs))) (l : LiftN T r g) (h : Same1 pa fs) : PEf X T pa e (fArgs g fs) where
  pe := mk.imp fun σ H Q ⟨C, ρ, G, d, ρ', S, hh, kk⟩ => by
    obtain ⟨⟨dx, ρ1⟩, e1, hh⟩ := Option.bind_eq_some_iff.mp hh
    obtain ⟨z', e3, hh⟩ := Option.map_eq_some_iff.mp hh
    cases hh
    exact ⟨C, ρ, G, dx, ρ1, S, e1, fun xs H1 G1 n1 r1 => l H1 G1 dx xs d n1.st.gh r1 e3 Q fun v H2 G2 q r => kk v H2 G2 (n1.stp q) r⟩
  same := args_same h
theorem peo_args {r : List V → Hp → VK → Prop} {g : List D → Option (List D)} (mk : PE X e (tCB r (tDs T pa fs))) (l : LiftNO T r g) (h : Same1 pa fs) : PEo X T pa e (fLst (fArgs g fs)) where
  pe := mk.imp fun σ H Q ⟨C, ρ, G, o, ρ', S, hh, kk⟩ => by
    obtain ⟨⟨l', ρ2⟩, h2, e⟩ := Option.bind_eq_some_iff.mp hh
    cases e
    obtain ⟨⟨dx, ρ1⟩, e1, hh⟩ := Option.bind_eq_some_iff.mp h2
    obtain ⟨z', e3, hh⟩ := Option.map_eq_some_iff.mp hh
    cases hh
    exact ⟨C, ρ, G, dx, ρ1, S, e1, fun xs H1 G1 n1 r1 => l H1 G1 dx xs l' n1.st.gh r1 e3 Q fun p ys hp r => kk _ _ _ (n1.push hp r)⟩
  same := fun hp ρ z ρ' hh => by
    obtain ⟨⟨l', ρ2⟩, h2, e⟩ := Option.bind_eq_some_iff.mp hh
    cases e
    exact args_same h hp _ _ _ h2

/-! ### tests -/
theorem ptf_test {f : FE} (mk : PT X e (tTest (tD T pu f))) (h : Same1 pu f) : PTf X T pu e (fTest f) where
  pt := mk.imp fun σ H Q ⟨C, ρ, G, b, ρ', S, hh, kk⟩ => by
    obtain ⟨⟨dx, ρ1⟩, e1, hh⟩ := Option.bind_eq_some_iff.mp hh
    obtain ⟨z', e3, hh⟩ := Option.map_eq_some_iff.mp hh
    cases hh
    refine ⟨C, ρ, G, dx, ρ1, S, e1, fun x H1 G1 n1 r1 => ?_⟩
    cases r1 with
    | bl b' => simp only [dBool] at e3; cases e3; exact ⟨_, rfl, kk H1 G1 n1⟩
    | _ => simp [dBool] at e3
  same := fun hp ρ z ρ' hh => by
    obtain ⟨⟨dx, ρ1⟩, e1, hh⟩ := Option.bind_eq_some_iff.mp hh
    obtain ⟨z', e3, hh⟩ := Option.map_eq_some_iff.mp hh
    cases hh
    exact h hp _ _ _ e1
/-- an expression that is no comparison, whose value is a truth value -/
theorem ptf_val {f : FE} (h : PEf X T pu e f) (he : ∀ whole, isTrue e X.env whole = (do let v ← whole; standAt e.pos; holding [v] (truthy v)) := by intro _; rfl) : PTf X T pu e (fTest f) := ptf_test (pt_val h.pe he) h.same
/-- .. or anything whose truth is known -/
theorem ptf_truth {f : FE} {g : D → Option Bool} (l : LiftT T (fun x H Q => ∃ k, TruV X.K x H k ∧ Q k H) g) (h : PEf X T pu e f) (he : ∀ whole, isTrue e X.env whole = (do let v ← whole; standAt e.pos; holding [v] (truthy v)) := by intro _; rfl) : PTf X T pu e (fUn g f) where
  pt := (pt_truth h.pe he).imp fun σ H Q ⟨C, ρ, G, b, ρ', S, hh, kk⟩ => by
    obtain ⟨⟨dx, ρ1⟩, e1, hh⟩ := Option.bind_eq_some_iff.mp hh
    obtain ⟨z', e3, hh⟩ := Option.map_eq_some_iff.mp hh
    cases hh
    exact ⟨C, ρ, G, dx, ρ1, S, e1, fun x H1 G1 n1 r1 => l H1 G1 dx x b n1.st.gh r1 e3 Q (kk H1 G1 n1)⟩
  same := fun hp ρ z ρ' hh => by
    obtain ⟨⟨dx, ρ1⟩, e1, hh⟩ := Option.bind_eq_some_iff.mp hh
    obtain ⟨z', e3, hh⟩ := Option.map_eq_some_iff.mp hh
    cases hh
    exact h.same hp _ _ _ e1
theorem ptf_cmp {op : CmpOp} {r : R2} {g : D → D → Option D} (ho : OpR X (compareOp op) r) (l : Lift2 T r g) (ha : PEf X T pa a fa) (hb : PEf X T pb b fb) (hm : behindInMarks op b = false) : PTf X T (pa && pb) (.Compare a [op] [b] pos) (fTest (fBin g fa fb)) :=
  ptf_test ((pt_cmpR ho ha.pe hb.pe hm).imp fun σ H Q ⟨C, ρ, G, d, ρ', S, h, k⟩ => bin_run (r := r) ha hb S h fun dx dy x y H' G' n rx ry hz => l H' G' dx dy x y d n.st.gh rx ry hz _ fun v H2 G2 q r => k v H2 G2 (n.stp q) r) (bin_same ha.same hb.same)
theorem pef_cmp {op : CmpOp} {r : R2} {g : D → D → Option D} (ho : OpR X (compareOp op) r) (l : Lift2 T r g) (ha : PEf X T pa a fa) (hb : PEf X T pb b fb) (hm : behindInMarks op b = false) : PEf X T (pa && pb) (.Compare a [op] [b] pos) (fBin g fa fb) :=
  pef_bin (fun h1 h2 => pe_cmpR ho h1 h2 hm) l ha hb
@[simp] def fChain (g g' : D → D → Option D) (a b c : FE) : FE := fun ρ => (a ρ).bind fun x => (b x.2).bind fun y => (g x.1 y.1).bind fun z => match z with
  | .bl true => (c y.2).bind fun w => (g' y.1 w.1).map fun z => (z, w.2)
  | .bl false => some (.bl false, y.2)
  | _ => none
theorem chain_run {r r' : R2} {g g' : D → D → Option D} (l : Lift2 T r g) (l' : Lift2 T r' g') (ha : PEf X T pa a fa) (hb : PEf X T pb b fb) (hc : PEf X T pc c fc) {C : C0} {ρ ρ' : Fenv} {σ : L2.St} {H G : Hp} {z : D} {Q : VK} (S : Sta T C ρ σ H G) (h : fChain g g' fa fb fc ρ = some (z, ρ'))
    (k : ∀ v H' G', Nxt T C ρ' σ (pa && pb && pc) H G H' G' → Rep T G' z v → Q v H') : tChain r r' (tD T pa fa) (tD T pb fb) (tD T pc fc) σ H Q := by
  obtain ⟨⟨dx, ρ1⟩, e1, h⟩ := Option.bind_eq_some_iff.mp h
  obtain ⟨⟨dy, ρ2⟩, e2, h⟩ := Option.bind_eq_some_iff.mp h
  obtain ⟨z', e3, h⟩ := Option.bind_eq_some_iff.mp h
  refine ⟨C, ρ, G, dx, ρ1, S, e1, fun x H1 G1 n1 r1 => ⟨C, ρ1, G1, dy, ρ2, n1.st, e2, fun y H2 G2 n2 r2 => ?_⟩⟩
  refine l H2 G2 dx dy x y z' n2.st.gh (r1.mono n2.ex) r2 e3 _ fun v H3 G3 q3 r3 => ?_
  have n3 := (n1.trans n2).stp q3
  cases r3 with
  | bl bb =>
    cases bb with
    | true =>
      obtain ⟨⟨dw, ρ3⟩, e4, h⟩ := Option.bind_eq_some_iff.mp h
      obtain ⟨z', e5, h⟩ := Option.map_eq_some_iff.mp h
      cases h
      refine ⟨true, rfl, ?_⟩
      rw [if_pos rfl]
      exact ⟨C, ρ2, G3, dw, ρ3, n3.st, e4, fun w H4 G4 n4 r4 => l' H4 G4 dy dw y w z n4.st.gh ((r2.mono q3.gg).mono n4.ex) r4 e5 Q fun v H5 G5 q5 r5 => k v H5 G5 ((n3.trans n4).stp q5) r5⟩
    | false =>
      cases h
      refine ⟨false, rfl, ?_⟩
      rw [if_neg Bool.false_ne_true]
      exact k _ H3 G3 ⟨n3.st, n3.ex, fun hp => n3.pu (by rw [Bool.and_eq_true] at hp; exact hp.1)⟩ (.bl false)
  | _ => cases h
theorem chain_same {g g' : D → D → Option D} (ha : Same1 pa fa) (hb : Same1 pb fb) (hc : Same1 pc fc) : Same1 (pa && pb && pc) (fChain g g' fa fb fc) := fun hp ρ z ρ' h => by
  rw [Bool.and_eq_true, Bool.and_eq_true] at hp
  obtain ⟨⟨dx, ρ1⟩, e1, h⟩ := Option.bind_eq_some_iff.mp h
  obtain ⟨⟨dy, ρ2⟩, e2, h⟩ := Option.bind_eq_some_iff.mp h
  obtain ⟨z', e3, h⟩ := Option.bind_eq_some_iff.mp h
  have q := (hb hp.1.2 _ _ _ e2).trans (ha hp.1.1 _ _ _ e1)
  cases z' with
  | bl bb =>
    cases bb with
    | true =>
      obtain ⟨⟨dw, ρ3⟩, e4, h⟩ := Option.bind_eq_some_iff.mp h
      obtain ⟨z', e5, h⟩ := Option.map_eq_some_iff.mp h
      cases h
      exact (hc hp.2 _ _ _ e4).trans q
    | false => cases h; exact q
  | _ => cases h
theorem pef_chain {op op' : CmpOp} {r r' : R2} {g g' : D → D → Option D} (ho : OpR X (compareOp op) r) (ho' : OpR X (compareOp op') r') (l : Lift2 T r g) (l' : Lift2 T r' g') (ha : PEf X T pa a fa) (hb : PEf X T pb b fb) (hc : PEf X T pc c fc)
    (hm : lastMarks [op, op'] [b, c] = false := by with_unfolding_all rfl) : PEf X T (pa && pb && pc) (.Compare a [op, op'] [b, c] pos) (fChain g g' fa fb fc) where
  pe := (pe_chain ho ho' ha.pe hb.pe hc.pe hm).imp fun σ H Q ⟨C, ρ, G, d, ρ', S, h, k⟩ => chain_run l l' ha hb hc S h k
  same := chain_same ha.same hb.same hc.same
theorem ptf_chain {op op' : CmpOp} {r r' : R2} {g g' : D → D → Option D} (ho : OpR X (compareOp op) r) (ho' : OpR X (compareOp op') r') (l : Lift2 T r g) (l' : Lift2 T r' g') (ha : PEf X T pa a fa) (hb : PEf X T pb b fb) (hc : PEf X T pc c fc)
    (hm : lastMarks [op, op'] [b, c] = false := by with_unfolding_all rfl) : PTf X T (pa && pb && pc) (.Compare a [op, op'] [b, c] pos) (fTest (fChain g g' fa fb fc)) :=
  ptf_test ((pt_chain ho ho' ha.pe hb.pe hc.pe hm).imp fun σ H Q ⟨C, ρ, G, d, ρ', S, h, k⟩ => chain_run l l' ha hb hc S h k) (chain_same ha.same hb.same hc.same)
theorem not_same (h : Same1 pa ft) : Same1 pa (fNot ft) := fun hp ρ z ρ' hh => by
  obtain ⟨⟨dx, ρ1⟩, e1, hh⟩ := Option.bind_eq_some_iff.mp hh
  cases hh
  exact h hp _ _ _ e1
theorem ptf_not (h : PTf X T pa a ft) : PTf X T pa (.UnaryOp .Not a pos) (fNot ft) where
  pt := (pt_not h.pt).imp fun σ H Q ⟨C, ρ, G, b, ρ', S, hh, kk⟩ => by
    obtain ⟨⟨dx, ρ1⟩, e1, hh⟩ := Option.bind_eq_some_iff.mp hh
    cases hh
    exact ⟨C, ρ, G, dx, ρ1, S, e1, fun H1 G1 n1 => kk H1 G1 n1⟩
  same := not_same h.same
theorem and_same (h : Same1 pa ft) (h' : Same1 pb fu) : Same1 (pa && pb) (fAnd ft fu) := fun hp ρ z ρ' hh => by
  rw [Bool.and_eq_true] at hp
  obtain ⟨⟨dx, ρ1⟩, e1, hh⟩ := Option.bind_eq_some_iff.mp hh
  have q := h hp.1 _ _ _ e1
  cases dx with
  | true => exact (h' hp.2 _ _ _ hh).trans q
  | false => cases hh; exact q
theorem or_same (h : Same1 pa ft) (h' : Same1 pb fu) : Same1 (pa && pb) (fOr ft fu) := fun hp ρ z ρ' hh => by
  rw [Bool.and_eq_true] at hp
  obtain ⟨⟨dx, ρ1⟩, e1, hh⟩ := Option.bind_eq_some_iff.mp hh
  have q := h hp.1 _ _ _ e1
  cases dx with
  | true => cases hh; exact q
  | false => exact (h' hp.2 _ _ _ hh).trans q
theorem pwf_and1 (h : PTf X T pa a ft) : PWf X T pa (.BoolOp .And [a] pos) ft := ⟨pw_and1 h.pt, h.same⟩
theorem pwf_or1 (h : PTf X T pa a ft) : PWf X T pa (.BoolOp .Or [a] pos) ft := ⟨pw_or1 h.pt, h.same⟩
theorem pwf_and {rest : List Expr} (h : PTf X T pa a ft) (h' : PWf X T pb (.BoolOp .And (b :: rest) pos) fu) : PWf X T (pa && pb) (.BoolOp .And (a :: b :: rest) pos) (fAnd ft fu) where
  pw := (pw_and h.pt h'.pw).imp fun σ H Q ⟨C, ρ, G, b, ρ', S, hh, kk⟩ => by
    obtain ⟨⟨dx, ρ1⟩, e1, hh⟩ := Option.bind_eq_some_iff.mp hh
    refine ⟨C, ρ, G, dx, ρ1, S, e1, fun H1 G1 n1 => ?_⟩
    cases dx with
    | true =>
      rw [if_pos rfl]
      exact ⟨C, ρ1, G1, b, ρ', n1.st, hh, fun H2 G2 n2 => kk H2 G2 (n1.trans n2)⟩
    | false =>
      cases hh
      rw [if_neg Bool.false_ne_true]
      exact kk H1 G1 ⟨n1.st, n1.ex, fun hp => n1.pu (by rw [Bool.and_eq_true] at hp; exact hp.1)⟩
  same := and_same h.same h'.same
theorem pwf_or {rest : List Expr} (h : PTf X T pa a ft) (h' : PWf X T pb (.BoolOp .Or (b :: rest) pos) fu) : PWf X T (pa && pb) (.BoolOp .Or (a :: b :: rest) pos) (fOr ft fu) where
  pw := (pw_or h.pt h'.pw).imp fun σ H Q ⟨C, ρ, G, b, ρ', S, hh, kk⟩ => by
    obtain ⟨⟨dx, ρ1⟩, e1, hh⟩ := Option.bind_eq_some_iff.mp hh
    refine ⟨C, ρ, G, dx, ρ1, S, e1, fun H1 G1 n1 => ?_⟩
    cases dx with
    | false =>
      rw [if_neg Bool.false_ne_true]
      exact ⟨C, ρ1, G1, b, ρ', n1.st, hh, fun H2 G2 n2 => kk H2 G2 (n1.trans n2)⟩
    | true =>
      cases hh
      rw [if_pos rfl]
      exact kk H1 G1 ⟨n1.st, n1.ex, fun hp => n1.pu (by rw [Bool.and_eq_true] at hp; exact hp.1)⟩
  same := or_same h.same h'.same
theorem PWf.pt (h : PWf X T pa a ft) : PTf X T pa a ft := ⟨PW.pt h.pw, h.same⟩

/-! ### and, or, not as values (truth values) -/
@[simp] def fAndV (a b : FE) : FE := fun ρ => (a ρ).bind fun x => match x.1 with
  | .bl true => b x.2
  | .bl false => some (.bl false, x.2)
  | _ => none
@[simp] def fOrV (a b : FE) : FE := fun ρ => (a ρ).bind fun x => match x.1 with
  | .bl true => some (.bl true, x.2)
  | .bl false => b x.2
  | _ => none
@[simp] def dNot : D → Option D
  | .bl b => some (.bl (!b))
  | _ => none
theorem pef_one {op : BoolOp} (h : PEf X T pa a fa) : PEf X T pa (.BoolOp op [a] pos) fa := ⟨pe_one h.pe, h.same⟩
theorem pef_and {rest : List Expr} (ha : PEf X T pa a fa) (hb : PEf X T pb (.BoolOp .And (b :: rest) pos) fb) : PEf X T (pa && pb) (.BoolOp .And (a :: b :: rest) pos) (fAndV fa fb) where
  pe := (pe_and ha.pe hb.pe).imp fun σ H Q ⟨C, ρ, G, d, ρ', S, hh, kk⟩ => by
    obtain ⟨⟨dx, ρ1⟩, e1, hh⟩ := Option.bind_eq_some_iff.mp hh
    refine ⟨C, ρ, G, dx, ρ1, S, e1, fun x H1 G1 n1 r1 => ?_⟩
    cases r1 with
    | bl bb =>
      refine ⟨bb, rfl, ?_⟩
      cases bb with
      | true =>
        rw [if_pos rfl]
        exact ⟨C, ρ1, G1, d, ρ', n1.st, hh, fun v H2 G2 n2 r2 => kk v H2 G2 (n1.trans n2) r2⟩
      | false =>
        cases hh
        rw [if_neg Bool.false_ne_true]
        exact kk _ H1 G1 ⟨n1.st, n1.ex, fun hp => n1.pu (by rw [Bool.and_eq_true] at hp; exact hp.1)⟩ (.bl false)
    | _ => cases hh
  same := fun hp ρ z ρ' hh => by
    rw [Bool.and_eq_true] at hp
    obtain ⟨⟨dx, ρ1⟩, e1, hh⟩ := Option.bind_eq_some_iff.mp hh
    have q := ha.same hp.1 _ _ _ e1
    cases dx with
    | bl bb =>
      cases bb with
      | true => exact (hb.same hp.2 _ _ _ hh).trans q
      | false => cases hh; exact q
    | _ => cases hh
theorem pef_or {rest : List Expr} (ha : PEf X T pa a fa) (hb : PEf X T pb (.BoolOp .Or (b :: rest) pos) fb) : PEf X T (pa && pb) (.BoolOp .Or (a :: b :: rest) pos) (fOrV fa fb) where
  pe := (pe_or ha.pe hb.pe).imp fun σ H Q ⟨C, ρ, G, d, ρ', S, hh, kk⟩ => by
    obtain ⟨⟨dx, ρ1⟩, e1, hh⟩ := Option.bind_eq_some_iff.mp hh
    refine ⟨C, ρ, G, dx, ρ1, S, e1, fun x H1 G1 n1 r1 => ?_⟩
    cases r1 with
    | bl bb =>
      refine ⟨bb, rfl, ?_⟩
      cases bb with
      | false =>
        rw [if_neg Bool.false_ne_true]
        exact ⟨C, ρ1, G1, d, ρ', n1.st, hh, fun v H2 G2 n2 r2 => kk v H2 G2 (n1.trans n2) r2⟩
      | true =>
        cases hh
        rw [if_pos rfl]
        exact kk _ H1 G1 ⟨n1.st, n1.ex, fun hp => n1.pu (by rw [Bool.and_eq_true] at hp; exact hp.1)⟩ (.bl true)
    | _ => cases hh
  same := fun hp ρ z ρ' hh => by
    rw [Bool.and_eq_true] at hp
    obtain ⟨⟨dx, ρ1⟩, e1, hh⟩ := Option.bind_eq_some_iff.mp hh
    have q := ha.same hp.1 _ _ _ e1
    cases dx with
    | bl bb =>
      cases bb with
      | false => exact (hb.same hp.2 _ _ _ hh).trans q
      | true => cases hh; exact q
    | _ => cases hh
theorem pef_not (ha : PEf X T pa a fa) : PEf X T pa (.UnaryOp .Not a pos) (fUn dNot fa) where
  pe := (pe_not ha.pe).imp fun σ H Q ⟨C, ρ, G, d, ρ', S, hh, kk⟩ => by
    obtain ⟨⟨dx, ρ1⟩, e1, hh⟩ := Option.bind_eq_some_iff.mp hh
    obtain ⟨z', e3, hh⟩ := Option.map_eq_some_iff.mp hh
    cases hh
    refine ⟨C, ρ, G, dx, ρ1, S, e1, fun x H1 G1 n1 r1 => ?_⟩
    cases r1 with
    | bl bb => simp only [dNot] at e3; cases e3; exact ⟨bb, rfl, kk _ H1 G1 n1 (.bl _)⟩
    | _ => simp [dNot] at e3
  same := fun hp ρ z ρ' hh => by
    obtain ⟨⟨dx, ρ1⟩, e1, hh⟩ := Option.bind_eq_some_iff.mp hh
    obtain ⟨z', e3, hh⟩ := Option.map_eq_some_iff.mp hh
    cases hh
    exact ha.same hp _ _ _ e1
theorem if_same {α : Type} {f1 f2 : Fenv → Option (α × Fenv)} (h : Same1 pa ft) (h1 : Same1 pb f1) (h2 : Same1 pc f2) : Same1 (pa && pb && pc) (fIf ft f1 f2) := fun hp ρ z ρ' hh => by
  rw [Bool.and_eq_true, Bool.and_eq_true] at hp
  obtain ⟨⟨dx, ρ1⟩, e1, hh⟩ := Option.bind_eq_some_iff.mp hh
  have q := h hp.1.1 _ _ _ e1
  cases dx with
  | true => exact (h1 hp.1.2 _ _ _ hh).trans q
  | false => exact (h2 hp.2 _ _ _ hh).trans q
theorem pef_if (ht : PTf X T pa c ft) (ha : PEf X T pb a fa) (hb : PEf X T pc b fb) : PEf X T (pa && pb && pc) (.IfExp c a b pos) (fIf ft fa fb) where
  pe := (pe_ifExp ht.pt ha.pe hb.pe).imp fun σ H Q ⟨C, ρ, G, d, ρ', S, hh, kk⟩ => by
    obtain ⟨⟨dx, ρ1⟩, e1, hh⟩ := Option.bind_eq_some_iff.mp hh
    refine ⟨C, ρ, G, dx, ρ1, S, e1, fun H1 G1 n1 => ?_⟩
    cases dx with
    | true =>
      rw [if_pos rfl]
      exact ⟨C, ρ1, G1, d, ρ', n1.st, hh, fun v H2 G2 n2 r2 => kk v H2 G2 ⟨n2.st, n1.ex.trans n2.ex, fun hp => by rw [Bool.and_eq_true, Bool.and_eq_true] at hp; exact (n1.pu hp.1.1).trans (n2.pu hp.1.2)⟩ r2⟩
    | false =>
      rw [if_neg Bool.false_ne_true]
      exact ⟨C, ρ1, G1, d, ρ', n1.st, hh, fun v H2 G2 n2 r2 => kk v H2 G2 ⟨n2.st, n1.ex.trans n2.ex, fun hp => by rw [Bool.and_eq_true, Bool.and_eq_true] at hp; exact (n1.pu hp.1.1).trans (n2.pu hp.2)⟩ r2⟩
  same := if_same ht.same ha.same hb.same
/-- owned objects: one of two -/
theorem peo_if {fo fp : FO} (ht : PTf X T pa c ft) (ha : PEo X T pb a fo) (hb : PEo X T pc b fp) : PEo X T (pa && pb && pc) (.IfExp c a b pos) (fIf ft fo fp) where
  pe := (pe_ifExp ht.pt ha.pe hb.pe).imp fun σ H Q ⟨C, ρ, G, d, ρ', S, hh, kk⟩ => by
    obtain ⟨⟨dx, ρ1⟩, e1, hh⟩ := Option.bind_eq_some_iff.mp hh
    refine ⟨C, ρ, G, dx, ρ1, S, e1, fun H1 G1 n1 => ?_⟩
    cases dx with
    | true =>
      rw [if_pos rfl]
      exact ⟨C, ρ1, G1, d, ρ', n1.st, hh, fun v H2 G2 n2 => kk v H2 G2 ⟨n2.st, n1.ex.trans n2.ex, fun hp => by rw [Bool.and_eq_true, Bool.and_eq_true] at hp; exact (n1.pu hp.1.1).trans (n2.pu hp.1.2)⟩⟩
    | false =>
      rw [if_neg Bool.false_ne_true]
      exact ⟨C, ρ1, G1, d, ρ', n1.st, hh, fun v H2 G2 n2 => kk v H2 G2 ⟨n2.st, n1.ex.trans n2.ex, fun hp => by rw [Bool.and_eq_true, Bool.and_eq_true] at hp; exact (n1.pu hp.1.1).trans (n2.pu hp.2)⟩⟩
  same := if_same ht.same ha.same hb.same

/-! ### freezing, lending -/
theorem pef_frz {fo : FO} (h : PEo X T pu e fo) : PEf X T pu e (fFrz fo) where
  pe := h.pe.imp fun σ H Q ⟨C, ρ, G, d, ρ', S, hh, kk⟩ => by
    obtain ⟨⟨o, ρ1⟩, e1, hh⟩ := Option.bind_eq_some_iff.mp hh
    dsimp only at hh
    split at hh
    · rename_i hf
      cases hh
      refine ⟨C, ρ, G, o, _, S, e1, fun v H1 G1 n1 => ?_⟩
      obtain ⟨G2, S2, e2, r2⟩ := n1.st.freezeLast hf
      exact kk v H1 G2 ⟨S2, n1.ex.trans e2, n1.pu⟩ r2
    · cases hh
  same := fun hp ρ z ρ' hh => by
    obtain ⟨⟨o, ρ1⟩, e1, hh⟩ := Option.bind_eq_some_iff.mp hh
    dsimp only at hh
    split at hh
    · cases hh; exact h.same hp _ _ _ e1
    · cases hh
theorem lend_same {α : Type} {i : Nat} {ok : α → Bool} {f : Fenv → Option (α × Fenv)} : Same1 pu (fLend i ok f) := fun _ ρ z ρ' hh => by
  unfold fLend at hh
  split at hh
  · split at hh
    · obtain ⟨x, e1, hh⟩ := Option.bind_eq_some_iff.mp hh
      split at hh
      · cases hh; rfl
      · cases hh
    · cases hh
  · cases hh
theorem lend_run {α : Type} {i : Nat} {ok : α → Bool} {f : Fenv → Option (α × Fenv)} {C : C0} {ρ ρ' : Fenv} {σ : L2.St} {H G : Hp} {z : α} (sm : Same1 true f) (S : Sta T C ρ σ H G) (h : fLend i ok f ρ = some (z, ρ')) :
    ∃ C' ρ1 G1, Sta T C' ρ1 σ H G1 ∧ f ρ1 = some (z, ρ1) ∧ ok z = true ∧ ρ' = ρ ∧ ∀ H' G', Nxt T C' ρ1 σ true H G1 H' G' → ∃ G2, Nxt T C ρ σ true H G H' G2 ∧ ∀ d v, Rep T G' d v → noL d = true → Rep T G2 d v := by
  unfold fLend at h
  split at h
  · rename_i g o hi
    split at h
    · rename_i hf
      obtain ⟨⟨z', ρ2⟩, e1, h⟩ := Option.bind_eq_some_iff.mp h
      split at h
      · rename_i hok
        cases h
        obtain ⟨fp, vo, hvo, hoo, hn, hl, S', back⟩ := S.lend hi hf
        have e2 := sm rfl _ _ _ e1
        subst e2
        refine ⟨_, _, _, S', e1, hok, rfl, fun H' G' n => ⟨lessH G' fp, ⟨back H' G' (n.pu rfl) n.ex n.st, fun b u eb => ?_, n.pu⟩, fun d v r hd => lent_rep r hd hl n.ex⟩⟩
        unfold lessH
        rw [if_neg fun z => by rw [hn b z] at eb; cases eb]
        exact n.ex b u (frz_ex hn b u eb)
      · cases h
    · cases h
  · cases h
/-- an expression that only reads the owned list of slot i -/
theorem pef_lend (i : Nat) (h : PEf X T true e f) : PEf X T true e (fLend i noL f) where
  pe := h.pe.imp fun σ H Q ⟨C, ρ, G, d, ρ', S, hh, kk⟩ => by
    obtain ⟨C', ρ1, G1, S1, e1, ok, rfl, back⟩ := lend_run h.same S hh
    refine ⟨C', ρ1, G1, d, ρ1, S1, e1, fun v H' G' n r => ?_⟩
    obtain ⟨G2, n2, r2⟩ := back H' G' n
    exact kk v H' G2 n2 (r2 d v r ok)
  same := lend_same
theorem ptf_lend (i : Nat) (h : PTf X T true e ft) : PTf X T true e (fLend i (fun _ => true) ft) where
  pt := h.pt.imp fun σ H Q ⟨C, ρ, G, d, ρ', S, hh, kk⟩ => by
    obtain ⟨C', ρ1, G1, S1, e1, ok, rfl, back⟩ := lend_run h.same S hh
    refine ⟨C', ρ1, G1, d, ρ1, S1, e1, fun H' G' n => ?_⟩
    obtain ⟨G2, n2, r2⟩ := back H' G' n
    exact kk H' G2 n2
  same := lend_same
end
end Fl
end

section
set_option Elab.async false
set_option linter.all false
set_option autoImplicit false
set_option maxRecDepth 100000
set_option maxHeartbeats 2000000
namespace Fl
open PySem PySem.Spec PyProof.Rows L2

theorem Rep.sqL {T : Tab} {G H : Hp} {K : PySem.W.Frag} {l : List D} {v : V} (e : Ex G H) (r : Rep T G (.lst l) v) : ∃ a xs, v = .ref a ∧ SqL K H a xs ∧ Reps T G l xs := by
  cases r with
  | lst h q => exact ⟨_, _, rfl, .inl (.inl (e _ _ h)), q⟩
theorem Rep.sqT {T : Tab} {G H : Hp} {K : PySem.W.Frag} {l : List D} {v : V} (e : Ex G H) (r : Rep T G (.tup l) v) : ∃ a xs, v = .ref a ∧ SqT K H a xs ∧ Reps T G l xs := by
  cases r with
  | tup h q => exact ⟨_, _, rfl, .inl (.inl (e _ _ h)), q⟩

/-! ### == at any depth -/
mutual
def D.py : D → PyData
  | .non => .none
  | .bl b => .bool b
  | .int i => .int i
  | .str s => .str s
  | .tup l => .tuple (D.pys l)
  | .lst l => .list (D.pys l)
  | .obj _ _ => .dict []
def D.pys : List D → List PyData
  | [] => []
  | d :: ds => d.py :: D.pys ds
end
/-! no objects, of little depth -/
mutual
def fit : Nat → D → Bool
  | _, .obj _ _ => false
  | 0, .tup _ => false
  | 0, .lst _ => false
  | n + 1, .tup l => fits n l
  | n + 1, .lst l => fits n l
  | _, .str s => PyData.strOk s
  | _, _ => true
def fits : Nat → List D → Bool
  | _, [] => true
  | n, d :: ds => fit n d && fits n ds
end
mutual
def eqD : D → D → Bool
  | .non, .non => true
  | .bl a, .bl b => a == b
  | .bl a, .int j => (if a = true then 1 else 0) == j
  | .int i, .bl b => i == (if b = true then 1 else 0)
  | .int i, .int j => i == j
  | .str x, .str y => x == y
  | .tup l, .tup m => eqDs l m
  | .lst l, .lst m => eqDs l m
  | _, _ => false
def eqDs : List D → List D → Bool
  | [], [] => true
  | d :: ds, e :: es => eqD d e && eqDs ds es
  | _, _ => false
end
mutual
theorem fit_ok : ∀ (n : Nat) (d : D), fit n d = true → d.py.canLay0 = true ∧ d.py.depth ≤ n
  | n, .non, _ => by simp [D.py, PyData.canLay0, PyData.depth]
  | n, .bl b, _ => by simp [D.py, PyData.canLay0, PyData.depth]
  | n, .int i, _ => by simp [D.py, PyData.canLay0, PyData.depth]
  | n, .str s, h => by
    refine ⟨?_, by simp [D.py, PyData.depth]⟩
    cases n <;> simpa [D.py, PyData.canLay0, fit] using h
  | 0, .tup l, h => by simp [fit] at h
  | 0, .lst l, h => by simp [fit] at h
  | n + 1, .tup l, h => by
    have h' : fits n l = true := by simpa [fit] using h
    have q := fits_ok n l h'
    simp only [D.py, PyData.canLay0, PyData.depth]
    exact ⟨q.1, by omega⟩
  | n + 1, .lst l, h => by
    have h' : fits n l = true := by simpa [fit] using h
    have q := fits_ok n l h'
    simp only [D.py, PyData.canLay0, PyData.depth]
    exact ⟨q.1, by omega⟩
  | n, .obj c l, h => by cases n <;> simp [fit] at h
theorem fits_ok : ∀ (n : Nat) (l : List D), fits n l = true → PyData.canLayAll0 (D.pys l) = true ∧ PyData.depthAll (D.pys l) ≤ n
  | n, [], _ => by simp [D.pys, PyData.canLayAll0, PyData.depthAll]
  | n, d :: ds, h => by
    have h' : fit n d = true ∧ fits n ds = true := by simpa [fits] using h
    have q := fit_ok n d h'.1
    have q' := fits_ok n ds h'.2
    simp only [D.pys, PyData.canLayAll0, PyData.depthAll, Bool.and_eq_true]
    exact ⟨⟨q.1, q'.1⟩, by omega⟩
end
mutual
def noObj : D → Bool
  | .obj _ _ => false
  | .tup l => noObjs l
  | .lst l => noObjs l
  | _ => true
def noObjs : List D → Bool
  | [] => true
  | d :: ds => noObj d && noObjs ds
end
mutual
theorem eqD_py : ∀ (a b : D), noObj a = true → noObj b = true → PyData.eqv a.py b.py = eqD a b
  | .non, b, _, hb => by cases b <;> simp_all [D.py, PyData.eqv, eqD, noObj]
  | .bl x, b, _, hb => by cases b <;> simp_all [D.py, PyData.eqv, eqD, noObj]
  | .int x, b, _, hb => by cases b <;> simp_all [D.py, PyData.eqv, eqD, noObj]
  | .str x, b, _, hb => by cases b <;> simp_all [D.py, PyData.eqv, eqD, noObj]
  | .tup l, b, ha, hb => by
    cases b with
    | tup m => simp only [D.py, PyData.eqv, eqD]; exact eqDs_py l m (by simpa [noObj] using ha) (by simpa [noObj] using hb)
    | _ => simp_all [D.py, PyData.eqv, eqD, noObj]
  | .lst l, b, ha, hb => by
    cases b with
    | lst m => simp only [D.py, PyData.eqv, eqD]; exact eqDs_py l m (by simpa [noObj] using ha) (by simpa [noObj] using hb)
    | _ => simp_all [D.py, PyData.eqv, eqD, noObj]
  | .obj _ _, _, ha, _ => by simp [noObj] at ha
theorem eqDs_py : ∀ (a b : List D), noObjs a = true → noObjs b = true → PyData.eqvAll (D.pys a) (D.pys b) = eqDs a b
  | [], [], _, _ => by simp [D.pys, PyData.eqvAll, eqDs]
  | [], _ :: _, _, _ => by simp [D.pys, PyData.eqvAll, eqDs]
  | _ :: _, [], _, _ => by simp [D.pys, PyData.eqvAll, eqDs]
  | a :: as, b :: bs, ha, hb => by
    have ha' : noObj a = true ∧ noObjs as = true := by simpa [noObjs] using ha
    have hb' : noObj b = true ∧ noObjs bs = true := by simpa [noObjs] using hb
    simp only [D.pys, PyData.eqvAll, eqDs]
    rw [eqD_py a b ha'.1 hb'.1, eqDs_py as bs ha'.2 hb'.2]
end

mutual
theorem fit_no : ∀ (n : Nat) (d : D), fit n d = true → noObj d = true
  | _, .non, _ => by simp [noObj]
  | _, .bl b, _ => by simp [noObj]
  | _, .int i, _ => by simp [noObj]
  | _, .str s, _ => by simp [noObj]
  | 0, .tup l, h => by simp [fit] at h
  | 0, .lst l, h => by simp [fit] at h
  | n + 1, .tup l, h => by simp only [noObj]; exact fits_no n l (by simpa [fit] using h)
  | n + 1, .lst l, h => by simp only [noObj]; exact fits_no n l (by simpa [fit] using h)
  | n, .obj c l, h => by cases n <;> simp [fit] at h
theorem fits_no : ∀ (n : Nat) (l : List D), fits n l = true → noObjs l = true
  | _, [], _ => by simp [noObjs]
  | n, d :: ds, h => by
    have h' : fit n d = true ∧ fits n ds = true := by simpa [fits] using h
    simp only [noObjs, Bool.and_eq_true]
    exact ⟨fit_no n d h'.1, fits_no n ds h'.2⟩
end
mutual
theorem Rep.dp {T : Tab} {G H : Hp} {K : PySem.W.Frag} (e : Ex G H) : ∀ {d : D} {v : V}, Rep T G d v → noObj d = true → Dp K H v d.py
  | _, _, .non, _ => .non
  | _, _, .bl b, _ => .bl b
  | _, _, .int i, _ => .int i
  | _, _, .str s, _ => .str s
  | _, _, .tup h r, n => .tup (.inl (.inl (e _ _ h))) (Reps.dp e r (by simpa [noObj] using n))
  | _, _, .lst h r, n => .lst (.inl (.inl (e _ _ h))) (Reps.dp e r (by simpa [noObj] using n))
  | _, _, .obj c h l r, n => by simp [noObj] at n
theorem Reps.dp {T : Tab} {G H : Hp} {K : PySem.W.Frag} (e : Ex G H) : ∀ {ds : List D} {vs : List V}, Reps T G ds vs → noObjs ds = true → DpAll K H vs (D.pys ds)
  | _, _, .nil, _ => .nil
  | _, _, .cons (d := d) (ds := ds) h r, n => by
    have n' : noObj d = true ∧ noObjs ds = true := by simpa [noObjs] using n
    exact .cons (Rep.dp e h n'.1) (Reps.dp e r n'.2)
end
theorem fit_shaped {d : D} (h : fit 8 d = true) : SeqAt.shaped d.py = true := by
  have q := fit_ok 8 d h
  unfold SeqAt.shaped
  rw [q.1, Bool.true_and]
  exact decide_eq_true (by omega)

/-! ### operators on data -/
@[simp] def dI (g : Int → Int → Int) : D → D → Option D
  | .int i, .int j => some (.int (g i j))
  | _, _ => none
@[simp] def dIB (g : Int → Int → Bool) : D → D → Option D
  | .int i, .int j => some (.bl (g i j))
  | _, _ => none
@[simp] def dAdd : D → D → Option D
  | .int i, .int j => some (.int (i + j))
  | .tup a, .tup b => if a.length + b.length ≤ many then some (.tup (a ++ b)) else none
  | _, _ => none
@[simp] def dMul : D → D → Option D
  | .int i, .int j => if (-18446744073709551616 < i ∧ i < 18446744073709551616) ∨ (-18446744073709551616 < j ∧ j < 18446744073709551616) then some (.int (i * j)) else none
  | _, _ => none
@[simp] def dDiv : D → D → Option D
  | .int i, .int j => if 0 < j ∧ j < 18446744073709551616 then some (.int (i / j)) else none
  | _, _ => none
@[simp] def dMod : D → D → Option D
  | .int i, .int j => if 0 < j then some (.int (i % j)) else none
  | _, _ => none
@[simp] def dPow : D → D → Option D
  | .int i, .int j => if 0 ≤ j ∧ j ≤ 64 ∧ -18446744073709551616 < i ∧ i < 18446744073709551616 then some (.int (i ^ j.toNat)) else none
  | _, _ => none
@[simp] def dNeg : D → Option D
  | .int i => some (.int (-i))
  | _ => none
@[simp] def dEq (a b : D) : Option D := if fit 8 a && fit 8 b then some (.bl (eqD a b)) else none
@[simp] def dNe (a b : D) : Option D := if fit 8 a && fit 8 b then some (.bl (!eqD a b)) else none
@[simp] def dIsN : D → D → Option D
  | .non, .non => some (.bl true)
  | _, .non => some (.bl false)
  | _, _ => none
@[simp] def dNotN : D → D → Option D
  | .non, .non => some (.bl false)
  | _, .non => some (.bl true)
  | _, _ => none
@[simp] def dIx : D → D → Option D
  | .tup l, .int i => atI l i
  | .lst l, .int i => atI l i
  | _, _ => none
@[simp] def dIn : D → D → Option D
  | d, .lst l => if fit 8 d && fits 7 l then some (.bl (l.any fun z => eqD z d)) else none
  | d, .tup l => if fit 8 d && fits 7 l then some (.bl (l.any fun z => eqD z d)) else none
  | _, _ => none
section
variable {T : Tab} {K : PySem.W.Frag}
theorem stp0 {H G : Hp} (e : Ex G H) : Stp H G H G := Stp.refl e
theorem l_I {g : Int → Int → Int} : Lift2 T (rI0 fun i j => .int (g i j)) (dI g) := by
  intro H G dx dy x y dz e rx ry h Q k
  cases rx with
  | int i =>
    cases ry with
    | int j => cases h; exact ⟨i, j, rfl, rfl, k _ H G (stp0 e) (.int _)⟩
    | _ => cases h
  | _ => cases h
theorem l_IB {g : Int → Int → Bool} : Lift2 T (rI0 fun i j => .bl (g i j)) (dIB g) := by
  intro H G dx dy x y dz e rx ry h Q k
  cases rx with
  | int i =>
    cases ry with
    | int j => cases h; exact ⟨i, j, rfl, rfl, k _ H G (stp0 e) (.bl _)⟩
    | _ => cases h
  | _ => cases h
theorem l_add : Lift2 T (fun x y H Q => rI0 (fun i j => .int (i + j)) x y H Q ∨ rCatA K x y H Q) dAdd := by
  intro H G dx dy x y dz e rx ry h Q k
  cases dx with
  | int i =>
    cases dy with
    | int j => cases rx; cases ry; cases h; exact .inl ⟨i, j, rfl, rfl, k _ H G (stp0 e) (.int _)⟩
    | _ => cases h
  | tup a =>
    cases dy with
    | tup b =>
      simp only [dAdd] at h
      split at h
      · rename_i hl
        cases h
        obtain ⟨p, xs, rfl, hx, r1⟩ := rx.sqT (K := K) e
        obtain ⟨q, ys, rfl, hy, r2⟩ := ry.sqT (K := K) e
        refine .inr ⟨p, q, xs, ys, rfl, rfl, hx, hy, Nat.le_trans (by rw [← r1.length, ← r2.length]; exact hl) many_le, fun ex => ?_, fun _ ey => ?_, fun _ _ n hn => ?_⟩
        · subst ex
          cases r1
          exact k _ H G (stp0 e) ry
        · subst ey
          cases r2
          rw [List.append_nil] at k
          exact k _ H G (stp0 e) rx
        · exact k _ _ (upd G n (.tup (xs ++ ys))) (Stp.new e hn) (.tup upd_same ((r1.append r2).mono (Ex.new (e.free hn))))
      · cases h
    | _ => cases h
  | _ => cases h
theorem l_mul : Lift2 T (rI CMul fun i j => .int (i * j)) dMul := by
  intro H G dx dy x y dz e rx ry h Q k
  cases rx with
  | int i =>
    cases ry with
    | int j =>
      simp only [dMul] at h
      split at h
      · rename_i hc
        cases h
        exact ⟨i, j, rfl, rfl, by unfold CMul; rcases hc with z | z <;> omega, k _ H G (stp0 e) (.int _)⟩
      · cases h
    | _ => cases h
  | _ => cases h
theorem l_div : Lift2 T (rI CDivW fun i j => .int (i / j)) dDiv := by
  intro H G dx dy x y dz e rx ry h Q k
  cases rx with
  | int i =>
    cases ry with
    | int j =>
      simp only [dDiv] at h
      split at h
      · rename_i hc
        cases h
        exact ⟨i, j, rfl, rfl, wide_div (b := 64) hc.1 (by have := hc.2; omega) (by decide) (by decide), k _ H G (stp0 e) (.int _)⟩
      · cases h
    | _ => cases h
  | _ => cases h
theorem l_mod : Lift2 T (rI (fun _ j => 0 < j) fun i j => .int (i % j)) dMod := by
  intro H G dx dy x y dz e rx ry h Q k
  cases rx with
  | int i =>
    cases ry with
    | int j =>
      simp only [dMod] at h
      split at h
      · rename_i hc
        cases h
        exact ⟨i, j, rfl, rfl, hc, k _ H G (stp0 e) (.int _)⟩
      · cases h
    | _ => cases h
  | _ => cases h
theorem l_pow : Lift2 T (rI CPow fun i j => .int (i ^ j.toNat)) dPow := by
  intro H G dx dy x y dz e rx ry h Q k
  cases rx with
  | int i =>
    cases ry with
    | int j =>
      simp only [dPow] at h
      split at h
      · rename_i hc
        cases h
        exact ⟨i, j, rfl, rfl, ⟨hc.1, by omega, by omega⟩, k _ H G (stp0 e) (.int _)⟩
      · cases h
    | _ => cases h
  | _ => cases h
theorem l_neg : Lift1 T (rU fun i => .int (-i)) dNeg := by
  intro H G dx x dz e rx h Q k
  cases rx with
  | int i => cases h; exact ⟨i, rfl, k _ H G (stp0 e) (.int _)⟩
  | _ => cases h
theorem l_eq : Lift2 T (rEqD K) dEq := by
  intro H G dx dy x y dz e rx ry h Q k
  simp only [dEq] at h
  split at h
  · rename_i hc
    cases h
    rw [Bool.and_eq_true] at hc
    refine ⟨dx.py, dy.py, rx.dp e (fit_no 8 _ hc.1), ry.dp e (fit_no 8 _ hc.2), fit_shaped hc.1, fit_shaped hc.2, ?_⟩
    rw [eqD_py _ _ (fit_no 8 _ hc.1) (fit_no 8 _ hc.2)]
    exact k _ H G (stp0 e) (.bl _)
  · cases h
theorem l_ne : Lift2 T (rNeD K) dNe := by
  intro H G dx dy x y dz e rx ry h Q k
  simp only [dNe] at h
  split at h
  · rename_i hc
    cases h
    rw [Bool.and_eq_true] at hc
    refine ⟨dx.py, dy.py, rx.dp e (fit_no 8 _ hc.1), ry.dp e (fit_no 8 _ hc.2), fit_shaped hc.1, fit_shaped hc.2, ?_⟩
    rw [eqD_py _ _ (fit_no 8 _ hc.1) (fit_no 8 _ hc.2)]
    exact k _ H G (stp0 e) (.bl _)
  · cases h
def rIsNo : R2 := fun x y H Q => y = .non ∧ Q (.bl (decide (x = .non))) H
def rNotNo : R2 := fun x y H Q => y = .non ∧ Q (.bl (!decide (x = .non))) H
theorem l_isN : Lift2 T rIsNo dIsN := by
  intro H G dx dy x y dz e rx ry h Q k
  cases ry with
  | non =>
    refine ⟨rfl, ?_⟩
    cases rx <;> (cases h; exact k _ H G (stp0 e) (.bl _))
  | _ => cases rx <;> cases h
theorem l_notN : Lift2 T rNotNo dNotN := by
  intro H G dx dy x y dz e rx ry h Q k
  cases ry with
  | non =>
    refine ⟨rfl, ?_⟩
    cases rx <;> (cases h; exact k _ H G (stp0 e) (.bl _))
  | _ => cases rx <;> cases h
theorem Reps.atI {G : Hp} {l : List D} {xs : List V} {i : Int} {d : D} (r : Reps T G l xs) (h : L2.atI l i = some d) : ∃ v, L2.atI xs i = some v ∧ Rep T G d v := by
  unfold L2.atI at h ⊢
  obtain ⟨j, e1, e2⟩ := Option.bind_eq_some_iff.mp h
  obtain ⟨v, e3, q⟩ := r.get e2
  exact ⟨v, by rw [← r.length, e1]; exact e3, q⟩
theorem l_ix : Lift2 T (fun x y H Q => rIxL K x y H Q ∨ rIxT K x y H Q) dIx := by
  intro H G dx dy x y dz e rx ry h Q k
  cases dx with
  | tup l =>
    cases dy with
    | int i =>
      cases ry
      obtain ⟨p, xs, rfl, hx, r1⟩ := rx.sqT (K := K) e
      obtain ⟨v, e1, q⟩ := r1.atI (show L2.atI l i = some dz from h)
      exact .inr ⟨p, xs, i, v, rfl, rfl, hx, e1, k _ H G (stp0 e) q⟩
    | _ => cases h
  | lst l =>
    cases dy with
    | int i =>
      cases ry
      obtain ⟨p, xs, rfl, hx, r1⟩ := rx.sqL (K := K) e
      obtain ⟨v, e1, q⟩ := r1.atI (show L2.atI l i = some dz from h)
      exact .inl ⟨p, xs, i, v, rfl, rfl, hx, e1, k _ H G (stp0 e) q⟩
    | _ => cases h
  | _ => cases h
theorem any_py (d : D) (hd : noObj d = true) : ∀ l : List D, noObjs l = true → ((D.pys l).any fun z => PyData.eqv z d.py) = l.any fun z => eqD z d
  | [], _ => rfl
  | z :: l, h => by
    have h' : noObj z = true ∧ noObjs l = true := by simpa [noObjs] using h
    simp only [D.pys, List.any_cons]
    rw [eqD_py z d h'.1 hd, any_py d hd l h'.2]
end
/-- x in a list -/
theorem l_in {T : Tab} {K : PySem.W.Frag} : Lift2 T (rInD K) (fun d l => match l with | .lst l => dIn d (.lst l) | _ => none) := by
  intro H G dx dy x y dz e rx ry h Q k
  cases dy with
  | lst l =>
    simp only [dIn] at h
    split at h
    · rename_i hc
      cases h
      rw [Bool.and_eq_true] at hc
      have h8 : fit 8 (.lst l) = true := by simpa [fit] using hc.2
      refine ⟨dx.py, D.pys l, rx.dp e (fit_no 8 _ hc.1), ry.dp e (fit_no 8 _ h8), fit_shaped hc.1, ?_, ?_⟩
      · have := fit_shaped h8
        simpa [D.py] using this
      · rw [any_py dx (fit_no 8 _ hc.1) l (fits_no 7 _ hc.2)]
        exact k _ H G (stp0 e) (.bl _)
    · cases h
  | _ => cases h

/-! ### slices -/
/-- the items of l[lo:hi] -/
def cutD (l : List D) (lo hi : Option Int) : List D := (l.drop (HT.sIx l.length 0 lo)).take (HT.sIx l.length l.length hi - HT.sIx l.length 0 lo)
theorem Reps.cut {T : Tab} {G : Hp} {l : List D} {xs : List V} (r : Reps T G l xs) (lo hi : Option Int) : Reps T G (cutD l lo hi) (cutV xs lo hi) := by
  unfold cutD cutV
  rw [r.length]
  exact (r.drop _).take _
abbrev FPt := Fenv → Option (Option Int × Fenv)
def tPt (T : Tab) (pu : Bool) (f : FPt) : TO := fun σ H Q => ∃ C ρ G o ρ', Sta T C ρ σ H G ∧ f ρ = some (o, ρ') ∧ ∀ H' G', Nxt T C ρ' σ pu H G H' G' → Q o H'
structure POf (X : Cx) (T : Tab) (pu : Bool) (e : Option Expr) (f : FPt) : Prop where
  po : PO X e (tPt T pu f)
  same : Same1 pu f
theorem _root_.L2.PO.imp {X : Cx} {e : Option Expr} {t t' : TO} (h : PO X e t) (k : ∀ σ H Q, t' σ H Q → t σ H Q) : PO X e t' := ⟨fun pins s σ H Q I q => h.run pins s σ H Q I (k σ H Q q)⟩
@[simp] def dInt : D → Option Int
  | .int i => some i
  | _ => none
@[simp] def fNone : FPt := fun ρ => some (none, ρ)
@[simp] def fSome (a : FE) : FPt := fun ρ => (a ρ).bind fun x => (dInt x.1).map fun i => (some i, x.2)
@[simp] def fCut {α : Type} (g : D → Option Int → Option Int → Option α) (a : FE) (lo hi : FPt) : Fenv → Option (α × Fenv) := fun ρ => (a ρ).bind fun x => (lo x.2).bind fun l => (hi l.2).bind fun u => (g x.1 l.1 u.1).map fun z => (z, u.2)
@[simp] def dCutT : D → Option Int → Option Int → Option D
  | .tup l, lo, hi => some (.tup (cutD l lo hi))
  | _, _, _ => none
@[simp] def dCutL : D → Option Int → Option Int → Option (List D)
  | .lst l, lo, hi => some (cutD l lo hi)
  | _, _, _ => none
section
variable {X : Cx} {T : Tab} {pu pa pb pc : Bool} {e a b c : Expr} {lo hi : Option Expr} {fa : FE} {fl fh : FPt} {pos p2 : Pos}
theorem pof_none : POf X T true none fNone where
  po := po_none.imp fun σ H Q ⟨C, ρ, G, o, ρ', S, h, k⟩ => by cases h; exact k H G (Nxt.refl S)
  same := fun _ ρ z ρ' h => by cases h; rfl
theorem pof_some (h : PEf X T pu e fa) : POf X T pu (some e) (fSome fa) where
  po := (po_some h.pe).imp fun σ H Q ⟨C, ρ, G, o, ρ', S, hh, k⟩ => by
    obtain ⟨⟨dx, ρ1⟩, e1, hh⟩ := Option.bind_eq_some_iff.mp hh
    obtain ⟨z', e3, hh⟩ := Option.map_eq_some_iff.mp hh
    cases hh
    refine ⟨C, ρ, G, dx, ρ1, S, e1, fun x H1 G1 n1 r1 => ?_⟩
    cases r1 with
    | int i => cases e3; exact ⟨_, rfl, k H1 G1 n1⟩
    | _ => cases e3
  same := fun hp ρ z ρ' hh => by
    obtain ⟨⟨dx, ρ1⟩, e1, hh⟩ := Option.bind_eq_some_iff.mp hh
    obtain ⟨z', e3, hh⟩ := Option.map_eq_some_iff.mp hh
    cases hh
    exact h.same hp _ _ _ e1
theorem cut_run {α : Type} {g : D → Option Int → Option Int → Option α} {r : V → Option Int → Option Int → Hp → VK → Prop} {C : C0} {ρ ρ' : Fenv} {σ : L2.St} {H G : Hp} {z : α} {Q : VK} (S : Sta T C ρ σ H G) (h : fCut g fa fl fh ρ = some (z, ρ'))
    (k : ∀ dx l u x H' G', Nxt T C ρ' σ (pa && pb && pc) H G H' G' → Rep T G' dx x → g dx l u = some z → r x l u H' Q) : tSl r (tD T pa fa) (tPt T pb fl) (tPt T pc fh) σ H Q := by
  obtain ⟨⟨dx, ρ1⟩, e1, h⟩ := Option.bind_eq_some_iff.mp h
  obtain ⟨⟨l, ρ2⟩, e2, h⟩ := Option.bind_eq_some_iff.mp h
  obtain ⟨⟨u, ρ3⟩, e3, h⟩ := Option.bind_eq_some_iff.mp h
  obtain ⟨z', e4, h⟩ := Option.map_eq_some_iff.mp h
  cases h
  exact ⟨C, ρ, G, dx, ρ1, S, e1, fun x H1 G1 n1 r1 => ⟨C, ρ1, G1, l, ρ2, n1.st, e2, fun H2 G2 n2 => ⟨C, ρ2, G2, u, _, n2.st, e3, fun H3 G3 n3 => k dx l u x H3 G3 ((n1.trans n2).trans n3) (r1.mono (n2.ex.trans n3.ex)) e4⟩⟩⟩
theorem cut_same {α : Type} {g : D → Option Int → Option Int → Option α} (ha : Same1 pa fa) (hl : Same1 pb fl) (hh : Same1 pc fh) : Same1 (pa && pb && pc) (fCut g fa fl fh) := fun hp ρ z ρ' h => by
  rw [Bool.and_eq_true, Bool.and_eq_true] at hp
  obtain ⟨⟨dx, ρ1⟩, e1, h⟩ := Option.bind_eq_some_iff.mp h
  obtain ⟨⟨l, ρ2⟩, e2, h⟩ := Option.bind_eq_some_iff.mp h
  obtain ⟨⟨u, ρ3⟩, e3, h⟩ := Option.bind_eq_some_iff.mp h
  obtain ⟨z', e4, h⟩ := Option.map_eq_some_iff.mp h
  cases h
  exact ((hh hp.2 _ _ _ e3).trans (hl hp.1.2 _ _ _ e2)).trans (ha hp.1.1 _ _ _ e1)
theorem cutAll {l : List D} {lo hi : Option Int} (h : HT.sIx l.length 0 lo = 0 ∧ HT.sIx l.length l.length hi = l.length) : cutD l lo hi = l := by
  unfold cutD
  rw [h.1, h.2, Nat.sub_zero]
  simp
theorem pef_cutT (ha : PEf X T pa e fa) (hl : POf X T pb lo fl) (hh : POf X T pc hi fh) : PEf X T (pa && pb && pc) (.Subscript e (.Slice lo hi none p2) pos) (fCut dCutT fa fl fh) where
  pe := (pe_slice sl_tupA ha.pe hl.po hh.po).imp fun σ H Q ⟨C, ρ, G, d, ρ', S, h, k⟩ => cut_run S h fun dx l u x H' G' n r hz => by
    cases dx with
    | tup ds =>
      cases hz
      obtain ⟨p, xs, rfl, hx, r1⟩ := r.sqT (K := X.K) n.st.gh
      refine ⟨p, xs, rfl, hx, fun hw => ?_, fun hw q hq => ?_⟩
      · rw [← r1.length] at hw
        rw [cutAll hw] at k
        exact k _ H' G' n r
      · exact k _ _ (upd G' q (.tup (cutV xs l u))) (n.stp (Stp.new n.st.gh hq)) (.tup upd_same ((r1.cut l u).mono (Ex.new (n.st.gh.free hq))))
    | _ => cases hz
  same := cut_same ha.same hl.same hh.same
theorem peo_cutL (ha : PEf X T pa e fa) (hl : POf X T pb lo fl) (hh : POf X T pc hi fh) : PEo X T (pa && pb && pc) (.Subscript e (.Slice lo hi none p2) pos) (fLst (fCut dCutL fa fl fh)) where
  pe := (pe_slice sl_list ha.pe hl.po hh.po).imp fun σ H Q ⟨C, ρ, G, o, ρ', S, h, k⟩ => by
    obtain ⟨⟨l', ρ2⟩, h2, e⟩ := Option.bind_eq_some_iff.mp h
    cases e
    exact cut_run S h2 fun dx l u x H' G' n r hz => by
      cases dx with
      | lst ds =>
        cases hz
        obtain ⟨p, xs, rfl, hx, r1⟩ := r.sqL (K := X.K) n.st.gh
        exact ⟨p, xs, rfl, hx, fun q hq => k _ _ _ (n.push hq (r1.cut l u))⟩
      | _ => cases hz
  same := fun hp ρ z ρ' h => by
    obtain ⟨⟨l', ρ2⟩, h2, e⟩ := Option.bind_eq_some_iff.mp h
    cases e
    exact cut_same ha.same hl.same hh.same hp _ _ _ h2
end

/-! ### the named operators -/
section
variable {X : Cx} {T : Tab} {pu pa pb pc : Bool} {e a b c : Expr} {es : List Expr} {fa fb fc : FE} {fs : FA} {pos : Pos}
theorem pef_add (ha : PEf X T pa a fa) (hb : PEf X T pb b fb) : PEf X T (pa && pb) (.BinOp a .Add b pos) (fBin dAdd fa fb) := pef_bin (fun h1 h2 => pe_op (op_add.or op_catA) h1 h2) l_add ha hb
theorem pef_sub (ha : PEf X T pa a fa) (hb : PEf X T pb b fb) : PEf X T (pa && pb) (.BinOp a .Sub b pos) (fBin (dI fun i j => i - j) fa fb) := pef_bin (fun h1 h2 => pe_op op_sub h1 h2) l_I ha hb
theorem pef_mul (ha : PEf X T pa a fa) (hb : PEf X T pb b fb) : PEf X T (pa && pb) (.BinOp a .Mult b pos) (fBin dMul fa fb) := pef_bin (fun h1 h2 => pe_op op_mul h1 h2) l_mul ha hb
theorem pef_div (ha : PEf X T pa a fa) (hb : PEf X T pb b fb) : PEf X T (pa && pb) (.BinOp a .FloorDiv b pos) (fBin dDiv fa fb) := pef_bin (fun h1 h2 => pe_op op_fdivW h1 h2) l_div ha hb
theorem pef_mod (ha : PEf X T pa a fa) (hb : PEf X T pb b fb) : PEf X T (pa && pb) (.BinOp a .Mod b pos) (fBin dMod fa fb) := pef_bin (fun h1 h2 => pe_op op_mod h1 h2) l_mod ha hb
theorem pef_pow (ha : PEf X T pa a fa) (hb : PEf X T pb b fb) : PEf X T (pa && pb) (.BinOp a .Pow b pos) (fBin dPow fa fb) := pef_bin (fun h1 h2 => pe_op op_pow h1 h2) l_pow ha hb
theorem pef_neg (ha : PEf X T pa a fa) : PEf X T pa (.UnaryOp .USub a pos) (fUn dNeg fa) := pef_un un_neg l_neg ha
theorem pef_ix (ha : PEf X T pa a fa) (hb : PEf X T pb b fb) (hs : PlainIx b := by exact fun _ _ => rfl) : PEf X T (pa && pb) (.Subscript a b pos) (fBin dIx fa fb) := pef_bin (fun h1 h2 => pe_ix (ix_list.or ix_tup) h1 h2 hs) l_ix ha hb
@[simp] def dLt : D → D → Option D := dIB fun i j => decide (i < j)
@[simp] def dLe : D → D → Option D := dIB fun i j => decide (i ≤ j)
@[simp] def dGt : D → D → Option D := dIB fun i j => decide (j < i)
@[simp] def dGe : D → D → Option D := dIB fun i j => decide (j ≤ i)
/-- a comparison's rule for data -/
structure Cmp (X : Cx) (T : Tab) (op : CmpOp) (g : D → D → Option D) : Prop where
  ex : ∃ r, OpR X (compareOp op) r ∧ Lift2 T r g
theorem c_lt : Cmp X T .Lt dLt := ⟨_, op_lt, l_IB⟩
theorem c_le : Cmp X T .LtE dLe := ⟨_, op_le, l_IB⟩
theorem c_gt : Cmp X T .Gt dGt := ⟨_, op_gt, l_IB⟩
theorem c_ge : Cmp X T .GtE dGe := ⟨_, op_ge, l_IB⟩
theorem c_eq {k : Nat} (hr : Room k X.A) : Cmp X T .Eq dEq := ⟨_, op_eqD hr.units, l_eq⟩
theorem c_ne {k : Nat} (hr : Room k X.A) : Cmp X T .NotEq dNe := ⟨_, op_neD hr.units, l_ne⟩
theorem c_is : Cmp X T .Is dIsN := ⟨_, op_isN, l_isN⟩
theorem c_isnot : Cmp X T .IsNot dNotN := ⟨_, op_notN, l_notN⟩
theorem pef_cp {op : CmpOp} {g : D → D → Option D} (h : Cmp X T op g) (ha : PEf X T pa a fa) (hb : PEf X T pb b fb) (hm : behindInMarks op b = false := by exact nomark _) : PEf X T (pa && pb) (.Compare a [op] [b] pos) (fBin g fa fb) :=
  let ⟨_, ho, l⟩ := h.ex
  pef_cmp ho l ha hb hm
theorem ptf_cp {op : CmpOp} {g : D → D → Option D} (h : Cmp X T op g) (ha : PEf X T pa a fa) (hb : PEf X T pb b fb) (hm : behindInMarks op b = false := by exact nomark _) : PTf X T (pa && pb) (.Compare a [op] [b] pos) (fTest (fBin g fa fb)) :=
  let ⟨_, ho, l⟩ := h.ex
  ptf_cmp ho l ha hb hm
theorem pef_ch {op op' : CmpOp} {g g' : D → D → Option D} (h : Cmp X T op g) (h' : Cmp X T op' g') (ha : PEf X T pa a fa) (hb : PEf X T pb b fb) (hc : PEf X T pc c fc) (hm : lastMarks [op, op'] [b, c] = false := by with_unfolding_all rfl) :
    PEf X T (pa && pb && pc) (.Compare a [op, op'] [b, c] pos) (fChain g g' fa fb fc) :=
  let ⟨_, ho, l⟩ := h.ex
  let ⟨_, ho', l'⟩ := h'.ex
  pef_chain ho ho' l l' ha hb hc hm
theorem ptf_ch {op op' : CmpOp} {g g' : D → D → Option D} (h : Cmp X T op g) (h' : Cmp X T op' g') (ha : PEf X T pa a fa) (hb : PEf X T pb b fb) (hc : PEf X T pc c fc) (hm : lastMarks [op, op'] [b, c] = false := by with_unfolding_all rfl) :
    PTf X T (pa && pb && pc) (.Compare a [op, op'] [b, c] pos) (fTest (fChain g g' fa fb fc)) :=
  let ⟨_, ho, l⟩ := h.ex
  let ⟨_, ho', l'⟩ := h'.ex
  ptf_chain ho ho' l l' ha hb hc hm
end
end Fl
end

section
set_option Elab.async false
set_option linter.all false
set_option autoImplicit false
set_option maxRecDepth 100000
set_option maxHeartbeats 2000000
namespace Fl
open PySem PySem.Spec PyProof.Rows L2

/-! ### sorting, by insertion -/
section
variable {α : Type} (le : α → α → Bool)
def ins (x : α) : List α → List α
  | [] => [x]
  | y :: ys => if le x y = true then x :: y :: ys else y :: ins x ys
def isort : List α → List α
  | [] => []
  | x :: xs => ins le x (isort xs)
theorem ins_perm (x : α) : ∀ l : List α, (ins le x l).Perm (x :: l)
  | [] => .refl _
  | y :: ys => by
    unfold ins
    split
    · exact .refl _
    · exact ((ins_perm x ys).cons y).trans (.swap x y ys)
theorem isort_perm : ∀ l : List α, (isort le l).Perm l
  | [] => .refl _
  | x :: xs => (ins_perm le x _).trans ((isort_perm xs).cons x)
theorem isort_length (l : List α) : (isort le l).length = l.length := (isort_perm le l).length_eq
variable {le}
theorem ins_sorted (trans : ∀ x y z, le x y = true → le y z = true → le x z = true) (total : ∀ x y, (le x y || le y x) = true) (x : α) : ∀ l : List α, l.Pairwise (fun x y => le x y = true) → (ins le x l).Pairwise (fun x y => le x y = true)
  | [], _ => by simp [ins]
  | y :: ys, h => by
    obtain ⟨h1, h2⟩ := List.pairwise_cons.mp h
    unfold ins
    split
    · rename_i hxy
      refine List.pairwise_cons.mpr ⟨fun z hz => ?_, h⟩
      rcases List.mem_cons.mp hz with rfl | hz
      · exact hxy
      · exact trans x y z hxy (h1 z hz)
    · rename_i hxy
      refine List.pairwise_cons.mpr ⟨fun z hz => ?_, ins_sorted trans total x ys h2⟩
      rcases List.mem_cons.mp ((ins_perm le x ys).mem_iff.mp hz) with rfl | hz
      · have := total z y
        rw [Bool.or_eq_true] at this
        exact this.resolve_left hxy
      · exact h1 z hz
theorem isort_sorted (trans : ∀ x y z, le x y = true → le y z = true → le x z = true) (total : ∀ x y, (le x y || le y x) = true) : ∀ l : List α, (isort le l).Pairwise (fun x y => le x y = true)
  | [] => .nil
  | x :: xs => ins_sorted trans total x _ (isort_sorted trans total xs)
theorem ins_kept (trans : ∀ x y z, le x y = true → le y z = true → le x z = true) (total : ∀ x y, (le x y || le y x) = true) (x z : α) : ∀ l : List α, (ins le x l).filter (PySem.W.Srt.alike le z) = (x :: l).filter (PySem.W.Srt.alike le z)
  | [] => rfl
  | y :: ys => by
    unfold ins
    split
    · rfl
    · rename_i hxy
      rw [List.filter_cons, ins_kept trans total x z ys]
      have nb : PySem.W.Srt.alike le z y = true → PySem.W.Srt.alike le z x = true → False := fun hy hx => by
        unfold PySem.W.Srt.alike at hx hy
        rw [Bool.and_eq_true] at hx hy
        exact hxy (trans x z y hx.2 hy.1)
      simp only [List.filter_cons]
      cases hy : PySem.W.Srt.alike le z y <;> cases hx : PySem.W.Srt.alike le z x <;> first | rfl | exact (nb hy hx).elim
theorem isort_kept (trans : ∀ x y z, le x y = true → le y z = true → le x z = true) (total : ∀ x y, (le x y || le y x) = true) (z : α) : ∀ l : List α, (isort le l).filter (PySem.W.Srt.alike le z) = l.filter (PySem.W.Srt.alike le z)
  | [] => rfl
  | x :: xs => by
    show (ins le x (isort le xs)).filter _ = _
    rw [ins_kept trans total, List.filter_cons, List.filter_cons, isort_kept trans total z xs]
theorem isort_merge (trans : ∀ x y z, le x y = true → le y z = true → le x z = true) (total : ∀ x y, (le x y || le y x) = true) (l : List α) : l.mergeSort le = isort le l :=
  (PySem.W.Srt.the le trans total (isort_sorted trans total l) fun z => isort_kept trans total z l).symm
theorem ins_congr {le' : α → α → Bool} (x : α) : ∀ l : List α, (∀ y ∈ l, le x y = le' x y) → ins le x l = ins le' x l
  | [], _ => rfl
  | y :: ys, h => by
    unfold ins
    rw [h y (by simp), ins_congr x ys fun z hz => h z (by simp [hz])]
theorem isort_congr {le' : α → α → Bool} : ∀ l : List α, (∀ x ∈ l, ∀ y ∈ l, le x y = le' x y) → isort le l = isort le' l
  | [], _ => rfl
  | x :: xs, h => by
    show ins le x (isort le xs) = ins le' x (isort le' xs)
    rw [isort_congr xs fun a ha b hb => h a (by simp [ha]) b (by simp [hb])]
    exact ins_congr x _ fun y hy => h x (by simp) y (by simp [(isort_perm le' xs).mem_iff.mp hy])
theorem isort_map {β : Type} {leb : β → β → Bool} (f : β → α) (h : ∀ x y, le (f x) (f y) = leb x y) : ∀ l : List β, isort le (l.map f) = (isort leb l).map f
  | [] => rfl
  | x :: xs => by
    have im : ∀ (x : β) (l : List β), ins le (f x) (l.map f) = (ins leb x l).map f := by
      intro x l
      induction l with
      | nil => rfl
      | cons y ys ih =>
        simp only [List.map_cons, ins, h]
        split
        · rfl
        · simp [ih]
    show ins le (f x) (isort le (xs.map f)) = (ins leb x (isort leb xs)).map f
    rw [isort_map f h xs, im]
end

/-! ### the order of data -/
mutual
def ltD : D → D → Bool
  | .int a, .int b => decide (a < b)
  | .bl a, .bl b => decide (b2i a < b2i b)
  | .tup l, .tup m => ltDs l m
  | .lst l, .lst m => ltDs l m
  | _, _ => false
def ltDs : List D → List D → Bool
  | [], [] => false
  | [], _ :: _ => true
  | _ :: _, [] => false
  | a :: as, b :: bs => if eqD a b = true then ltDs as bs else ltD a b
end
mutual
def likeD : D → D → Bool
  | .int _, .int _ => true
  | .bl _, .bl _ => true
  | .tup l, .tup m => likeDs l m
  | .lst l, .lst m => likeDs l m
  | _, _ => false
def likeDs : List D → List D → Bool
  | a :: as, b :: bs => likeD a b && likeDs as bs
  | _, _ => true
end
mutual
theorem likeD_py : ∀ a b : D, likeD a b = true → PySem.W.alike a.py b.py = true
  | .int _, .int _, _ => by simp [D.py, PySem.W.alike]
  | .bl _, .bl _, _ => by simp [D.py, PySem.W.alike]
  | .tup l, .tup m, h => by
    simp only [D.py, PySem.W.alike]
    exact likeDs_py l m (by simpa [likeD] using h)
  | .lst l, .lst m, h => by
    simp only [D.py, PySem.W.alike]
    exact likeDs_py l m (by simpa [likeD] using h)
  | .non, b, h => by cases b <;> simp [likeD] at h
  | .str _, b, h => by cases b <;> simp [likeD] at h
  | .obj _ _, b, h => by cases b <;> simp [likeD] at h
  | .int _, .non, h => by simp [likeD] at h
  | .int _, .bl _, h => by simp [likeD] at h
  | .int _, .str _, h => by simp [likeD] at h
  | .int _, .tup _, h => by simp [likeD] at h
  | .int _, .lst _, h => by simp [likeD] at h
  | .int _, .obj _ _, h => by simp [likeD] at h
  | .bl _, .non, h => by simp [likeD] at h
  | .bl _, .int _, h => by simp [likeD] at h
  | .bl _, .str _, h => by simp [likeD] at h
  | .bl _, .tup _, h => by simp [likeD] at h
  | .bl _, .lst _, h => by simp [likeD] at h
  | .bl _, .obj _ _, h => by simp [likeD] at h
  | .tup _, .non, h => by simp [likeD] at h
  | .tup _, .int _, h => by simp [likeD] at h
  | .tup _, .str _, h => by simp [likeD] at h
  | .tup _, .bl _, h => by simp [likeD] at h
  | .tup _, .lst _, h => by simp [likeD] at h
  | .tup _, .obj _ _, h => by simp [likeD] at h
  | .lst _, .non, h => by simp [likeD] at h
  | .lst _, .int _, h => by simp [likeD] at h
  | .lst _, .str _, h => by simp [likeD] at h
  | .lst _, .bl _, h => by simp [likeD] at h
  | .lst _, .tup _, h => by simp [likeD] at h
  | .lst _, .obj _ _, h => by simp [likeD] at h
theorem likeDs_py : ∀ a b : List D, likeDs a b = true → PySem.W.alikeAll (D.pys a) (D.pys b) = true
  | [], [], _ => by simp [D.pys, PySem.W.alikeAll]
  | [], _ :: _, _ => by simp [D.pys, PySem.W.alikeAll]
  | _ :: _, [], _ => by simp [D.pys, PySem.W.alikeAll]
  | a :: as, b :: bs, h => by
    have h' : likeD a b = true ∧ likeDs as bs = true := by simpa [likeDs] using h
    simp only [D.pys, PySem.W.alikeAll, Bool.and_eq_true]
    exact ⟨likeD_py a b h'.1, likeDs_py as bs h'.2⟩
end
theorem pys_nil : PySem.W.rowLt [] [] = false := by simpa using PySem.W.dataLt_ints [] []
mutual
theorem ltD_py : ∀ a b : D, likeD a b = true → noObj a = true → noObj b = true → PySem.W.dataLt a.py b.py = ltD a b
  | .int a, .int b, _, _, _ => by simp only [D.py, ltD]; exact PySem.W.dataLt_int a b
  | .bl a, .bl b, _, _, _ => by simp only [D.py, ltD]; exact PySem.W.dataLt_bool a b
  | .tup l, .tup m, h, ha, hb => by
    simp only [D.py, ltD]
    rw [PySem.W.dataLt_tuple]
    exact ltDs_py l m (by simpa [likeD] using h) (by simpa [noObj] using ha) (by simpa [noObj] using hb)
  | .lst l, .lst m, h, ha, hb => by
    simp only [D.py, ltD]
    rw [PySem.W.dataLt_list]
    exact ltDs_py l m (by simpa [likeD] using h) (by simpa [noObj] using ha) (by simpa [noObj] using hb)
  | .non, b, h, _, _ => by cases b <;> simp [likeD] at h
  | .str _, b, h, _, _ => by cases b <;> simp [likeD] at h
  | .obj _ _, b, h, _, _ => by cases b <;> simp [likeD] at h
  | .int _, .non, h, _, _ => by simp [likeD] at h
  | .int _, .bl _, h, _, _ => by simp [likeD] at h
  | .int _, .str _, h, _, _ => by simp [likeD] at h
  | .int _, .tup _, h, _, _ => by simp [likeD] at h
  | .int _, .lst _, h, _, _ => by simp [likeD] at h
  | .int _, .obj _ _, h, _, _ => by simp [likeD] at h
  | .bl _, .non, h, _, _ => by simp [likeD] at h
  | .bl _, .int _, h, _, _ => by simp [likeD] at h
  | .bl _, .str _, h, _, _ => by simp [likeD] at h
  | .bl _, .tup _, h, _, _ => by simp [likeD] at h
  | .bl _, .lst _, h, _, _ => by simp [likeD] at h
  | .bl _, .obj _ _, h, _, _ => by simp [likeD] at h
  | .tup _, .non, h, _, _ => by simp [likeD] at h
  | .tup _, .int _, h, _, _ => by simp [likeD] at h
  | .tup _, .str _, h, _, _ => by simp [likeD] at h
  | .tup _, .bl _, h, _, _ => by simp [likeD] at h
  | .tup _, .lst _, h, _, _ => by simp [likeD] at h
  | .tup _, .obj _ _, h, _, _ => by simp [likeD] at h
  | .lst _, .non, h, _, _ => by simp [likeD] at h
  | .lst _, .int _, h, _, _ => by simp [likeD] at h
  | .lst _, .str _, h, _, _ => by simp [likeD] at h
  | .lst _, .bl _, h, _, _ => by simp [likeD] at h
  | .lst _, .tup _, h, _, _ => by simp [likeD] at h
  | .lst _, .obj _ _, h, _, _ => by simp [likeD] at h
theorem ltDs_py : ∀ a b : List D, likeDs a b = true → noObjs a = true → noObjs b = true → PySem.W.rowLt (D.pys a) (D.pys b) = ltDs a b
  | [], [], _, _, _ => by simp only [D.pys, ltDs]; exact pys_nil
  | [], b :: bs, _, _, _ => by
    simp only [D.pys, ltDs]
    unfold PySem.W.rowLt
    rw [PySem.W.toks_all_cons]
    simp only [PySem.W.keyToksAll]
    rw [lex_diff (O := itemOrd) (by simp)]
    rfl
  | a :: as, [], _, _, _ => by
    simp only [D.pys, ltDs]
    unfold PySem.W.rowLt
    rw [PySem.W.toks_all_cons]
    simp only [PySem.W.keyToksAll]
    rw [lex_diff (O := itemOrd) (by simp)]
    rfl
  | a :: as, b :: bs, h, ha, hb => by
    have h' : likeD a b = true ∧ likeDs as bs = true := by simpa [likeDs] using h
    have ha' : noObj a = true ∧ noObjs as = true := by simpa [noObjs] using ha
    have hb' : noObj b = true ∧ noObjs bs = true := by simpa [noObjs] using hb
    simp only [D.pys, ltDs]
    have e := PySem.W.dataLt_cons (likeD_py a b h'.1) (D.pys as) (D.pys bs)
    unfold PySem.W.rowLt
    rw [e, eqD_py a b ha'.1 hb'.1]
    split
    · exact ltDs_py as bs h'.2 ha'.2 hb'.2
    · exact ltD_py a b h'.1 ha'.1 hb'.1
end
end Fl
end

section
set_option Elab.async false
set_option linter.all false
set_option autoImplicit false
set_option maxRecDepth 100000
set_option maxHeartbeats 2000000
namespace Fl
open PySem PySem.Spec PyProof.Rows L2

/-! ### sorted(xs) of a list or tuple of alike data -/
section
variable {prog : Program} {w : World} {A : Around} {E : Value → Shared → Prop} {s : Shared}
theorem collect_tup {l : Addr} {vs : List Value} {Q : List Value → Shared → Prop} (hl : IsTup s.heap l vs.toArray)
    (h : Q vs { s with heap := (s.heap.push (seqObj "list" #[] 0)).update s.heap.objs.size (Obj.mapSeq (· ++ vs.toArray)) }) (hsz : vs.length ≤ sizeLine) :
    wpAny (model prog w) A (collect (.ref l)) Q E s := by
  obtain ⟨o, ho, hc, n, hd⟩ := id hl
  unfold collect
  refine wpAny_bind (wpAny_runValue (codeAny_builtin entry_proto_collect' ?_))
  show wpAny _ _ (do again (.builtin "list.__iadd__" ⟨[← newList [], .ref l], []⟩)) _ _ s
  refine wpAny_bind (wpAny_newList (wpAny_pure ⟨Code.quiet_builtin _ (by decide +kernel), codeAny_builtin entry_list_iadd' ?_⟩))
  show wpAny _ _ (Builtin.List.listExtendWith (.ref s.heap.objs.size) (.ref l) (.ref s.heap.objs.size)) _ _ { s with heap := s.heap.push (seqObj "list" #[] 0) }
  unfold Builtin.List.listExtendWith
  have ho' : (s.heap.push (seqObj "list" #[] 0)).get? l = some o := Heap.get?_push_of_some _ ho
  refine wpAny_bind (wpAny_typeOf (T := "tuple") ⟨o, ho', hc⟩ ?_)
  have ht : (Value.type "tuple" == Value.type "tuple") = true := by rfl
  rw [if_pos (by rw [ht]; simp)]
  refine wpAny_bind (listItems_at ho' hd ?_)
  refine wpAny_bind (listItems_at (xs := #[]) (n := 0) (Heap.get?_push_size _ rfl) rfl ?_)
  rw [if_neg (by simp)]
  refine wpAny_bind (listUpdate_at (xs := #[]) (n := 0) (Heap.get?_push_size _ rfl) rfl ?_ (Nat.zero_le _) (by show (#[] ++ vs.toArray).size ≤ sizeLine + 1; simp only [Array.size_append, List.size_toArray, List.length_nil]; omega))
  refine wpAny_pure ?_
  show wpAny (model prog w) A (do
      let o ← load s.heap.objs.size
      match o.data with
      | .seq xs _ => pure xs.toList
      | _ => unsupported "internal:collect") Q E { s with heap := (s.heap.push (seqObj "list" #[] 0)).update s.heap.objs.size (Obj.mapSeq (· ++ vs.toArray)) }
  refine wpAny_bind (wpAny_load (get?_update_seq (Heap.get?_push_size _ rfl) _) ?_)
  show wpAny _ _ (pure ((#[] : Array Value) ++ vs.toArray).toList) Q E _
  rw [show ((#[] : Array Value) ++ vs.toArray).toList = vs by simp]
  exact wpAny_pure h
/-- list or tuple -/
def SeqAtA (h : Heap) (l : Addr) (vs : List Value) : Prop := h.IsList l vs.toArray ∨ IsTup h l vs.toArray
theorem collect_seq {l : Addr} {vs : List Value} {Q : List Value → Shared → Prop} (hl : SeqAtA s.heap l vs)
    (h : Q vs { s with heap := (s.heap.push (seqObj "list" #[] 0)).update s.heap.objs.size (Obj.mapSeq (· ++ vs.toArray)) }) (hsz : vs.length ≤ sizeLine) :
    wpAny (model prog w) A (collect (.ref l)) Q E s := by
  rcases hl with hl | hl
  · exact collect_list hl h hsz
  · exact collect_tup hl h hsz
theorem sorted_of_seq {l : Addr} {vs : List Value} {Q : Value → Shared → Prop} (hl : SeqAtA s.heap l vs) (hL : vs.length ≤ sizeLine)
    (body : ∀ E' : Value → Shared → Prop, wpAny (model prog w) A.in1.in1 (Builtin.«list.sort» ⟨[.ref (s.heap.objs.size + 1)], []⟩) (fun f s' => f = .done (.ret .none) ∧ Q (.ref (s.heap.objs.size + 1)) s') E' { s with heap := PySem.W.copyHeap s.heap vs }) :
    wpAny (model prog w) A (call (.builtin "sorted") [.ref l] []) Q E s := by
  refine PyProof.Rows.call_function_entry_kw kind_sorted plain_sorted entry_sorted (args_sorted1 _) ?_
  unfold Builtin.«sorted»
  refine wpAny_bind (m := checkCount "sorted" 1 1 _) (wpAny_pure ?_)
  refine wpAny_bind (collect_seq hl ?_ hL)
  refine wpAny_bind (wpAny_newList ?_ hL)
  have hsz : ((s.heap.push (seqObj "list" #[] 0)).update s.heap.objs.size (Obj.mapSeq (· ++ vs.toArray))).objs.size = s.heap.objs.size + 1 := by
    rw [Heap.size_update, size_push']
  show wpAny _ _ _ _ _ { s with heap := PySem.W.copyHeap s.heap vs }
  rw [hsz]
  refine wpAny_bind (wpAny_holding (PyProof.Rows.wpAny_call_entry_kw slot_list_sort ⟨_, PySem.W.copyHeap_at s.heap vs, rfl⟩ entry_list_sort ?body (args_list_sort _)))
  case body =>
    show wpAny (model prog w) A.in1.in1 (Builtin.«list.sort» ⟨[.ref (s.heap.objs.size + 1)], []⟩) _ _ _
    refine wpAny_mono (body _) (fun f s' hf => ?_) fun _ _ e => e
    obtain ⟨rfl, hq⟩ := hf
    exact ⟨_, rfl, wpAny_pure ⟨_, rfl, hq⟩⟩
end

def leP (a b : D) : Bool := PySem.W.dataLe false D.py a b
theorem leP_trans (x y z : D) : leP x y = true → leP y z = true → leP x z = true := (PySem.W.sortLe_total (listOrd itemOrd) false fun b : D => PySem.W.keyToks b.py).trans x y z
theorem leP_total (x y : D) : (leP x y || leP y x) = true := by
  rw [Bool.or_eq_true]
  exact (PySem.W.sortLe_total (listOrd itemOrd) false fun b : D => PySem.W.keyToks b.py).total x y
def leD (a b : D) : Bool := !ltD b a
theorem leP_leD {a b : D} (h : likeD b a = true) (ha : noObj a = true) (hb : noObj b = true) : leP a b = leD a b := by
  unfold leP leD
  rw [PySem.W.dataLe_eq]
  show (!PySem.W.dataLt b.py a.py) = _
  rw [ltD_py b a h hb ha]
/-- all alike, all tuples with an item at least or none of them a tuple or None -/
def likeAll (l : List D) : Bool := l.all fun a => l.all fun b => likeD a b
def tup1 : D → Bool
  | .tup (_ :: _) => true
  | _ => false
def noTup : D → Bool
  | .tup _ => false
  | .non => false
  | _ => true
def canSort (l : List D) : Bool := fits 7 l && likeAll l && (l.all tup1 || l.all noTup) && decide (l.length ≤ many)
@[simp] def dSort : D → Option (List D)
  | .lst l => if canSort l then some (isort leD l) else none
  | .tup l => if canSort l then some (isort leD l) else none
  | _ => none
@[simp] def d1 {α : Type} (g : D → Option α) : List D → Option α
  | [d] => g d
  | _ => none
@[simp] def d2 {α : Type} (g : D → D → Option α) : List D → Option α
  | [d, e] => g d e
  | _ => none
theorem d1_inv {α : Type} {g : D → Option α} {ds : List D} {z : α} (h : d1 g ds = some z) : ∃ d, ds = [d] ∧ g d = some z := by
  match ds, h with
  | [d], h => exact ⟨d, rfl, h⟩
theorem d2_inv {α : Type} {g : D → D → Option α} {ds : List D} {z : α} (h : d2 g ds = some z) : ∃ d e, ds = [d, e] ∧ g d e = some z := by
  match ds, h with
  | [d, e], h => exact ⟨d, e, rfl, h⟩
theorem Reps.one {T : Tab} {G : Hp} {d : D} {vs : List V} (r : Reps T G [d] vs) : ∃ v, vs = [v] ∧ Rep T G d v := by
  cases r with
  | cons h t => cases t; exact ⟨_, rfl, h⟩
theorem Reps.two {T : Tab} {G : Hp} {d e : D} {vs : List V} (r : Reps T G [d, e] vs) : ∃ v u, vs = [v, u] ∧ Rep T G d v ∧ Rep T G e u := by
  cases r with
  | cons h t => obtain ⟨u, rfl, q⟩ := t.one; exact ⟨_, u, rfl, h, q⟩
section
variable {X : Cx} {T : Tab}
def rSortX (T : Tab) : List V → Hp → VK → Prop := fun vs H Q => ∃ (G : Hp) (d : D) (v : V) (l : List D), vs = [v] ∧ Ex G H ∧ Rep T G d v ∧ (d = .lst l ∨ d = .tup l) ∧ canSort l = true ∧ ∀ p xs, H p = none → Reps T G (isort leD l) xs → Q (.ref p) (upd H p (.lst xs))
theorem each_of {σ : L2.St} {H G : Hp} {s : Shared} {pins : List (Addr × Obj)} (I : Inv X pins σ H s) (e : Ex G H) : ∀ {l : List D} {xs : List V} {its : List Value}, Reps T G l xs → Vals xs its → noObjs l = true →
    PySem.W.EachIs (fun v (b : D × V) => RelV b.2 v ∧ Rep T G b.1 b.2) its (l.zip xs) ∧ PySem.W.EachIs (fun v (b : D × V) => ∃ as, Reads s.heap v b.1.py as) its (l.zip xs)
  | _, _, _, .nil, .nil, _ => ⟨.nil, .nil⟩
  | _, _, _, .cons (d := d) (ds := ds) h r, .cons q t, n => by
    have n' : noObj d = true ∧ noObjs ds = true := by simpa [noObjs] using n
    obtain ⟨h1, h2⟩ := each_of I e r t n'.2
    obtain ⟨as, hr⟩ := Dp.reads I d.py _ _ (h.dp e n'.1) q
    exact ⟨.cons ⟨q, h⟩ h1, .cons ⟨as, hr⟩ h2⟩
theorem each_out {G : Hp} : ∀ {out : List Value} {bs : List (D × V)}, PySem.W.EachIs (fun v (b : D × V) => RelV b.2 v ∧ Rep T G b.1 b.2) out bs → Vals (bs.map (·.2)) out ∧ Reps T G (bs.map (·.1)) (bs.map (·.2))
  | _, _, .nil => ⟨.nil, .nil⟩
  | _, _, .cons h r => ⟨.cons h.1 (each_out r).1, .cons h.2 (each_out r).2⟩
theorem zip_fst {α β : Type} : ∀ {l : List α} {xs : List β}, l.length = xs.length → (l.zip xs).map (·.1) = l
  | [], [], _ => rfl
  | [], _ :: _, h => by simp at h
  | _ :: _, [], h => by simp at h
  | a :: l, x :: xs, h => by
    simp only [List.zip_cons_cons, List.map_cons]
    rw [zip_fst (by simpa using h)]
theorem fits_all {n : Nat} : ∀ {l : List D}, fits n l = true → ∀ d ∈ l, fit n d = true
  | [], _, d, hd => by cases hd
  | a :: l, h, d, hd => by
    have h' : fit n a = true ∧ fits n l = true := by simpa [fits] using h
    rcases List.mem_cons.mp hd with rfl | hd
    · exact h'.1
    · exact fits_all h'.2 d hd
theorem cr_sortX (hu : X.A.units + 64 < cLine) : CallR X (.builtin "sorted") (rSortX T) := by
  intro pins s σ H vs us Q I r h
  obtain ⟨G, d, v, l, rfl, e, hd, hl, hc, q⟩ := h
  obtain ⟨u, rfl, ru⟩ := vals1 r
  have hc' : ((fits 7 l = true ∧ likeAll l = true) ∧ (l.all tup1 || l.all noTup) = true) ∧ l.length ≤ many := by
    unfold canSort at hc
    rw [Bool.and_eq_true, Bool.and_eq_true, Bool.and_eq_true] at hc
    exact ⟨hc.1, of_decide_eq_true hc.2⟩
  obtain ⟨⟨⟨hf, hlk⟩, hts⟩, hlen⟩ := hc'
  obtain ⟨a, xs, its, ea, rv, hs, r1⟩ : ∃ a xs its, u = .ref a ∧ Vals xs its ∧ SeqAtA s.heap a its ∧ Reps T G l xs := by
    rcases hl with rfl | rfl
    · obtain ⟨a, xs, rfl, hx, r1⟩ := hd.sqL (K := X.K) e
      obtain ⟨its, rv, pl, _⟩ := I.list hx
      exact ⟨a, xs, its, ru, rv, .inl pl.isList, r1⟩
    · obtain ⟨a, xs, rfl, hx, r1⟩ := hd.sqT (K := X.K) e
      obtain ⟨its, rv, pl, _⟩ := I.tuple hx
      exact ⟨a, xs, its, ru, rv, .inr pl, r1⟩
  subst ea
  have hnl : noObjs l = true := fits_no 7 l hf
  obtain ⟨E1, E2⟩ := each_of I e r1 rv hnl
  have hlx : l.length = xs.length := r1.length
  have hli : its.length = l.length := by rw [hlx]; exact rv.length.symm
  have hL : its.length ≤ sizeLine := by rw [hli]; exact Nat.le_trans hlen many_le
  have hzm : ∀ b ∈ l.zip xs, b.1 ∈ l := fun b hb => (List.of_mem_zip hb).1
  have hal : PySem.W.AllAlike ((l.zip xs).map fun b => b.1.py) := by
    intro d1 h1 d2 h2
    obtain ⟨b1, hb1, rfl⟩ := List.mem_map.mp h1
    obtain ⟨b2, hb2, rfl⟩ := List.mem_map.mp h2
    exact likeD_py _ _ (List.all_eq_true.mp (List.all_eq_true.mp hlk b1.1 (hzm _ hb1)) b2.1 (hzm _ hb2))
  have hk : PySem.W.Sortable ((l.zip xs).map fun b => b.1.py) := by
    rw [Bool.or_eq_true] at hts
    rcases hts with ht | ht
    · refine .inl fun d hd => ?_
      obtain ⟨b, hb, rfl⟩ := List.mem_map.mp hd
      have := List.all_eq_true.mp ht b.1 (hzm _ hb)
      cases q1 : b.1 with
      | tup m =>
        cases m with
        | nil => rw [q1] at this; simp [tup1] at this
        | cons x m => exact ⟨x.py, D.pys m, by simp [D.py, D.pys]⟩
      | _ => rw [q1] at this; simp [tup1] at this
    · refine .inr fun d hd => ?_
      obtain ⟨b, hb, rfl⟩ := List.mem_map.mp hd
      have := List.all_eq_true.mp ht b.1 (hzm _ hb)
      cases q1 : b.1 <;> (rw [q1] at this; simp_all [noTup, D.py])
  have er' : PySem.W.EachIs (fun v (b : D × V) => ∃ as, Reads (PySem.W.sortingHeap (PySem.W.copyHeap s.heap its) (s.heap.objs.size + 1) its) v b.1.py as) its (l.zip xs) := E2.mono fun _ _ ⟨as, r⟩ => ⟨as, PyProof.Rows.Reads.keeps (fun _ _ => PySem.W.sorting_copy_old) r⟩
  refine sorted_of_seq hs hL fun E' => ?_
  refine PySem.W.list_sort_vals (s := { s with heap := PySem.W.copyHeap s.heap its }) (PySem.W.copyHeap_at s.heap its)
    (PySem.W.SortsAt.data (s := { s with heap := PySem.W.sortingHeap (PySem.W.copyHeap s.heap its) (s.heap.objs.size + 1) its })
      (PySem.W.each_map (R := fun v d => ∃ as, Reads (PySem.W.sortingHeap (PySem.W.copyHeap s.heap its) (s.heap.objs.size + 1) its) v d as) (fun b : D × V => b.1.py) er') hal hk
      (PySem.W.bound_map fun b hb => ?_)) hL ⟨rfl, ?_⟩
  · have q1 := (fit_ok 7 b.1 (fits_all hf _ (hzm _ hb))).2
    show X.A.units + 1 + 1 + b.1.py.depth < cLine
    omega
  · generalize hout : (PySem.W.sortVals _ false its its) = out
    have hE := PySem.W.sortVals_data false E1 er' hal
    rw [hout] at hE
    have em : (l.zip xs).mergeSort (PySem.W.dataLe false fun b : D × V => b.1.py) = isort (fun a b : D × V => leP a.1 b.1) (l.zip xs) :=
      isort_merge (fun x y z => leP_trans x.1 y.1 z.1) (fun x y => leP_total x.1 y.1) _
    rw [em] at hE
    obtain ⟨v1, v2⟩ := each_out hE
    have ef : (isort (fun a b : D × V => leP a.1 b.1) (l.zip xs)).map (·.1) = isort leD l := by
      rw [← isort_map (le := leP) (fun b : D × V => b.1) (fun x y => rfl), zip_fst hlx]
      exact isort_congr _ fun x hx y hy => leP_leD (List.all_eq_true.mp (List.all_eq_true.mp hlk y hy) x hx) (fit_no 7 _ (fits_all hf _ hx)) (fit_no 7 _ (fits_all hf _ hy))
    rw [ef] at v2
    generalize hz : (isort (fun a b : D × V => leP a.1 b.1) (l.zip xs)).map (·.2) = zs at v1 v2
    obtain ⟨ep, he'⟩ := PyProof.Rows.sortedAll_at s.heap its out.toArray
    have hzl : zs.length ≤ sizeLine := by
      rw [← v2.length, isort_length]
      exact Nat.le_trans hlen many_le
    refine ⟨.ref _, upd H (s.heap.objs.size + 1) (.lst zs), I.laid (t' := s.toks) (h' := PyProof.Rows.sortedAll s.heap its out.toArray) (fun _ _ => PyProof.Rows.sortedAll_old) (Nat.le_succ _) ⟨hzl, out, ep, v1, ?_⟩, rfl, q _ zs (I.hok.fresh (Nat.le_succ _)) v2⟩
    exact he'
theorem l_sort : LiftNO T (rSortX T) (d1 dSort) := by
  intro H G ds xs l e r h Q k
  obtain ⟨d, rfl, h⟩ := d1_inv h
  obtain ⟨v, rfl, hd⟩ := r.one
  · cases d with
    | lst m =>
      have h : dSort (.lst m) = some l := h
      simp only [dSort] at h
      split at h
      · rename_i hc
        cases h
        exact ⟨G, _, v, m, rfl, e, hd, .inl rfl, hc, k⟩
      · cases h
    | tup m =>
      have h : dSort (.tup m) = some l := h
      simp only [dSort] at h
      split at h
      · rename_i hc
        cases h
        exact ⟨G, _, v, m, rfl, e, hd, .inr rfl, hc, k⟩
      · cases h
    | _ => cases h
end

/-! ### other built-ins -/
/-- whole numbers alone -/
def asI : List D → Option (List Int)
  | [] => some []
  | .int i :: r => (asI r).map (i :: ·)
  | _ :: _ => none
@[simp] theorem asI_map (ns : List Int) : asI (ns.map D.int) = some ns := by
  induction ns with
  | nil => rfl
  | cons n ns ih => simp [asI, ih]
theorem asI_of : ∀ {l : List D} {ns : List Int}, asI l = some ns → l = ns.map D.int
  | [], ns, h => by simp [asI] at h; subst h; rfl
  | .int i :: r, ns, h => by
    simp only [asI] at h
    obtain ⟨m, e1, e2⟩ := Option.map_eq_some_iff.mp h
    rw [← e2, asI_of e1]; rfl
  | .non :: r, ns, h => by simp [asI] at h
  | .bl _ :: r, ns, h => by simp [asI] at h
  | .str _ :: r, ns, h => by simp [asI] at h
  | .tup _ :: r, ns, h => by simp [asI] at h
  | .lst _ :: r, ns, h => by simp [asI] at h
  | .obj _ _ :: r, ns, h => by simp [asI] at h
@[simp] def dLen : D → Option D
  | .tup l => some (.int l.length)
  | .lst l => some (.int l.length)
  | _ => none
@[simp] def dAbs : D → Option D
  | .int i => some (.int (if i < 0 then -i else i))
  | _ => none
@[simp] def dIntOf : D → Option D
  | .int i => some (.int i)
  | _ => none
@[simp] def dMax2 : D → D → Option D
  | .int i, .int j => some (.int (if j > i then j else i))
  | _, _ => none
@[simp] def dMin2 : D → D → Option D
  | .int i, .int j => some (.int (if j < i then j else i))
  | _, _ => none
@[simp] def dSum : D → Option D
  | .tup l => (asI l).map fun ns => .int ns.sum
  | .lst l => (asI l).map fun ns => .int ns.sum
  | _ => none
def maxI : List Int → Int
  | [] => 0
  | x :: r => r.foldl (fun a b => if b > a then b else a) x
def minI : List Int → Int
  | [] => 0
  | x :: r => r.foldl (fun a b => if b < a then b else a) x
@[simp] def dMaxL : D → Option D
  | .lst l => (asI l).bind fun ns => if ns.length = 0 then none else some (.int (maxI ns))
  | _ => none
@[simp] def dMinL : D → Option D
  | .lst l => (asI l).bind fun ns => if ns.length = 0 then none else some (.int (minI ns))
  | _ => none
@[simp] def dItems : D → Option (List D)
  | .tup l => some l
  | .lst l => some l
  | _ => none
@[simp] def dTupOf : D → Option D
  | .tup l => some (.tup l)
  | .lst l => some (.tup l)
  | _ => none
@[simp] def dDivmod : D → D → Option D
  | .int i, .int j => if 0 < j ∧ j < 1073741824 then some (.tup [.int (i / j), .int (i % j)]) else none
  | _, _ => none
theorem foldl_max : ∀ (r : List Int) (x : Int), (r.foldl (fun a b => if b > a then b else a) x = x ∨ r.foldl (fun a b => if b > a then b else a) x ∈ r) ∧ x ≤ r.foldl (fun a b => if b > a then b else a) x ∧ ∀ y ∈ r, y ≤ r.foldl (fun a b => if b > a then b else a) x
  | [], x => ⟨.inl rfl, Int.le_refl _, fun y h => by cases h⟩
  | b :: r, x => by
    obtain ⟨h1, h2, h3⟩ := foldl_max r (if b > x then b else x)
    simp only [List.foldl_cons]
    refine ⟨?_, ?_, fun y hy => ?_⟩
    · rcases h1 with h | h
      · by_cases hb : b > x
        · rw [if_pos hb] at h ⊢; exact .inr (by rw [h]; simp)
        · rw [if_neg hb] at h ⊢; exact .inl h
      · exact .inr (List.mem_cons_of_mem _ h)
    · refine Int.le_trans ?_ h2; split <;> omega
    · rcases List.mem_cons.mp hy with rfl | hy
      · refine Int.le_trans ?_ h2; split <;> omega
      · exact h3 y hy
theorem maxI_spec {ns : List Int} (h : 0 < ns.length) : maxI ns ∈ ns ∧ ∀ y ∈ ns, y ≤ maxI ns := by
  cases ns with
  | nil => simp at h
  | cons x r =>
    obtain ⟨h1, h2, h3⟩ := foldl_max r x
    refine ⟨?_, fun y hy => ?_⟩
    · show r.foldl _ x ∈ _
      rcases h1 with q | q
      · rw [q]; simp
      · exact List.mem_cons_of_mem _ q
    · rcases List.mem_cons.mp hy with rfl | hy
      · exact h2
      · exact h3 y hy
theorem foldl_min : ∀ (r : List Int) (x : Int), (r.foldl (fun a b => if b < a then b else a) x = x ∨ r.foldl (fun a b => if b < a then b else a) x ∈ r) ∧ r.foldl (fun a b => if b < a then b else a) x ≤ x ∧ ∀ y ∈ r, r.foldl (fun a b => if b < a then b else a) x ≤ y
  | [], x => ⟨.inl rfl, Int.le_refl _, fun y h => by cases h⟩
  | b :: r, x => by
    obtain ⟨h1, h2, h3⟩ := foldl_min r (if b < x then b else x)
    simp only [List.foldl_cons]
    refine ⟨?_, ?_, fun y hy => ?_⟩
    · rcases h1 with h | h
      · by_cases hb : b < x
        · rw [if_pos hb] at h ⊢; exact .inr (by rw [h]; simp)
        · rw [if_neg hb] at h ⊢; exact .inl h
      · exact .inr (List.mem_cons_of_mem _ h)
    · refine Int.le_trans h2 ?_; split <;> omega
    · rcases List.mem_cons.mp hy with rfl | hy
      · refine Int.le_trans h2 ?_; split <;> omega
      · exact h3 y hy
theorem minI_spec {ns : List Int} (h : 0 < ns.length) : minI ns ∈ ns ∧ ∀ y ∈ ns, minI ns ≤ y := by
  cases ns with
  | nil => simp at h
  | cons x r =>
    obtain ⟨h1, h2, h3⟩ := foldl_min r x
    refine ⟨?_, fun y hy => ?_⟩
    · show r.foldl _ x ∈ _
      rcases h1 with q | q
      · rw [q]; simp
      · exact List.mem_cons_of_mem _ q
    · rcases List.mem_cons.mp hy with rfl | hy
      · exact h2
      · exact h3 y hy
section
variable {T : Tab} {K : PySem.W.Frag}
theorem l_len : LiftN T (fun xs H Q => ∃ p ys, xs = [V.ref p] ∧ (SqL K H p ys ∨ SqT K H p ys) ∧ Q (.int ys.length) H) (d1 dLen) := by
  intro H G ds xs dz e r h Q k
  obtain ⟨d, rfl, h⟩ := d1_inv h
  obtain ⟨v, rfl, hd⟩ := r.one
  · cases d with
    | lst m => cases h; obtain ⟨a, ys, rfl, hx, r1⟩ := hd.sqL (K := K) e; exact ⟨a, ys, rfl, .inl hx, by rw [← r1.length]; exact k _ H G (stp0 e) (.int _)⟩
    | tup m => cases h; obtain ⟨a, ys, rfl, hx, r1⟩ := hd.sqT (K := K) e; exact ⟨a, ys, rfl, .inr hx, by rw [← r1.length]; exact k _ H G (stp0 e) (.int _)⟩
    | _ => cases h
theorem l_abs : LiftN T (fun xs H Q => ∃ i, xs = [V.int i] ∧ Q (.int (if i < 0 then -i else i)) H) (d1 dAbs) := by
  intro H G ds xs dz e r h Q k
  obtain ⟨d, rfl, h⟩ := d1_inv h
  obtain ⟨v, rfl, q1⟩ := r.one
  cases q1 with
  | int i => cases h; exact ⟨i, rfl, k _ H G (stp0 e) (.int _)⟩
  | _ => cases h
theorem l_int1 : LiftN T (fun xs H Q => (∃ i, xs = [V.int i] ∧ Q (.int i) H) ∨ ∃ k, xs = [V.bl k] ∧ Q (.int (if k then 1 else 0)) H) (d1 dIntOf) := by
  intro H G ds xs dz e r h Q k
  obtain ⟨d, rfl, h⟩ := d1_inv h
  obtain ⟨v, rfl, q1⟩ := r.one
  cases q1 with
  | int i => cases h; exact .inl ⟨i, rfl, k _ H G (stp0 e) (.int _)⟩
  | _ => cases h
theorem l_max2 : LiftN T (fun xs H Q => ∃ i j, xs = [V.int i, V.int j] ∧ Q (.int (if j > i then j else i)) H) (d2 dMax2) := by
  intro H G ds xs dz e r h Q k
  obtain ⟨d, d', rfl, h⟩ := d2_inv h
  obtain ⟨v, u, rfl, q1, q2⟩ := r.two
  cases q1 with
  | int i =>
    cases q2 with
    | int j => cases h; exact ⟨i, j, rfl, k _ H G (stp0 e) (.int _)⟩
    | _ => cases h
  | _ => cases h
theorem l_min2 : LiftN T (fun xs H Q => ∃ i j, xs = [V.int i, V.int j] ∧ Q (.int (if j < i then j else i)) H) (d2 dMin2) := by
  intro H G ds xs dz e r h Q k
  obtain ⟨d, d', rfl, h⟩ := d2_inv h
  obtain ⟨v, u, rfl, q1, q2⟩ := r.two
  cases q1 with
  | int i =>
    cases q2 with
    | int j => cases h; exact ⟨i, j, rfl, k _ H G (stp0 e) (.int _)⟩
    | _ => cases h
  | _ => cases h
theorem l_divmod : LiftN T (fun xs H Q => ∃ i j, xs = [V.int i, V.int j] ∧ CDiv i j ∧ ∀ p, H p = none → Q (.ref p) (upd H p (.tup [.int (i / j), .int (i % j)]))) (d2 dDivmod) := by
  intro H G ds xs dz e r h Q k
  obtain ⟨d, d', rfl, h⟩ := d2_inv h
  obtain ⟨v, u, rfl, q1, q2⟩ := r.two
  cases q1 with
  | int i =>
    cases q2 with
    | int j =>
      have h : dDivmod (.int i) (.int j) = some dz := h
      simp only [dDivmod] at h
      split at h
      · rename_i hc
        cases h
        exact ⟨i, j, rfl, hc, fun p hp => k _ _ _ (Stp.new e hp) (.tup upd_same (.cons (.int _) (.cons (.int _) .nil)))⟩
      · cases h
    | _ => cases h
  | _ => cases h
def rSumT (K : PySem.W.Frag) : List V → Hp → VK → Prop := fun vs H Q => ∃ (a : Addr) (ns : List Int), vs = [V.ref a] ∧ SqT K H a (ns.map V.int) ∧ Q (.int ns.sum) H
theorem l_sum : LiftN T (fun vs H Q => rSum K vs H Q ∨ rSumT K vs H Q) (d1 dSum) := by
  intro H G ds xs dz e r h Q k
  obtain ⟨d, rfl, h⟩ := d1_inv h
  obtain ⟨v, rfl, hd⟩ := r.one
  · cases d with
    | lst m =>
      obtain ⟨ns, e1, e2⟩ := Option.map_eq_some_iff.mp (show (asI m).map _ = _ from h)
      subst e2
      have em := asI_of e1
      subst em
      obtain ⟨a, ys, rfl, hx, r1⟩ := hd.sqL (K := K) e
      rw [r1.ints] at hx
      exact .inl ⟨a, ns, rfl, hx, k _ H G (stp0 e) (.int _)⟩
    | tup m =>
      obtain ⟨ns, e1, e2⟩ := Option.map_eq_some_iff.mp (show (asI m).map _ = _ from h)
      subst e2
      have em := asI_of e1
      subst em
      obtain ⟨a, ys, rfl, hx, r1⟩ := hd.sqT (K := K) e
      rw [r1.ints] at hx
      exact .inr ⟨a, ns, rfl, hx, k _ H G (stp0 e) (.int _)⟩
    | _ => cases h
theorem max_uniq {ns : List Int} {m m' : Int} (h : m ∈ ns) (h1 : ∀ y ∈ ns, y ≤ m) (h' : m' ∈ ns) (h1' : ∀ y ∈ ns, y ≤ m') : m = m' := Int.le_antisymm (h1' m h) (h1 m' h')
theorem min_uniq {ns : List Int} {m m' : Int} (h : m ∈ ns) (h1 : ∀ y ∈ ns, m ≤ y) (h' : m' ∈ ns) (h1' : ∀ y ∈ ns, m' ≤ y) : m = m' := Int.le_antisymm (h1 m' h') (h1' m h)
theorem l_maxL : LiftN T (rMax K) (d1 dMaxL) := by
  intro H G ds xs dz e r h Q k
  obtain ⟨d, rfl, h⟩ := d1_inv h
  obtain ⟨v, rfl, hd⟩ := r.one
  · cases d with
    | lst m =>
      obtain ⟨ns, e1, e2⟩ := Option.bind_eq_some_iff.mp (show (asI m).bind _ = _ from h)
      split at e2
      · cases e2
      · rename_i hn
        cases e2
        have em := asI_of e1
        subst em
        obtain ⟨a, ys, rfl, hx, r1⟩ := hd.sqL (K := K) e
        rw [r1.ints] at hx
        have hp : 0 < ns.length := by omega
        refine ⟨a, ns, rfl, hx, hp, fun m h1 h2 => ?_⟩
        rw [max_uniq h1 h2 (maxI_spec hp).1 (maxI_spec hp).2]
        exact k _ H G (stp0 e) (.int _)
    | _ => cases h
theorem l_minL : LiftN T (rMin K) (d1 dMinL) := by
  intro H G ds xs dz e r h Q k
  obtain ⟨d, rfl, h⟩ := d1_inv h
  obtain ⟨v, rfl, hd⟩ := r.one
  · cases d with
    | lst m =>
      obtain ⟨ns, e1, e2⟩ := Option.bind_eq_some_iff.mp (show (asI m).bind _ = _ from h)
      split at e2
      · cases e2
      · rename_i hn
        cases e2
        have em := asI_of e1
        subst em
        obtain ⟨a, ys, rfl, hx, r1⟩ := hd.sqL (K := K) e
        rw [r1.ints] at hx
        have hp : 0 < ns.length := by omega
        refine ⟨a, ns, rfl, hx, hp, fun m h1 h2 => ?_⟩
        rw [min_uniq h1 h2 (minI_spec hp).1 (minI_spec hp).2]
        exact k _ H G (stp0 e) (.int _)
    | _ => cases h
theorem l_tuple : LiftN T (fun xs H Q => ∃ p ys, xs = [V.ref p] ∧ ((SqL K H p ys ∧ ∀ l, H l = none → Q (.ref l) (upd H l (.tup ys))) ∨ (SqT K H p ys ∧ Q (.ref p) H))) (d1 dTupOf) := by
  intro H G ds xs dz e r h Q k
  obtain ⟨d, rfl, h⟩ := d1_inv h
  obtain ⟨v, rfl, hd⟩ := r.one
  · cases d with
    | lst m => cases h; obtain ⟨a, ys, rfl, hx, r1⟩ := hd.sqL (K := K) e; exact ⟨a, ys, rfl, .inl ⟨hx, fun l hl => k _ _ _ (Stp.new e hl) (.tup upd_same (r1.mono (Ex.new (e.free hl))))⟩⟩
    | tup m => cases h; obtain ⟨a, ys, e1, hx, r1⟩ := hd.sqT (K := K) e; subst e1; exact ⟨a, ys, rfl, .inr ⟨hx, k _ H G (stp0 e) hd⟩⟩
    | _ => cases h
theorem l_list : LiftNO T (fun xs H Q => ∃ p ys, xs = [V.ref p] ∧ (SqL K H p ys ∨ SqT K H p ys) ∧ ∀ l, H l = none → Q (.ref l) (upd H l (.lst ys))) (d1 dItems) := by
  intro H G ds xs l e r h Q k
  obtain ⟨d, rfl, h⟩ := d1_inv h
  obtain ⟨v, rfl, hd⟩ := r.one
  · cases d with
    | lst m => cases h; obtain ⟨a, ys, rfl, hx, r1⟩ := hd.sqL (K := K) e; exact ⟨a, ys, rfl, .inl hx, fun p hp => k p ys hp r1⟩
    | tup m => cases h; obtain ⟨a, ys, rfl, hx, r1⟩ := hd.sqT (K := K) e; exact ⟨a, ys, rfl, .inr hx, fun p hp => k p ys hp r1⟩
    | _ => cases h
end
section
variable {X : Cx}
theorem cr_sumT (hc : X.calm = true) : CallR X (.builtin "sum") (rSumT X.K) := by
  intro pins s σ H vs us Q I r h
  obtain ⟨a, ns, rfl, hs, q⟩ := h
  obtain ⟨its, rv, hl, _⟩ := I.tuple hs
  rw [Vals.ref1 r]
  have hi := rv.ints
  obtain ⟨xs, hx⟩ := hi.allInts.items
  have hn : numsOf its.toArray.toList = ns := by rw [show its.toArray.toList = its from rfl, hi.numsOf]
  have hl' : s.heap.IsTuple a its.toArray := hl
  rw [hx] at hl' hn
  rw [nums_intItems] at hn
  refine PySem.W.ktm_sumG (I.ok.hd hc) hl' fun h' tk t' hk => ?_
  have e : preSum (numAt xs) xs.size = ns.sum := by rw [preSum_eq, List.take_of_length_le (by simp), hn]
  rw [e]
  exact ⟨.int _, H, I.kept hk, ⟨_, rfl⟩, q⟩
end

/-! ### calls of built-ins, by name -/
section
variable {X : Cx} {T : Tab} {pu pa pb : Bool} {a b : Expr} {es : List Expr} {fa fb : FE} {fs : FA} {p pos : Pos}
/-- a built-in's rule for data -/
structure Bl (X : Cx) (T : Tab) (f : Value) (g : List D → Option D) : Prop where
  ex : ∃ r, CallR X f r ∧ LiftN T r g
structure BlO (X : Cx) (T : Tab) (f : Value) (g : List D → Option (List D)) : Prop where
  ex : ∃ r, CallR X f r ∧ LiftNO T r g
theorem b_len : Bl X T (.builtin "len") (d1 dLen) := ⟨_, call_len_seq, l_len⟩
theorem b_abs : Bl X T (.builtin "abs") (d1 dAbs) := ⟨_, call_abs, l_abs⟩
theorem b_sum (hc : X.calm = true := by rfl) : Bl X T (.builtin "sum") (d1 dSum) := ⟨_, (cr_sum hc).or (cr_sumT hc), l_sum⟩
theorem b_max2 (hc : X.calm = true := by rfl) : Bl X T (.builtin "max") (d2 dMax2) := ⟨_, call_max2 hc, l_max2⟩
theorem b_min2 (hc : X.calm = true := by rfl) : Bl X T (.builtin "min") (d2 dMin2) := ⟨_, call_min2 hc, l_min2⟩
theorem b_maxL (hc : X.calm = true := by rfl) : Bl X T (.builtin "max") (d1 dMaxL) := ⟨_, cr_max hc, l_maxL⟩
theorem b_minL (hc : X.calm = true := by rfl) : Bl X T (.builtin "min") (d1 dMinL) := ⟨_, cr_min hc, l_minL⟩
theorem b_divmod : Bl X T (.builtin "divmod") (d2 dDivmod) := ⟨_, call_divmod, l_divmod⟩
theorem b_int : Bl X T (.type "int") (d1 dIntOf) := ⟨_, call_int1, l_int1⟩
theorem b_tuple : Bl X T (.type "tuple") (d1 dTupOf) := ⟨_, call_tuple_of, l_tuple⟩
theorem b_list : BlO X T (.type "list") (d1 dItems) := ⟨_, call_list_of, l_list⟩
theorem b_sorted {k : Nat} (hr : Room k X.A) : BlO X T (.builtin "sorted") (d1 dSort) := ⟨_, cr_sortX hr.units, l_sort⟩
theorem pef_bf {x : Str} {id : String} {g : List D → Option D} (h : Bl X T (.builtin id) g) (hm : X.mg x = none) (ha : PAf X T pa (a :: es) fs) (hg : Gl X x := by rfl) (hv : bootBuiltins x = some (.builtin id) := by decide +kernel) (hn : x ≠ "__name__" := by decide) (hdb : (x == ("__debug__" : Str)) = false := by decide)
    (he : starEach (a :: es) X.env = (false, eval a X.env) :: starEach es X.env := by rfl) (hpl : (backTo pos (starEach es X.env)).any (·.1) = false := by rfl) : PEf X T pa (.Call (.Name x p) (a :: es) [] pos) (fArgs g fs) :=
  let ⟨_, hc, l⟩ := h.ex
  pef_args (pe_callB hc hg hm hv ha.pa hn hdb he hpl) l ha.same
theorem pef_bt {x : Str} {id : String} {g : List D → Option D} (h : Bl X T (.type id) g) (hm : X.mg x = none) (ha : PAf X T pa (a :: es) fs) (hg : Gl X x := by rfl) (hv : bootBuiltins x = some (.type id) := by decide +kernel) (hn : x ≠ "__name__" := by decide) (hdb : (x == ("__debug__" : Str)) = false := by decide)
    (he : starEach (a :: es) X.env = (false, eval a X.env) :: starEach es X.env := by rfl) (hpl : (backTo pos (starEach es X.env)).any (·.1) = false := by rfl) : PEf X T pa (.Call (.Name x p) (a :: es) [] pos) (fArgs g fs) :=
  let ⟨_, hc, l⟩ := h.ex
  pef_args (pe_callTy hc hg hm hv ha.pa hn hdb he hpl) l ha.same
theorem peo_bf {x : Str} {id : String} {g : List D → Option (List D)} (h : BlO X T (.builtin id) g) (hm : X.mg x = none) (ha : PAf X T pa (a :: es) fs) (hg : Gl X x := by rfl) (hv : bootBuiltins x = some (.builtin id) := by decide +kernel) (hn : x ≠ "__name__" := by decide) (hdb : (x == ("__debug__" : Str)) = false := by decide)
    (he : starEach (a :: es) X.env = (false, eval a X.env) :: starEach es X.env := by rfl) (hpl : (backTo pos (starEach es X.env)).any (·.1) = false := by rfl) : PEo X T pa (.Call (.Name x p) (a :: es) [] pos) (fLst (fArgs g fs)) :=
  let ⟨_, hc, l⟩ := h.ex
  peo_args (pe_callB hc hg hm hv ha.pa hn hdb he hpl) l ha.same
theorem peo_bt {x : Str} {id : String} {g : List D → Option (List D)} (h : BlO X T (.type id) g) (hm : X.mg x = none) (ha : PAf X T pa (a :: es) fs) (hg : Gl X x := by rfl) (hv : bootBuiltins x = some (.type id) := by decide +kernel) (hn : x ≠ "__name__" := by decide) (hdb : (x == ("__debug__" : Str)) = false := by decide)
    (he : starEach (a :: es) X.env = (false, eval a X.env) :: starEach es X.env := by rfl) (hpl : (backTo pos (starEach es X.env)).any (·.1) = false := by rfl) : PEo X T pa (.Call (.Name x p) (a :: es) [] pos) (fLst (fArgs g fs)) :=
  let ⟨_, hc, l⟩ := h.ex
  peo_args (pe_callTy hc hg hm hv ha.pa hn hdb he hpl) l ha.same
end

/-! ### isinstance -/
@[simp] def D.ty : D → String
  | .non => "NoneType"
  | .bl _ => "bool"
  | .int _ => "int"
  | .str _ => "str"
  | .tup _ => "tuple"
  | .lst _ => "list"
  | .obj _ _ => ""
/-- a built-in type among those that are asked for -/
def isB (t n : String) : Bool := t == n || (t == "bool" && n == "int")
def okN (n : String) : Bool := n == "int" || n == "bool" || n == "tuple" || n == "list" || n == "str" || n == "dict"
@[simp] def dIsi (n : String) : D → Option D
  | .obj _ _ => none
  | d => if okN n then some (.bl (isB d.ty n)) else none
theorem kit_isB {t n : String} (hn : okN n = true) (ht : t = "NoneType" ∨ t = "bool" ∨ t = "int" ∨ t = "str" ∨ t = "tuple" ∨ t = "list") : kitB t n = some (isB t n) := by
  have hn' : n = "int" ∨ n = "bool" ∨ n = "tuple" ∨ n = "list" ∨ n = "str" ∨ n = "dict" := by
    unfold okN at hn
    simp only [Bool.or_eq_true, beq_iff_eq] at hn
    rcases hn with ((((h | h) | h) | h) | h) | h <;> simp [h]
  rcases ht with rfl | rfl | rfl | rfl | rfl | rfl <;> rcases hn' with rfl | rfl | rfl | rfl | rfl | rfl <;> decide +kernel
theorem ty_of {T : Tab} {K : PySem.W.Frag} {G H : Hp} {d : D} {v : V} (e : Ex G H) (r : Rep T G d v) (h : ∀ c l, d ≠ .obj c l) : TyX K H v (.type d.ty) ∧ (d.ty = "NoneType" ∨ d.ty = "bool" ∨ d.ty = "int" ∨ d.ty = "str" ∨ d.ty = "tuple" ∨ d.ty = "list") := by
  cases r with
  | non => exact ⟨.base .non, by simp [D.ty]⟩
  | bl b => exact ⟨.base (.bl b), by simp [D.ty]⟩
  | int i => exact ⟨.base (.int i), by simp [D.ty]⟩
  | str x => exact ⟨.base (.str x), by simp [D.ty]⟩
  | tup q _ => exact ⟨.base (.tup (e _ _ q)), by simp [D.ty]⟩
  | lst q _ =>
    refine ⟨?_, by simp [D.ty]⟩
    exact .base (.lst (e _ _ q))
  | obj _ _ _ _ => exact absurd rfl (h _ _)
section
variable {X : Cx} {T : Tab} {pa : Bool} {a b c : Expr} {fa : FE} {p pos : Pos} {n m : String}
theorem pef_isi (hm : X.mg "isinstance" = none) (ha : PEf X T pa a fa) (hb : PE X b (tC (.ty n))) (hg : Gl X "isinstance" := by rfl) (he : starEach [a, b] X.env = (false, eval a X.env) :: starEach [b] X.env := by rfl) (he2 : starEach [b] X.env = (false, eval b X.env) :: starEach [] X.env := by rfl)
    (hpl : (backTo pos (starEach [b] X.env)).any (·.1) = false := by rfl) : PEf X T pa (.Call (.Name "isinstance" p) [a, b] [] pos) (fUn (dIsi n) fa) where
  pe := (pe_callB (call_isi (X := X)) hg hm (by decide +kernel) (pa_cons ha.pe (pa_cons hb pa_nil he2) he) (by decide) (by decide) he hpl).imp fun σ H Q ⟨C, ρ, G, d, ρ', S, hh, k⟩ => by
    obtain ⟨⟨dx, ρ1⟩, e1, hh⟩ := Option.bind_eq_some_iff.mp hh
    obtain ⟨z', e3, hh⟩ := Option.map_eq_some_iff.mp hh
    cases hh
    refine ⟨C, ρ, G, dx, ρ1, S, e1, fun x H1 G1 n1 r1 => ?_⟩
    have no : ∀ c l, dx ≠ .obj c l := fun c l z => by subst z; cases e3
    have e3' : (if okN n then some (D.bl (isB dx.ty n)) else none) = some d := by
      cases dx with
      | obj c l => exact absurd rfl (no c l)
      | _ => exact e3
    split at e3'
    · rename_i hn
      cases e3'
      obtain ⟨ty, ht⟩ := ty_of (K := X.K) n1.st.gh r1 no
      exact ⟨x, .ty n, _, _, _, rfl, .ty n, ty, kit_ty (kit_isB hn ht), k _ H1 G1 n1 (.bl _)⟩
    · cases e3'
  same := fun hp ρ z ρ' hh => by
    obtain ⟨⟨dx, ρ1⟩, e1, hh⟩ := Option.bind_eq_some_iff.mp hh
    obtain ⟨z', e3, hh⟩ := Option.map_eq_some_iff.mp hh
    cases hh
    exact ha.same hp _ _ _ e1
@[simp] def dIsi2 (n m : String) : D → Option D
  | .obj _ _ => none
  | d => if okN n && okN m then some (.bl (isB d.ty n || isB d.ty m)) else none
/-- isinstance(x, (n, m)) -/
theorem pef_isi2 {k : Nat} {tp : Pos} (hm : X.mg "isinstance" = none) (ha : PEf X T pa a fa) (hb : PE X b (tC (.ty n))) (hc : PE X c (tC (.ty m))) (hg : Gl X "isinstance" := by rfl) (he : starEach [a, .Tuple [b, c] k tp] X.env = (false, eval a X.env) :: starEach [.Tuple [b, c] k tp] X.env := by rfl)
    (he2 : starEach [.Tuple [b, c] k tp] X.env = (false, eval (.Tuple [b, c] k tp) X.env) :: starEach [] X.env := by rfl) (he3 : starEach [b, c] X.env = (false, eval b X.env) :: starEach [c] X.env := by rfl) (he4 : starEach [c] X.env = (false, eval c X.env) :: starEach [] X.env := by rfl)
    (hpl : (backTo pos (starEach [.Tuple [b, c] k tp] X.env)).any (·.1) = false := by rfl) : PEf X T pa (.Call (.Name "isinstance" p) [a, .Tuple [b, c] k tp] [] pos) (fUn (dIsi2 n m) fa) where
  pe := (pe_callB (call_isiT (X := X)) hg hm (by decide +kernel) (pa_cons ha.pe (pa_cons (pe_tup (pa_cons hb (pa_cons hc pa_nil he4) he3)) pa_nil he2) he) (by decide) (by decide) he hpl).imp fun σ H Q ⟨C, ρ, G, d, ρ', S, hh, kk⟩ => by
    obtain ⟨⟨dx, ρ1⟩, e1, hh⟩ := Option.bind_eq_some_iff.mp hh
    obtain ⟨z', e3, hh⟩ := Option.map_eq_some_iff.mp hh
    cases hh
    refine ⟨C, ρ, G, dx, ρ1, S, e1, fun x H1 G1 n1 r1 => ?_⟩
    have no : ∀ c l, dx ≠ .obj c l := fun c l z => by subst z; cases e3
    have e3' : (if okN n && okN m then some (D.bl (isB dx.ty n || isB dx.ty m)) else none) = some d := by
      cases dx with
      | obj c l => exact absurd rfl (no c l)
      | _ => exact e3
    split at e3'
    · rename_i hn
      rw [Bool.and_eq_true] at hn
      cases e3'
      refine ⟨by show 2 ≤ sizeLine; decide, fun t ht => ?_⟩
      have st := Stp.new (o := .tup [.ty n, .ty m]) n1.st.gh ht
      obtain ⟨ty, hty⟩ := ty_of (K := X.K) st.gh (r1.mono st.gg) no
      refine ⟨x, t, [.ty n, .ty m], .type dx.ty, [.type n, .type m], _, rfl, upd_same, .cons (.ty n) (.cons (.ty m) .nil), ty, ?_, kk _ _ _ (n1.stp st) (.bl _)⟩
      have h1 := kit_ty (K := X.K) (kit_isB hn.1 hty)
      have h2 := kit_ty (K := X.K) (kit_isB hn.2 hty)
      refine kitAny_cons h1 (fun hf => kitAny_cons h2 (fun hf2 => ?_) fun ht2 => ?_) fun ht1 => ?_
      · rw [hf, hf2]; exact kitAny_nil
      · rw [ht2]; simp
      · rw [ht1]; rfl
    · cases e3'
  same := fun hp ρ z ρ' hh => by
    obtain ⟨⟨dx, ρ1⟩, e1, hh⟩ := Option.bind_eq_some_iff.mp hh
    obtain ⟨z', e3, hh⟩ := Option.map_eq_some_iff.mp hh
    cases hh
    exact ha.same hp _ _ _ e1
/-- a built-in type's name -/
theorem pe_tyN {x : Str} (hm : X.mg x = none) (hg : Gl X x := by rfl) (hv : bootBuiltins x = some (.type n) := by decide +kernel) (hn : x ≠ "__name__" := by decide) (hd : (x == ("__debug__" : Str)) = false := by decide) : PE X (.Name x pos) (tC (.ty n)) := pe_bltn hg hm hv rfl hn hd
end
end Fl
end

section
set_option Elab.async false
set_option linter.all false
set_option autoImplicit false
set_option maxRecDepth 100000
set_option maxHeartbeats 2000000
namespace Fl
open PySem PySem.Spec PyProof.Rows L2

/-! ### statements -/
inductive Out where
  | nx (ρ : Fenv)
  | rt (s : Slot) (ρ : Fenv)
  | bk (ρ : Fenv)
  | ct (ρ : Fenv)
abbrev FS := Fenv → Option Out
/-- what is wanted at an end -/
def Fin (T : Tab) (C : C0) (D : Ends) (G : Hp) : Out → Prop
  | .nx ρ => ∀ σ' H' G', Sta T C ρ σ' H' G' → Ex G G' → D.nx σ' H'
  | .bk ρ => ∀ σ' H' G', Sta T C ρ σ' H' G' → Ex G G' → D.bk σ' H'
  | .ct ρ => ∀ σ' H' G', Sta T C ρ σ' H' G' → Ex G G' → D.ct σ' H'
  | .rt (.sh d) ρ => ∀ v σ' H' G', Sta T C ρ σ' H' G' → Ex G G' → Rep T G' d v → D.rt v H'
  | .rt (.own _ o) ρ => ∀ v σ' H' G', Sta T C (ρ ++ [some (.own true o)]) (σ' ++ [some v]) H' G' → Ex G G' → D.rt v H'
def tS (T : Tab) (f : FS) : TS := fun D σ H => ∃ C ρ G out, Sta T C ρ σ H G ∧ f ρ = some out ∧ Fin T C D G out
theorem Fin.mono {T : Tab} {C : C0} {D : Ends} {G G' : Hp} {out : Out} (h : Fin T C D G out) (e : Ex G G') : Fin T C D G' out := by
  cases out with
  | nx ρ => exact fun σ' H' G2 S q => h σ' H' G2 S (e.trans q)
  | bk ρ => exact fun σ' H' G2 S q => h σ' H' G2 S (e.trans q)
  | ct ρ => exact fun σ' H' G2 S q => h σ' H' G2 S (e.trans q)
  | rt s ρ =>
    cases s with
    | sh d => exact fun v σ' H' G2 S q => h v σ' H' G2 S (e.trans q)
    | own g o => exact fun v σ' H' G2 S q => h v σ' H' G2 S (e.trans q)
structure PSf (X : Cx) (T : Tab) (st : Stmt) (f : FS) : Prop where
  ps : PS X st (tS T f)
structure PSsf (X : Cx) (T : Tab) (st : List Stmt) (f : FS) : Prop where
  ps : PSs X st (tS T f)

@[simp] def fSkip : FS := fun ρ => some (.nx ρ)
@[simp] def fSeq (f g : FS) : FS := fun ρ => (f ρ).bind fun o => match o with
  | .nx ρ' => g ρ'
  | o => some o
@[simp] def fStuck : FS := fun _ => none
@[simp] def fDrop {α : Type} (f : Fenv → Option (α × Fenv)) : FS := fun ρ => (f ρ).bind fun x => some (.nx x.2)
@[simp] def fSet (i : Nat) (f : FE) : FS := fun ρ => (f ρ).bind fun x => some (.nx (x.2.set i (some (.sh x.1))))
@[simp] def fSetO (i : Nat) (f : FO) : FS := fun ρ => (f ρ).bind fun x => some (.nx (x.2.set i (some (.own true x.1))))
@[simp] def fRet (f : FE) : FS := fun ρ => (f ρ).bind fun x => some (.rt (.sh x.1) x.2)
@[simp] def fRetO (f : FO) : FS := fun ρ => (f ρ).bind fun x => some (.rt (.own true x.1) x.2)
@[simp] def fRetN : FS := fun ρ => some (.rt (.sh .non) ρ)
@[simp] def fBrk : FS := fun ρ => some (.bk ρ)
@[simp] def fCnt : FS := fun ρ => some (.ct ρ)
@[simp] def fIfS (t : FT) (a b : FS) : FS := fun ρ => (t ρ).bind fun x => if x.1 then a x.2 else b x.2
/-- slot i is frozen for good -/
@[simp] def fFreeze (i : Nat) (f : FS) : FS := fun ρ => match ρ[i]? with
  | some (some (.own true o)) => if o.frz then f (ρ.set i (some (.sh o.toD))) else none
  | _ => none

section
variable {X : Cx} {T : Tab} {pu pa pb : Bool} {e a b c : Expr} {st : Stmt} {rest sa sb : List Stmt} {f fa fb fc : FE} {fo : FO} {ft : FT} {g h : FS} {pos pos' : Pos}
theorem pssf_nil : PSsf X T [] fSkip := ⟨pss_nil.imp fun D σ H ⟨C, ρ, G, out, S, h, k⟩ => by cases h; exact k σ H G S (Ex.refl G)⟩
theorem Fin.seq {C : C0} {D : Ends} {G : Hp} {ρ : Fenv} {o out : Out} {u : FS} (h : (match o with | .nx ρ' => u ρ' | o => some o) = some out) (k : Fin T C D G out) : Fin T C { D with nx := tS T u D } G o := by
  cases o with
  | nx ρ' => exact fun σ' H' G' S e => ⟨C, ρ', G', out, S, h, k.mono e⟩
  | bk ρ' => cases h; exact k
  | ct ρ' => cases h; exact k
  | rt s ρ' => cases h; cases s <;> exact k
theorem pssf_cons (h1 : PSf X T st g) (h2 : PSsf X T rest h) : PSsf X T (st :: rest) (fSeq g h) := ⟨(pss_cons h1.ps h2.ps).imp fun D σ H ⟨C, ρ, G, out, S, hh, k⟩ => by
  obtain ⟨o, e1, hh⟩ := Option.bind_eq_some_iff.mp hh
  exact ⟨C, ρ, G, o, S, e1, Fin.seq (ρ := ρ) hh k⟩⟩
theorem pssf_one (h1 : PSf X T st g) : PSsf X T [st] g := ⟨pss_one h1.ps⟩
theorem psf_never : PSf X T st fStuck := ⟨ps_never.imp fun D σ H ⟨C, ρ, G, out, S, hh, k⟩ => nomatch hh⟩
theorem pssf_never : PSsf X T rest fStuck := ⟨pss_never.imp fun D σ H ⟨C, ρ, G, out, S, hh, k⟩ => nomatch hh⟩
theorem psf_pass : PSf X T (.Pass pos) fSkip := ⟨ps_pass.imp fun D σ H ⟨C, ρ, G, out, S, h, k⟩ => by cases h; exact k σ H G S (Ex.refl G)⟩
theorem psf_brk : PSf X T (.Break pos) fBrk := ⟨ps_break.imp fun D σ H ⟨C, ρ, G, out, S, h, k⟩ => by cases h; exact k σ H G S (Ex.refl G)⟩
theorem psf_cnt : PSf X T (.Continue pos) fCnt := ⟨ps_continue.imp fun D σ H ⟨C, ρ, G, out, S, h, k⟩ => by cases h; exact k σ H G S (Ex.refl G)⟩
theorem psf_expr (he : PEf X T pu e f) (hs : swapsWith e none pos.line X.env = pure false := by rfl) : PSf X T (.Expr e pos) (fDrop f) := ⟨(ps_expr he.pe hs).imp fun D σ H ⟨C, ρ, G, out, S, hh, k⟩ => by
  obtain ⟨⟨d, ρ1⟩, e1, hh⟩ := Option.bind_eq_some_iff.mp hh
  cases hh
  exact ⟨C, ρ, G, d, ρ1, S, e1, fun v H1 G1 n1 r1 => k σ H1 G1 n1.st n1.ex⟩⟩
theorem psf_set {i : Nat} {x : Str} (hN : X.N.Nodup) (he : PEf X T pu e f) (hi : X.N[i]? = some x := by rfl) (hx : Loc X.env.scope x := by first | exact Or.inl rfl | exact Or.inr rfl) (hs : swapsWith e (some (.Name x pos')) pos.line X.env = pure false := by rfl)
    (hf : X.fn x = true ∨ X.env.scope.names.lookup x = some .local := by first | exact .inl rfl | exact .inr rfl | assumption) : PSf X T (.Assign [.Name x pos'] e pos) (fSet i f) := ⟨(ps_set hN hi hx he.pe hs hf).imp fun D σ H ⟨C, ρ, G, out, S, hh, k⟩ => by
  obtain ⟨⟨d, ρ1⟩, e1, hh⟩ := Option.bind_eq_some_iff.mp hh
  cases hh
  exact ⟨C, ρ, G, d, ρ1, S, e1, fun v H1 G1 n1 r1 => k _ H1 G1 (n1.st.assignSh r1) n1.ex⟩⟩
theorem psf_setO {i : Nat} {x : Str} (hN : X.N.Nodup) (he : PEo X T pu e fo) (hi : X.N[i]? = some x := by rfl) (hx : Loc X.env.scope x := by first | exact Or.inl rfl | exact Or.inr rfl) (hs : swapsWith e (some (.Name x pos')) pos.line X.env = pure false := by rfl)
    (hf : X.fn x = true ∨ X.env.scope.names.lookup x = some .local := by first | exact .inl rfl | exact .inr rfl | assumption) : PSf X T (.Assign [.Name x pos'] e pos) (fSetO i fo) := ⟨(ps_set hN hi hx he.pe hs hf).imp fun D σ H ⟨C, ρ, G, out, S, hh, k⟩ => by
  obtain ⟨⟨d, ρ1⟩, e1, hh⟩ := Option.bind_eq_some_iff.mp hh
  cases hh
  exact ⟨C, ρ, G, d, ρ1, S, e1, fun v H1 G1 n1 => k _ H1 G1 n1.st.assignOwn n1.ex⟩⟩
theorem psf_ret (he : PEf X T pu e f) : PSf X T (.Return (some e) pos) (fRet f) := ⟨(ps_ret he.pe).imp fun D σ H ⟨C, ρ, G, out, S, hh, k⟩ => by
  obtain ⟨⟨d, ρ1⟩, e1, hh⟩ := Option.bind_eq_some_iff.mp hh
  cases hh
  exact ⟨C, ρ, G, d, ρ1, S, e1, fun v H1 G1 n1 r1 => k v σ H1 G1 n1.st n1.ex r1⟩⟩
theorem psf_retO (he : PEo X T pu e fo) : PSf X T (.Return (some e) pos) (fRetO fo) := ⟨(ps_ret he.pe).imp fun D σ H ⟨C, ρ, G, out, S, hh, k⟩ => by
  obtain ⟨⟨d, ρ1⟩, e1, hh⟩ := Option.bind_eq_some_iff.mp hh
  cases hh
  exact ⟨C, ρ, G, d, ρ1, S, e1, fun v H1 G1 n1 => k v σ H1 G1 n1.st n1.ex⟩⟩
theorem psf_retN : PSf X T (.Return none pos) fRetN := ⟨ps_retN.imp fun D σ H ⟨C, ρ, G, out, S, h, k⟩ => by cases h; exact k _ σ H G S (Ex.refl G) .non⟩
theorem psf_if (hc : PTf X T pu c ft) (ha : PSsf X T sa g) (hb : PSsf X T sb h) : PSf X T (.If c sa sb pos) (fIfS ft g h) := ⟨(ps_if hc.pt ha.ps hb.ps).imp fun D σ H ⟨C, ρ, G, out, S, hh, k⟩ => by
  obtain ⟨⟨d, ρ1⟩, e1, hh⟩ := Option.bind_eq_some_iff.mp hh
  refine ⟨C, ρ, G, d, ρ1, S, e1, fun H1 G1 n1 => ?_⟩
  cases d with
  | true => rw [if_pos rfl]; exact ⟨C, ρ1, G1, out, n1.st, hh, k.mono n1.ex⟩
  | false => rw [if_neg Bool.false_ne_true]; exact ⟨C, ρ1, G1, out, n1.st, hh, k.mono n1.ex⟩⟩
/-- ghost: freezing ahead of a block -/
theorem pssf_freeze (i : Nat) (hh : PSsf X T rest g) : PSsf X T rest (fFreeze i g) := ⟨hh.ps.imp fun D σ H ⟨C, ρ, G, out, S, hq, k⟩ => by
  unfold fFreeze at hq
  split at hq
  · rename_i o hi
    split at hq
    · rename_i hf
      obtain ⟨G', S', e'⟩ := S.freezeAt hi hf
      exact ⟨C, _, G', out, S', hq, k.mono e'⟩
    · cases hq
  · cases hq⟩
/-- moving an owned local out -/
@[simp] def fMove (i : Nat) : FO := fun ρ => match ρ[i]? with
  | some (some (.own true o)) => some (o, ρ.set i none)
  | _ => none
theorem Sta.moveOut {C : C0} {ρ : Fenv} {σ : L2.St} {H G : Hp} {i : Nat} {o : O} {v : V} (S : Sta T C ρ σ H G) (hi : ρ[i]? = some (some (.own true o))) (hv : σ[i]? = some (some v)) : Sta T C (ρ.set i none ++ [some (.own true o)]) (σ ++ [some v]) H G where
  gh := S.gh
  g0 := S.g0
  h0 := S.h0
  fr := S.fr
  io := S.io
  len := by simp [S.len]
  sh := fun j d h => by
    have hj : j < ρ.length := by
      rw [List.getElem?_append] at h
      split at h
      · rename_i q; simpa using q
      · rename_i q
        cases w : j - (ρ.set i none).length with
        | zero => rw [w] at h; simp at h
        | succ k => rw [w] at h; simp at h
    rw [List.getElem?_append_left (by simpa using hj)] at h
    by_cases q : i = j
    · subst q
      rw [List.getElem?_set_self hj] at h
      cases h
    · rw [List.getElem?_set_ne q] at h
      obtain ⟨w, e1, e2⟩ := S.sh j d h
      exact ⟨w, by rw [List.getElem?_append_left (by rw [S.len]; exact hj)]; exact e1, e2⟩
  own := by
    have hil : i < ρ.length := (List.getElem?_eq_some_iff.mp hi).1
    obtain ⟨ow, h⟩ := S.own
    refine ⟨fun b => if ow b = some i then some ρ.length else ow b, fun j g o' e => ?_⟩
    by_cases hj : j < ρ.length
    · rw [List.getElem?_append_left (by simpa using hj)] at e
      by_cases q : i = j
      · subst q
        rw [List.getElem?_set_self hj] at e
        cases e
      · rw [List.getElem?_set_ne q] at e
        obtain ⟨w, fp, e1, e2, e3⟩ := h j g o' e
        refine ⟨w, fp, by rw [List.getElem?_append_left (by rw [S.len]; exact hj)]; exact e1, e2, fun b hb => ⟨?_, (e3 b hb).2⟩⟩
        show (if ow b = some i then some ρ.length else ow b) = some j
        rw [(e3 b hb).1, if_neg fun z => q (Option.some.inj z).symm]
    · have ej : j = ρ.length := by
        rw [List.getElem?_append_right (by simpa using Nat.not_lt.mp hj)] at e
        cases w : j - (ρ.set i none).length with
        | zero => simp at w; omega
        | succ k => rw [w] at e; simp at e
      subst ej
      rw [List.getElem?_append_right (by simp), List.length_set, Nat.sub_self] at e
      simp at e
      obtain ⟨rfl, rfl⟩ := e
      obtain ⟨w, fp, e1, e2, e3⟩ := h i true o hi
      rw [hv] at e1
      cases e1
      refine ⟨v, fp, by rw [List.getElem?_append_right (by rw [S.len]; exact Nat.le_refl _), S.len]; simp, e2, fun b hb => ⟨if_pos (e3 b hb).1, (e3 b hb).2⟩⟩
theorem peo_move {i : Nat} {x : Str} (hN : X.N[i]? = some x := by rfl) (hv : Vis X.env.scope x := by first | exact Or.inl rfl | exact Or.inr (Or.inl rfl) | exact Or.inr (Or.inr rfl)) (hd : (x == ("__debug__" : Str)) = false := by decide) (hcd : (x == ("__classdict__" : Str)) = false := by decide) :
    PEo X T false (.Name x pos) (fMove i) where
  pe := (pe_var hN hv hd hcd).imp fun σ H Q ⟨C, ρ, G, d, ρ', S, h, k⟩ => by
    unfold fMove at h
    split at h
    · rename_i o hi
      cases h
      obtain ⟨ow, hh⟩ := S.own
      obtain ⟨v, fp, e1, _, _⟩ := hh i true d hi
      exact ⟨v, e1, k v H G ⟨S.moveOut hi e1, Ex.refl G, fun z => nomatch z⟩⟩
    · cases h
  same := fun h => nomatch h

/-! ### while, by so many turns at most -/
def fWhile (c : FT) (b : FS) : Nat → FS
  | 0 => fun _ => none
  | n + 1 => fun ρ => (c ρ).bind fun x => if x.1 then (b x.2).bind fun o => match o with
    | .nx ρ' => fWhile c b n ρ'
    | .ct ρ' => fWhile c b n ρ'
    | .bk ρ' => some (.nx ρ')
    | .rt s ρ' => some (.rt s ρ') else some (.nx x.2)
theorem psf_while (n : Nat) (hp : PassesOwn (model X.prog X.w) X.A X.env X.xe) (hc : PTf X T pu c ft) (hb : PSsf X T sa g) : PSf X T (.While c sa [] pos) (fWhile ft g n) := ⟨(ps_while hp hc.pt hb.ps).imp fun D σ H ⟨C, ρ, G, out, S, hh, k⟩ => by
  refine ⟨fun m σ' H' => ∃ ρ' G', Sta T C ρ' σ' H' G' ∧ Ex G G' ∧ fWhile ft g m ρ' = some out, ⟨n, ρ, G, S, Ex.refl G, hh⟩, fun m σ1 H1 ⟨ρ1, G1, S1, x1, h1⟩ => ?_⟩
  cases m with
  | zero => cases h1
  | succ m =>
    obtain ⟨⟨d, ρ2⟩, e1, h1⟩ := Option.bind_eq_some_iff.mp h1
    refine ⟨C, ρ1, G1, d, ρ2, S1, e1, fun H2 G2 n2 => ?_⟩
    cases d with
    | false =>
      cases h1
      rw [if_neg Bool.false_ne_true]
      exact k σ1 H2 G2 n2.st (x1.trans n2.ex)
    | true =>
      rw [if_pos rfl]
      obtain ⟨o, e2, h1⟩ := Option.bind_eq_some_iff.mp h1
      refine ⟨fun σ' H' => ∃ ρ' G', Sta T C ρ' σ' H' G' ∧ Ex G G' ∧ fWhile ft g m ρ' = some out, fun σ' H' q => ⟨m, Nat.lt_succ_self _, q⟩, C, ρ2, G2, o, n2.st, e2, ?_⟩
      have x2 := x1.trans n2.ex
      cases o with
      | nx ρ' => exact fun σ' H' G' S' e' => ⟨ρ', G', S', x2.trans e', h1⟩
      | ct ρ' => exact fun σ' H' G' S' e' => ⟨ρ', G', S', x2.trans e', h1⟩
      | bk ρ' => cases h1; exact fun σ' H' G' S' e' => k σ' H' G' S' (x2.trans e')
      | rt s ρ' => cases h1; cases s <;> exact k.mono x2⟩

/-! ### x op= e -/
@[simp] def fAug (i : Nat) (op : D → D → Option D) (f : FE) : FS := fun ρ => match ρ[i]? with
  | some (some (.sh d)) => (f ρ).bind fun x => (op d x.1).bind fun z => some (.nx (x.2.set i (some (.sh z))))
  | _ => none
/-- whole numbers in place -/
structure Ip (X : Cx) (T : Tab) (op : Operator) (g : D → D → Option D) : Prop where
  ex : ∃ r, PIp X op r ∧ Lift2 T r g
theorem ip_addI : Ip X T .Add (dI fun i j => i + j) := ⟨_, ip_add, by
  intro H G dx dy x y dz e rx ry h Q k
  cases rx with
  | int i =>
    cases ry with
    | int j => cases h; exact ⟨i, j, rfl, rfl, k _ H G (stp0 e) (.int _)⟩
    | _ => cases h
  | _ => cases h⟩
theorem ip_subI : Ip X T .Sub (dI fun i j => i - j) := ⟨_, ip_sub, by
  intro H G dx dy x y dz e rx ry h Q k
  cases rx with
  | int i =>
    cases ry with
    | int j => cases h; exact ⟨i, j, rfl, rfl, k _ H G (stp0 e) (.int _)⟩
    | _ => cases h
  | _ => cases h⟩
theorem psf_aug {i : Nat} {x : Str} {op : Operator} {gg : D → D → Option D} (hN : X.N.Nodup) (hop : Ip X T op gg) (he : PEf X T pu e f) (hi : X.N[i]? = some x := by rfl) (hx : Loc X.env.scope x := by first | exact Or.inl rfl | exact Or.inr rfl)
    (hf : X.fn x = true ∨ X.env.scope.names.lookup x = some .local := by first | exact .inl rfl | exact .inr rfl | assumption) : PSf X T (.AugAssign (.Name x pos') op e pos) (fAug i gg f) := by
  obtain ⟨r, ho, l⟩ := hop.ex
  refine ⟨(ps_aug hN hi hx he.pe ho hf).imp fun D σ H ⟨C, ρ, G, out, S, hh, k⟩ => ?_⟩
  unfold fAug at hh
  split at hh
  · rename_i d hi'
    obtain ⟨⟨dy, ρ1⟩, e1, hh⟩ := Option.bind_eq_some_iff.mp hh
    obtain ⟨z, e2, hh⟩ := Option.bind_eq_some_iff.mp hh
    cases hh
    obtain ⟨v, ev, rv⟩ := S.sh i d hi'
    exact ⟨v, ev, C, ρ, G, dy, ρ1, S, e1, fun y H1 G1 n1 r1 => l H1 G1 d dy v y z n1.st.gh (rv.mono n1.ex) r1 e2 _ fun w H2 G2 q2 r2 => k _ H2 G2 ((n1.st.stp q2).assignSh r2) (n1.ex.trans q2.gg)⟩
  · cases hh

/-! ### changing owned lists -/
def isOwnL : Option (Option Slot) → Bool
  | some (some (.own _ (.lst _))) => true
  | _ => false
@[simp] theorem isOwnL_lst {g : Bool} {l : List D} : isOwnL (some (some (.own g (.lst l)))) = true := rfl
@[simp] def fApp (i : Nat) (f : FE) : FS := fun ρ => if isOwnL ρ[i]? then (f ρ).bind fun x => match x.2[i]? with
  | some (some (.own g (.lst l))) => if l.length < many then some (.nx (x.2.set i (some (.own g (.lst (l ++ [x.1])))))) else none
  | _ => none
  else none
theorem isOwnL_inv {o : Option (Option Slot)} (h : isOwnL o = true) : ∃ g l, o = some (some (.own g (.lst l))) := by
  unfold isOwnL at h
  split at h
  · exact ⟨_, _, rfl⟩
  · cases h
theorem Sta.ownAt {C : C0} {ρ : Fenv} {σ : L2.St} {H G : Hp} {i : Nat} {g : Bool} {l : List D} (S : Sta T C ρ σ H G) (hi : ρ[i]? = some (some (.own g (.lst l)))) : ∃ p xs, σ[i]? = some (some (.ref p)) ∧ H p = some (.lst xs) ∧ Reps T G l xs ∧
    ∀ l' xs', Reps T G l' xs' → Sta T C (ρ.set i (some (.own g (.lst l')))) σ (upd H p (.lst xs')) G := by
  obtain ⟨ow, hh⟩ := S.own
  obtain ⟨v, fp, e1, ⟨p, xs, rfl, rfl, h1, h2⟩, e3⟩ := hh i g _ hi
  refine ⟨p, xs, e1, h1, h2, fun l' xs' r => S.updOwn hi (fun b u hb hu => ?_) (fun b u hb tb => ?_) e1 ⟨p, xs, rfl, rfl, h1, h2⟩ (fp' := [p]) ⟨p, xs', rfl, rfl, upd_same, r⟩ fun b hb => .inl hb⟩
  · rw [upd_ne (by simpa using hb)]; exact hu
  · by_cases z : b = p
    · subst z; exact ⟨_, upd_same, fun _ w => nomatch w⟩
    · exact ⟨u, by rw [upd_ne z]; exact hb, tb⟩
theorem psf_app {i : Nat} {x : Str} {apos cpos np : Pos} (he : PEf X T pu e f) (hN : X.N[i]? = some x := by rfl) (hv : Vis X.env.scope x := by first | exact Or.inl rfl | exact Or.inr (Or.inl rfl) | exact Or.inr (Or.inr rfl)) (hd : (x == ("__debug__" : Str)) = false := by decide) (hcd : (x == ("__classdict__" : Str)) = false := by decide)
    (hpl : ∀ {ta tb : TE}, PE X (.Name x np) ta → PE X e tb → PE X (.Call (.Attribute (.Name x np) "append" apos) [e] [] cpos) (tBM X.K "list" rAppend ta (tCons tb tNil)) := by
      exact fun h1 h2 => pe_bm PySem.F.plainAttrs_list PySem.F.slot_list_append PySem.F.type_list_append mt_append h1 (pa_cons h2 pa_nil))
    (hs : swapsWith (.Call (.Attribute (.Name x np) "append" apos) [e] [] cpos) none pos.line X.env = pure false := by rfl) : PSf X T (.Expr (.Call (.Attribute (.Name x np) "append" apos) [e] [] cpos) pos) (fApp i f) :=
  ⟨(ps_expr (hpl (pe_var hN hv hd hcd) he.pe) hs).imp fun D σ H ⟨C, ρ, G, out, S, hh, k⟩ => by
    unfold fApp at hh
    split at hh
    · rename_i hown
      obtain ⟨g0, l0, hi0⟩ := isOwnL_inv hown
      obtain ⟨p, xs0, e2, h0, _, _⟩ := S.ownAt hi0
      obtain ⟨⟨d, ρ1⟩, e1, hh⟩ := Option.bind_eq_some_iff.mp hh
      dsimp only at hh
      split at hh
      · rename_i g l hi
        split at hh
        · rename_i hl
          cases hh
          refine ⟨.ref p, e2, .inl ⟨rfl, xs0, SqL.of h0⟩, C, ρ, G, d, ρ1, S, e1, fun y H1 G1 n1 r1 => ?_⟩
          obtain ⟨p', xs, e3, h1, r2, fin⟩ := n1.st.ownAt hi
          rw [e2] at e3
          cases e3
          refine ⟨p, xs, y, rfl, rfl, h1, Nat.lt_of_lt_of_le (by rw [← r2.length]; exact hl) many_le, k _ _ G1 (fin _ _ (r2.append (.cons r1 .nil))) n1.ex⟩
        · cases hh
      · cases hh
    · cases hh⟩
end
end Fl
end

section
set_option Elab.async false
set_option linter.all false
set_option autoImplicit false
set_option maxRecDepth 100000
set_option maxHeartbeats 2000000
namespace Fl
open PySem PySem.Spec PyProof.Rows L2

/-! ### more changes of owned lists -/
section
variable {X : Cx} {T : Tab} {pu pa pb : Bool} {e a b c : Expr} {f fa fb fc : FE} {pos pos' : Pos}
/-- slot i's name, evaluated: its list's place -/
theorem own_var {C : C0} {ρ : Fenv} {σ : L2.St} {H G : Hp} {i : Nat} (S : Sta T C ρ σ H G) (h : isOwnL ρ[i]? = true) : ∃ p xs, σ[i]? = some (some (.ref p)) ∧ H p = some (.lst xs) := by
  obtain ⟨g0, l0, hi0⟩ := isOwnL_inv h
  obtain ⟨p, xs0, e2, h0, _, _⟩ := S.ownAt hi0
  exact ⟨p, xs0, e2, h0⟩
/-- x.insert(n, e) -/
@[simp] def fIns (i : Nat) (fn f : FE) : FS := fun ρ => if isOwnL ρ[i]? then (fn ρ).bind fun n => (f n.2).bind fun x => match x.2[i]?, n.1 with
  | some (some (.own g (.lst l))), .int j => if l.length < many ∧ 0 ≤ j ∧ j < 1000000000 then some (.nx (x.2.set i (some (.own g (.lst (l.take j.toNat ++ [x.1] ++ l.drop j.toNat)))))) else none
  | _, _ => none
  else none
theorem psf_ins {i : Nat} {x : Str} {apos cpos np : Pos} (hn : PEf X T pa a fa) (he : PEf X T pu e f) (hN : X.N[i]? = some x := by rfl) (hv : Vis X.env.scope x := by first | exact Or.inl rfl | exact Or.inr (Or.inl rfl) | exact Or.inr (Or.inr rfl)) (hd : (x == ("__debug__" : Str)) = false := by decide) (hcd : (x == ("__classdict__" : Str)) = false := by decide)
    (hpl : ∀ {to tn tb : TE} {r : V → List V → Hp → VK → Prop}, MtR X "list.insert" r → PE X (.Name x np) to → PE X a tn → PE X e tb → PE X (.Call (.Attribute (.Name x np) "insert" apos) [a, e] [] cpos) (tBM X.K "list" r to (tCons tn (tCons tb tNil))) := by
      exact fun hr h0 h1 h2 => pe_bm PySem.F.plainAttrs_list PySem.F.slot_list_insert PySem.F.type_list_insert hr h0 (pa_cons h1 (pa_cons h2 pa_nil)))
    (hs : swapsWith (.Call (.Attribute (.Name x np) "insert" apos) [a, e] [] cpos) none pos.line X.env = pure false := by rfl) : PSf X T (.Expr (.Call (.Attribute (.Name x np) "insert" apos) [a, e] [] cpos) pos) (fIns i fa f) :=
  ⟨(ps_expr (hpl mt_insert (pe_var hN hv hd hcd) hn.pe he.pe) hs).imp fun D σ H ⟨C, ρ, G, out, S, hh, k⟩ => by
    unfold fIns at hh
    split at hh
    · rename_i hown
      obtain ⟨p, xs0, e2, h0⟩ := own_var S hown
      obtain ⟨⟨dn, ρ0⟩, e0, hh⟩ := Option.bind_eq_some_iff.mp hh
      obtain ⟨⟨d, ρ1⟩, e1, hh⟩ := Option.bind_eq_some_iff.mp hh
      dsimp only at hh
      split at hh
      · rename_i g l j hi hj
        split at hh
        · rename_i hl
          cases hh
          refine ⟨.ref p, e2, .inl ⟨rfl, xs0, SqL.of h0⟩, C, ρ, G, _, ρ0, S, e0, fun z H0 G0 n0 r0 => ⟨C, ρ0, G0, d, ρ1, n0.st, e1, fun y H1 G1 n1 r1 => ?_⟩⟩
          cases r0
          obtain ⟨p', xs, e3, h1, r2, fin⟩ := n1.st.ownAt hi
          rw [e2] at e3
          cases e3
          refine ⟨p, xs, j, y, rfl, rfl, h1, Nat.lt_of_lt_of_le (by rw [← r2.length]; exact hl.1) many_le, hl.2.1, by omega, k _ _ G1 (fin _ _ (((r2.take _).append (.cons r1 .nil)).append (r2.drop _))) (n0.ex.trans n1.ex)⟩
        · cases hh
      · cases hh
    · cases hh⟩
/-- x[n] = e -/
@[simp] def fSetI (i : Nat) (fn f : FE) : FS := fun ρ => (f ρ).bind fun x => if isOwnL x.2[i]? then (fn x.2).bind fun n => match n.2[i]?, n.1 with
  | some (some (.own g (.lst l))), .int j => match ixN l.length j with
    | some k => some (.nx (n.2.set i (some (.own g (.lst (l.set k x.1))))))
    | none => none
  | _, _ => none
  else none
theorem psf_setI {i : Nat} {x : Str} {np sp : Pos} (hn : PEf X T pa a fa) (he : PEf X T pu e f) (hN : X.N[i]? = some x := by rfl) (hv : Vis X.env.scope x := by first | exact Or.inl rfl | exact Or.inr (Or.inl rfl) | exact Or.inr (Or.inr rfl)) (hd : (x == ("__debug__" : Str)) = false := by decide) (hcd : (x == ("__classdict__" : Str)) = false := by decide)
    (mk : ∀ {te to tn : TE}, PE X e te → PE X (.Name x np) to → PE X a tn → PS X (.Assign [.Subscript (.Name x np) a sp] e pos) (tAsg te (gSub to tn rSetL)) := by exact fun h0 h1 h2 => ps_asg h0 (pg_sub h1 h2 set_list)) :
    PSf X T (.Assign [.Subscript (.Name x np) a sp] e pos) (fSetI i fa f) := ⟨(mk he.pe (pe_var hN hv hd hcd) hn.pe).imp fun D σ H ⟨C, ρ, G, out, S, hh, k⟩ => by
  obtain ⟨⟨d, ρ1⟩, e1, hh⟩ := Option.bind_eq_some_iff.mp hh
  split at hh
  · rename_i hown
    obtain ⟨⟨dn, ρ2⟩, e2, hh⟩ := Option.bind_eq_some_iff.mp hh
    refine ⟨C, ρ, G, d, ρ1, S, e1, fun y H1 G1 n1 r1 => ?_⟩
    obtain ⟨p, xs0, e3, h0⟩ := own_var n1.st hown
    refine ⟨.ref p, e3, C, ρ1, G1, dn, ρ2, n1.st, e2, fun z H2 G2 n2 r2 => ?_⟩
    dsimp only at hh
    split at hh
    · rename_i _ g l j hi
      split at hh
      · rename_i kk hk
        cases hh
        cases r2
        obtain ⟨p', xs, e4, h1, r3, fin⟩ := n2.st.ownAt hi
        rw [e3] at e4
        cases e4
        exact ⟨p, xs, j, kk, rfl, rfl, h1, by rw [← r3.length]; exact hk, k _ _ G2 (fin _ _ (r3.set kk (r1.mono n2.ex))) (n1.ex.trans n2.ex)⟩
      · cases hh
    · cases hh
  · cases hh⟩
/-- a list's item, by values -/
theorem get_listR : PGet X (rIxL X.K) := by
  intro pins s σ H x y v u Q I rx ry h
  obtain ⟨p, xs, i, z, rfl, rfl, hq, he, q⟩ := h
  cases rx
  obtain ⟨t, rfl⟩ := ry
  obtain ⟨its, r, pl, hz⟩ := I.list hq
  obtain ⟨j, h1, h2, h3, h4, h5⟩ := atI_get he
  obtain ⟨w, ew, rw'⟩ := r.get h2
  have hl := r.length
  have hn := line63
  have fin : EP X pins σ Q w s := ⟨z, H, I, rw', q⟩
  by_cases h0 : 0 ≤ i
  · have hj : i.toNat = j := by
      rw [seqIndex_of h0 h5] at h1
      exact Option.some.inj h1
    exact wpAny_getItem_list pl.isList h0 (by omega) (by rw [hj]; simpa using ew) fin
  · have hj : (i + (its.toArray.size : Int)).toNat = j := by
      rw [seqIndex_neg (by omega) h4] at h1
      rw [List.size_toArray, ← hl]
      exact Option.some.inj h1
    exact wpAny_getItem_list_neg pl.isList (by omega) (by rw [List.size_toArray] <;> omega) (by omega) (by rw [hj]; simpa using ew) fin
end

section
variable {X : Cx} {T : Tab} {pu pa pb : Bool} {e a b c : Expr} {f fa fb fc : FE} {pos pos' : Pos}
/-- x[n] op= e -/
@[simp] def fAugI (i : Nat) (op : D → D → Option D) (fn f : FE) : FS := fun ρ => if isOwnL ρ[i]? then (fn ρ).bind fun n => match n.2[i]?, n.1 with
  | some (some (.own _ (.lst l))), .int j => (atI l j).bind fun old => (f n.2).bind fun x => (op old x.1).bind fun z => match x.2[i]? with
    | some (some (.own g (.lst l2))) => match ixN l2.length j with
      | some k => some (.nx (x.2.set i (some (.own g (.lst (l2.set k z))))))
      | none => none
    | _ => none
  | _, _ => none
  else none
theorem psf_augI {i : Nat} {x : Str} {op : Operator} {gg : D → D → Option D} {np sp : Pos} (hop : Ip X T op gg) (hn : PEf X T pa a fa) (he : PEf X T pu e f) (hN : X.N[i]? = some x := by rfl) (hv : Vis X.env.scope x := by first | exact Or.inl rfl | exact Or.inr (Or.inl rfl) | exact Or.inr (Or.inr rfl))
    (hd : (x == ("__debug__" : Str)) = false := by decide) (hcd : (x == ("__classdict__" : Str)) = false := by decide)
    (ha : ∀ ov iv new, augStore a ov iv new = (do holding [new, ov, iv] (setItem ov iv new); release [new, ov, iv] []; pure .next) := by intros; rfl) :
    PSf X T (.AugAssign (.Subscript (.Name x np) a sp) op e pos) (fAugI i gg fa f) := by
  obtain ⟨r, ho, l⟩ := hop.ex
  refine ⟨(ps_augS (pe_var hN hv hd hcd) hn.pe get_listR he.pe ho set_list ha).imp fun D σ H ⟨C, ρ, G, out, S, hh, k⟩ => ?_⟩
  unfold fAugI at hh
  split at hh
  · rename_i hown
    obtain ⟨p, xs0, e3, h0⟩ := own_var S hown
    obtain ⟨⟨dn, ρ1⟩, e1, hh⟩ := Option.bind_eq_some_iff.mp hh
    refine ⟨.ref p, e3, C, ρ, G, dn, ρ1, S, e1, fun y H1 G1 n1 r1 => ?_⟩
    dsimp only at hh
    split at hh
    · rename_i _ g l1 j hi
      obtain ⟨old, eo, hh⟩ := Option.bind_eq_some_iff.mp hh
      obtain ⟨⟨dx, ρ2⟩, e2, hh⟩ := Option.bind_eq_some_iff.mp hh
      obtain ⟨z, ez, hh⟩ := Option.bind_eq_some_iff.mp hh
      cases r1
      obtain ⟨p', xs, e4, h1, r3, _⟩ := n1.st.ownAt hi
      rw [e3] at e4
      cases e4
      obtain ⟨ov, eov, rov⟩ := r3.atI eo
      refine ⟨p, xs, j, ov, rfl, rfl, SqL.of h1, eov, C, ρ1, G1, dx, ρ2, n1.st, e2, fun w H2 G2 n2 r2 => ?_⟩
      refine l H2 G2 old dx ov w z n2.st.gh (rov.mono n2.ex) r2 ez _ fun nz H3 G3 q3 r4 => ?_
      have n3 := n2.stp q3
      dsimp only at hh
      split at hh
      · rename_i g2 l2 hi2
        split at hh
        · rename_i kk hk
          cases hh
          obtain ⟨p', xs2, e5, h2, r5, fin⟩ := n3.st.ownAt hi2
          rw [e3] at e5
          cases e5
          exact ⟨p, xs2, j, kk, rfl, rfl, h2, by rw [← r5.length]; exact hk, k _ _ G3 (fin _ _ (r5.set kk r4)) (n1.ex.trans n3.ex)⟩
        · cases hh
      · cases hh
    · cases hh
  · cases hh

/-! ### dicts whose keys are tuples of ints and texts -/
section
variable {κ α : Type} [DecidableEq κ]
def valG (kvs : List (κ × α)) (k : κ) : Option α := (kvs.find? fun kv => decide (kv.1 = k)).map (·.2)
def putG (kvs : List (κ × α)) (k : κ) (v : α) : List (κ × α) :=
  if (kvs.any fun kv => decide (kv.1 = k)) = true then kvs.map (fun kv => if kv.1 = k then (kv.1, v) else kv) else kvs ++ [(k, v)]
theorem KVs.any {G : Hp} {kvs : List (κ × D)} {xs : List (κ × V)} (r : KVs T G kvs xs) (k : κ) : (kvs.any fun kv => decide (kv.1 = k)) = xs.any fun kv => decide (kv.1 = k) := by
  induction r with
  | nil => rfl
  | cons h _ ih => simp only [List.any_cons, ih, h.1]
theorem KVs.val {G : Hp} {kvs : List (κ × D)} {xs : List (κ × V)} (r : KVs T G kvs xs) (k : κ) : match valG kvs k with | some d => ∃ v, valV xs k = some v ∧ Rep T G d v | none => valV xs k = none := by
  induction r with
  | nil => rfl
  | @cons p q l1 l2 h r ih =>
    unfold valG valV at *
    rw [List.find?_cons, List.find?_cons, ← h.1]
    by_cases e : p.1 = k
    · simp only [decide_eq_true e, Option.map_some]
      exact ⟨q.2, rfl, h.2⟩
    · simp only [decide_eq_false e]
      exact ih
theorem KVs.repl {G : Hp} {kvs : List (κ × D)} {xs : List (κ × V)} (r : KVs T G kvs xs) (k : κ) {d : D} {v : V} (hr : Rep T G d v) : KVs T G (kvs.map fun kv => if kv.1 = k then (kv.1, d) else kv) (xs.map fun kv => if kv.1 = k then (kv.1, v) else kv) := by
  induction r with
  | nil => exact .nil
  | @cons p q l1 l2 h r ih =>
    refine .cons ?_ ih
    by_cases e : p.1 = k
    · dsimp only
      rw [if_pos e, if_pos (h.1 ▸ e)]
      exact ⟨h.1, hr⟩
    · dsimp only
      rw [if_neg e, if_neg (h.1 ▸ e)]
      exact h
theorem KVs.append {G : Hp} {l l' : List (κ × D)} {x x' : List (κ × V)} (r : KVs T G l x) (q : KVs T G l' x') : KVs T G (l ++ l') (x ++ x') := by
  induction r with
  | nil => exact q
  | cons h _ ih => exact .cons h ih
theorem KVs.put {G : Hp} {kvs : List (κ × D)} {xs : List (κ × V)} (r : KVs T G kvs xs) (k : κ) {d : D} {v : V} (hr : Rep T G d v) : KVs T G (putG kvs k d) (putK xs k v) := by
  unfold putG putK
  rw [r.any k]
  split
  · exact r.repl k hr
  · exact r.append (.cons ⟨rfl, hr⟩ .nil)
theorem KVs.length {G : Hp} {kvs : List (κ × D)} {xs : List (κ × V)} (r : KVs T G kvs xs) : kvs.length = xs.length := Paired.length r
end
def keyD : Key → D
  | .inl i => .int i
  | .inr s => .str s
def keyOf : D → Option Key
  | .int i => some (.inl i)
  | .str s => some (.inr s)
  | _ => none
def keysOf : List D → Option (List Key)
  | [] => some []
  | d :: ds => (keyOf d).bind fun k => (keysOf ds).map (k :: ·)
def keyT : D → Option (List Key)
  | .tup l => keysOf l
  | _ => none
theorem keysOf_rep {G : Hp} : ∀ {l : List D} {ks : List Key} {xs : List V}, keysOf l = some ks → Reps T G l xs → xs = ks.map kV
  | [], ks, xs, h, r => by cases h; cases r; rfl
  | d :: ds, ks, xs, h, r => by
    obtain ⟨k, e1, h⟩ := Option.bind_eq_some_iff.mp h
    obtain ⟨m, e2, h⟩ := Option.map_eq_some_iff.mp h
    cases h
    cases r with
    | cons r1 r2 =>
      rw [keysOf_rep e2 r2]
      cases r1 with
      | int i => cases e1; rfl
      | str s => cases e1; rfl
      | _ => cases e1
theorem keyT_rep {G : Hp} {d : D} {ks : List Key} {v : V} (h : keyT d = some ks) (r : Rep T G d v) : ∃ b, v = .ref b ∧ G b = some (.tup (ks.map kV)) := by
  cases r with
  | tup hg rr => exact ⟨_, rfl, by rw [← keysOf_rep h rr]; exact hg⟩
  | _ => cases h
theorem reps_keys {G : Hp} : ∀ ks : List Key, Reps T G (ks.map keyD) (ks.map kV)
  | [] => .nil
  | .inl i :: r => .cons (.int i) (reps_keys r)
  | .inr s :: r => .cons (.str s) (reps_keys r)
theorem Sta.ownT {C : C0} {ρ : Fenv} {σ : L2.St} {H G : Hp} {i : Nat} {g : Bool} {l : List (List Key × D)} (S : Sta T C ρ σ H G) (hi : ρ[i]? = some (some (.own g (.dT l)))) : ∃ p xs, σ[i]? = some (some (.ref p)) ∧ H p = some (.dT xs) ∧ KVs T G l xs ∧
    ∀ l' xs', KVs T G l' xs' → Sta T C (ρ.set i (some (.own g (.dT l')))) σ (upd H p (.dT xs')) G := by
  obtain ⟨ow, hh⟩ := S.own
  obtain ⟨v, fp, e1, ⟨p, xs, rfl, rfl, h1, h2⟩, e3⟩ := hh i g _ hi
  refine ⟨p, xs, e1, h1, h2, fun l' xs' r => S.updOwn hi (fun b u hb hu => ?_) (fun b u hb tb => ?_) e1 ⟨p, xs, rfl, rfl, h1, h2⟩ (fp' := [p]) ⟨p, xs', rfl, rfl, upd_same, r⟩ fun b hb => .inl hb⟩
  · rw [upd_ne (by simpa using hb)]; exact hu
  · by_cases z : b = p
    · subst z; exact ⟨_, upd_same, fun _ w => nomatch w⟩
    · exact ⟨u, by rw [upd_ne z]; exact hb, tb⟩
/-- {} whose keys will be tuples -/
theorem peo_dictT : PEo X T true (.Dict [] [] pos) (fun ρ => some (.dT [], ρ)) where
  pe := pe_dnewT.imp fun σ H Q ⟨C, ρ, G, o, ρ', S, h, k⟩ => by
    cases h
    exact fun p hp => k _ _ G ⟨S.pushNew hp ⟨p, [], rfl, rfl, upd_same, .nil⟩, Ex.refl G, fun _ => Ex.new hp⟩
  same := fun _ ρ z ρ' h => by cases h; rfl
/-- d[k] = v -/
def isOwnT : Option (Option Slot) → Bool
  | some (some (.own _ (.dT _))) => true
  | _ => false
theorem isOwnT_inv {o : Option (Option Slot)} (h : isOwnT o = true) : ∃ g l, o = some (some (.own g (.dT l))) := by
  unfold isOwnT at h
  split at h
  · exact ⟨_, _, rfl⟩
  · cases h
theorem ownT_var {C : C0} {ρ : Fenv} {σ : L2.St} {H G : Hp} {i : Nat} (S : Sta T C ρ σ H G) (h : isOwnT ρ[i]? = true) : ∃ p, σ[i]? = some (some (.ref p)) := by
  obtain ⟨g0, l0, hi0⟩ := isOwnT_inv h
  obtain ⟨p, xs0, e2, _⟩ := S.ownT hi0
  exact ⟨p, e2⟩
@[simp] def fPutT (i : Nat) (fk fv : FE) : FS := fun ρ => (fv ρ).bind fun v => if isOwnT v.2[i]? then (fk v.2).bind fun k => (keyT k.1).bind fun ks => match k.2[i]? with
  | some (some (.own g (.dT l))) => if l.length < many then some (.nx (k.2.set i (some (.own g (.dT (putG l ks v.1)))))) else none
  | _ => none
  else none
theorem psf_putT {i : Nat} {x : Str} {np sp : Pos} (hu : X.A.units + 1 < cLine) (hk : PEf X T pa a fa) (hv : PEf X T pu e f) (hN : X.N[i]? = some x := by rfl) (hvis : Vis X.env.scope x := by first | exact Or.inl rfl | exact Or.inr (Or.inl rfl) | exact Or.inr (Or.inr rfl))
    (hd : (x == ("__debug__" : Str)) = false := by decide) (hcd : (x == ("__classdict__" : Str)) = false := by decide) (hs : swapsWith e (some (.Subscript (.Name x np) a sp)) pos.line X.env = pure false := by rfl) :
    PSf X T (.Assign [.Subscript (.Name x np) a sp] e pos) (fPutT i fa f) := ⟨(ps_dput hu (pe_var hN hvis hd hcd) hk.pe hv.pe hs).imp fun D σ H ⟨C, ρ, G, out, S, hh, k⟩ => by
  obtain ⟨⟨d, ρ1⟩, e1, hh⟩ := Option.bind_eq_some_iff.mp hh
  split at hh
  · rename_i hown
    obtain ⟨⟨dk, ρ2⟩, e2, hh⟩ := Option.bind_eq_some_iff.mp hh
    obtain ⟨ks, eks, hh⟩ := Option.bind_eq_some_iff.mp hh
    refine ⟨C, ρ, G, d, ρ1, S, e1, fun y H1 G1 n1 r1 => ?_⟩
    obtain ⟨p, e3⟩ := ownT_var n1.st hown
    refine ⟨.ref p, e3, C, ρ1, G1, dk, ρ2, n1.st, e2, fun z H2 G2 n2 r2 => ?_⟩
    dsimp only at hh
    split at hh
    · rename_i g l hi
      split at hh
      · rename_i hl
        cases hh
        obtain ⟨p', xs, e4, h1, r3, fin⟩ := n2.st.ownT hi
        rw [e3] at e4
        cases e4
        obtain ⟨b, rfl, hb⟩ := keyT_rep eks r2
        exact ⟨p, _, rfl, DPut.t h1 (n2.st.gh _ _ hb) (Nat.lt_of_lt_of_le (by rw [← r3.length]; exact hl) many_le), k _ _ G2 (fin _ _ (r3.put ks (r1.mono n2.ex))) (n1.ex.trans n2.ex)⟩
      · cases hh
    · cases hh
  · cases hh⟩
/-- d[k] -/
@[simp] def fGetT (i : Nat) (fk : FE) : FE := fun ρ => if isOwnT ρ[i]? then (fk ρ).bind fun k => (keyT k.1).bind fun ks => match k.2[i]? with
  | some (some (.own _ (.dT l))) => (valG l ks).map fun d => (d, k.2)
  | _ => none
  else none
theorem pef_getT {i : Nat} {x : Str} {np : Pos} (hu : X.A.units + 1 < cLine) (hk : PEf X T pa a fa) (hN : X.N[i]? = some x := by rfl) (hvis : Vis X.env.scope x := by first | exact Or.inl rfl | exact Or.inr (Or.inl rfl) | exact Or.inr (Or.inr rfl))
    (hd : (x == ("__debug__" : Str)) = false := by decide) (hcd : (x == ("__classdict__" : Str)) = false := by decide) (hs : NoSl a := by intros _ _; rfl) :
    PEf X T pa (.Subscript (.Name x np) a pos) (fGetT i fa) where
  pe := (pe_dget hu (pe_var hN hvis hd hcd) hk.pe hs).imp fun σ H Q ⟨C, ρ, G, d, ρ', S, hh, kk⟩ => by
    unfold fGetT at hh
    split at hh
    · rename_i hown
      obtain ⟨⟨dk, ρ2⟩, e2, hh⟩ := Option.bind_eq_some_iff.mp hh
      obtain ⟨ks, eks, hh⟩ := Option.bind_eq_some_iff.mp hh
      obtain ⟨p, e3⟩ := ownT_var S hown
      refine ⟨.ref p, e3, C, ρ, G, dk, ρ2, S, e2, fun z H2 G2 n2 r2 => ?_⟩
      dsimp only at hh
      split at hh
      · rename_i g l hi
        obtain ⟨d', ed, hh⟩ := Option.map_eq_some_iff.mp hh
        cases hh
        obtain ⟨p', xs, e4, h1, r3, fin⟩ := n2.st.ownT hi
        rw [e3] at e4
        cases e4
        obtain ⟨b, rfl, hb⟩ := keyT_rep eks r2
        have q := r3.val ks
        rw [ed] at q
        obtain ⟨v, ev, rv⟩ := q
        refine ⟨p, v, rfl, ?_, kk v H2 G2 n2 rv⟩
        rw [← ev]
        exact DGet.t h1 (n2.st.gh _ _ hb)
      · cases hh
    · cases hh
  same := fun hp ρ z ρ' hh => by
    unfold fGetT at hh
    split at hh
    · obtain ⟨⟨dk, ρ2⟩, e2, hh⟩ := Option.bind_eq_some_iff.mp hh
      obtain ⟨ks, eks, hh⟩ := Option.bind_eq_some_iff.mp hh
      dsimp only at hh
      split at hh
      · obtain ⟨d', ed, hh⟩ := Option.map_eq_some_iff.mp hh
        cases hh
        exact hk.same hp _ _ _ e2
      · cases hh
    · cases hh
/-- k in d -/
@[simp] def fHasT (i : Nat) (no : Bool) (fk : FE) : FE := fun ρ => (fk ρ).bind fun k => (keyT k.1).bind fun ks => match k.2[i]? with
  | some (some (.own _ (.dT l))) => some (.bl (xor no (valG l ks).isSome), k.2)
  | _ => none
theorem hasT_same {i : Nat} {no : Bool} (h : Same1 pa fa) : Same1 pa (fHasT i no fa) := fun hp ρ z ρ' hh => by
  obtain ⟨⟨dk, ρ2⟩, e2, hh⟩ := Option.bind_eq_some_iff.mp hh
  obtain ⟨ks, eks, hh⟩ := Option.bind_eq_some_iff.mp hh
  dsimp only at hh
  split at hh
  · cases hh
    exact h hp _ _ _ e2
  · cases hh
theorem hasT_run {i : Nat} {no : Bool} {σ : L2.St} {H : Hp} {Q : VK} (hk : PEf X T pa a fa) (h : tD T pa (fHasT i no fa) σ H Q) : tD T pa fa σ H fun y H1 => ∃ x, σ[i]? = some (some x) ∧ ∃ p o, x = .ref p ∧ DGet H1 p y o ∧ Q (.bl (xor no o.isSome)) H1 := by
  obtain ⟨C, ρ, G, d, ρ', S, hh, kk⟩ := h
  obtain ⟨⟨dk, ρ2⟩, e2, hh⟩ := Option.bind_eq_some_iff.mp hh
  obtain ⟨ks, eks, hh⟩ := Option.bind_eq_some_iff.mp hh
  refine ⟨C, ρ, G, dk, ρ2, S, e2, fun z H2 G2 n2 r2 => ?_⟩
  dsimp only at hh
  split at hh
  · rename_i g l hi
    cases hh
    obtain ⟨p', xs, e4, h1, r3, fin⟩ := n2.st.ownT hi
    obtain ⟨b, rfl, hb⟩ := keyT_rep eks r2
    refine ⟨_, e4, p', valV xs ks, rfl, DGet.t h1 (n2.st.gh _ _ hb), ?_⟩
    have q := r3.val ks
    have e : (valV xs ks).isSome = (valG l ks).isSome := by
      cases z : valG l ks with
      | none => rw [z] at q; rw [q]; rfl
      | some w => rw [z] at q; obtain ⟨v, ev, _⟩ := q; rw [ev]; rfl
    rw [e]
    exact kk _ H2 G2 n2 (.bl _)
  · cases hh
theorem pef_hasT {i : Nat} {x : Str} {np : Pos} (hu : X.A.units + 1 < cLine) (hk : PEf X T pa a fa) (hN : X.N[i]? = some x := by rfl) (hvis : Vis X.env.scope x := by first | exact Or.inl rfl | exact Or.inr (Or.inl rfl) | exact Or.inr (Or.inr rfl))
    (hd : (x == ("__debug__" : Str)) = false := by decide) (hcd : (x == ("__classdict__" : Str)) = false := by decide) (hm : behindInMarks .In (.Name x np) = false := by first | exact nobehind _ (by decide) (by decide) | rfl) :
    PEf X T pa (.Compare a [.In] [.Name x np] pos) (fHasT i false fa) :=
  ⟨(pe_cmp (pc_din hu hk.pe (pe_var hN hvis hd hcd)) hm).imp fun σ H Q h => by
    obtain ⟨C, ρ, G, d, ρ', S, e, kk⟩ := hasT_run hk h
    exact ⟨C, ρ, G, d, ρ', S, e, fun v H1 G1 n r => let ⟨x, ex, p, o, e1, e2, q⟩ := kk v H1 G1 n r; ⟨x, ex, p, o, e1, e2, by simpa using q⟩⟩, hasT_same hk.same⟩
theorem pef_hasNT {i : Nat} {x : Str} {np : Pos} (hu : X.A.units + 1 < cLine) (hk : PEf X T pa a fa) (hN : X.N[i]? = some x := by rfl) (hvis : Vis X.env.scope x := by first | exact Or.inl rfl | exact Or.inr (Or.inl rfl) | exact Or.inr (Or.inr rfl))
    (hd : (x == ("__debug__" : Str)) = false := by decide) (hcd : (x == ("__classdict__" : Str)) = false := by decide) (hm : behindInMarks .NotIn (.Name x np) = false := by first | exact nobehind _ (by decide) (by decide) | rfl) :
    PEf X T pa (.Compare a [.NotIn] [.Name x np] pos) (fHasT i true fa) :=
  ⟨(pe_cmp (pc_dnotin hu hk.pe (pe_var hN hvis hd hcd)) hm).imp fun σ H Q h => by
    obtain ⟨C, ρ, G, d, ρ', S, e, kk⟩ := hasT_run hk h
    exact ⟨C, ρ, G, d, ρ', S, e, fun v H1 G1 n r => let ⟨x, ex, p, o, e1, e2, q⟩ := kk v H1 G1 n r; ⟨x, ex, p, o, e1, e2, by simpa using q⟩⟩, hasT_same hk.same⟩
theorem ptf_hasT {i : Nat} {x : Str} {np : Pos} (hu : X.A.units + 1 < cLine) (hk : PEf X T pa a fa) (hN : X.N[i]? = some x := by rfl) (hvis : Vis X.env.scope x := by first | exact Or.inl rfl | exact Or.inr (Or.inl rfl) | exact Or.inr (Or.inr rfl))
    (hd : (x == ("__debug__" : Str)) = false := by decide) (hcd : (x == ("__classdict__" : Str)) = false := by decide) (hm : behindInMarks .In (.Name x np) = false := by first | exact nobehind _ (by decide) (by decide) | rfl) :
    PTf X T pa (.Compare a [.In] [.Name x np] pos) (fTest (fHasT i false fa)) := by
  refine ptf_test ((pt_cmp (pc_din hu hk.pe (pe_var hN hvis hd hcd)) hm).imp fun σ H Q h => ?_) (hasT_same hk.same)
  obtain ⟨C, ρ, G, d, ρ', S, e, kk⟩ := hasT_run hk h
  exact ⟨C, ρ, G, d, ρ', S, e, fun v H1 G1 n r => let ⟨x, ex, p, o, e1, e2, q⟩ := kk v H1 G1 n r; ⟨x, ex, p, o, e1, e2, by simpa using q⟩⟩
theorem ptf_hasNT {i : Nat} {x : Str} {np : Pos} (hu : X.A.units + 1 < cLine) (hk : PEf X T pa a fa) (hN : X.N[i]? = some x := by rfl) (hvis : Vis X.env.scope x := by first | exact Or.inl rfl | exact Or.inr (Or.inl rfl) | exact Or.inr (Or.inr rfl))
    (hd : (x == ("__debug__" : Str)) = false := by decide) (hcd : (x == ("__classdict__" : Str)) = false := by decide) (hm : behindInMarks .NotIn (.Name x np) = false := by first | exact nobehind _ (by decide) (by decide) | rfl) :
    PTf X T pa (.Compare a [.NotIn] [.Name x np] pos) (fTest (fHasT i true fa)) := by
  refine ptf_test ((pt_cmp (pc_dnotin hu hk.pe (pe_var hN hvis hd hcd)) hm).imp fun σ H Q h => ?_) (hasT_same hk.same)
  obtain ⟨C, ρ, G, d, ρ', S, e, kk⟩ := hasT_run hk h
  exact ⟨C, ρ, G, d, ρ', S, e, fun v H1 G1 n r => let ⟨x, ex, p, o, e1, e2, q⟩ := kk v H1 G1 n r; ⟨x, ex, p, o, e1, e2, by simpa using q⟩⟩
/-- list(d) -/
def clo (H G : Hp) : Hp := fun a => match H a with
  | some (.tup xs) => some (.tup xs)
  | _ => G a
theorem stp_clo {H G : Hp} (h : Ex G H) : Stp H G H (clo H G) where
  hh := Ex.refl H
  gg := fun a o e => by
    unfold clo
    split
    · rename_i xs q
      rw [h a o e] at q
      cases q
      rfl
    · exact e
  gh := fun a o e => by
    unfold clo at e
    split at e
    · rename_i xs q
      cases e
      exact q
    · exact h a o e
  fr := fun a u e t g => by
    unfold clo
    split
    · rename_i xs q
      rw [e] at q
      cases q
      exact absurd rfl (t xs)
    · exact g
theorem keys_rep {H G : Hp} {kvs : List (List Key × D)} {xs : List (List Key × V)} {bs : List Addr} (r : KVs T G kvs xs) (q : IsKeys H xs bs) : Reps T (clo H G) (kvs.map fun kv => .tup (kv.1.map keyD)) (bs.map V.ref) := by
  induction r generalizing bs with
  | nil => cases q; exact .nil
  | @cons p1 q1 l1 l2 h r ih =>
    cases q with
    | cons h1 q =>
      refine .cons (.tup (xs := p1.1.map kV) ?_ (reps_keys p1.1)) (ih q)
      unfold clo
      rw [h1, ← h.1]
@[simp] def fKeysT (i : Nat) : FO := fun ρ => match ρ[i]? with
  | some (some (.own _ (.dT l))) => some (.lst (l.map fun kv => .tup (kv.1.map keyD)), ρ)
  | _ => none
theorem peo_keysT {i : Nat} {x : Str} {np fp : Pos} (hc : X.calm = true) (hg : Gl X "list") (hm : X.mg "list" = none) (hN : X.N[i]? = some x := by rfl) (hvis : Vis X.env.scope x := by first | exact Or.inl rfl | exact Or.inr (Or.inl rfl) | exact Or.inr (Or.inr rfl))
    (hd : (x == ("__debug__" : Str)) = false := by decide) (hcd : (x == ("__classdict__" : Str)) = false := by decide)
    (he : starEach [.Name x np] X.env = (false, eval (.Name x np) X.env) :: starEach [] X.env := by rfl) (hpl : (backTo pos (starEach [] X.env)).any (·.1) = false := by rfl) :
    PEo X T true (.Call (.Name "list" fp) [.Name x np] [] pos) (fKeysT i) where
  pe := (pe_callTy (call_list_dT hc) hg hm (by decide +kernel) (pa_cons (pe_var hN hvis hd hcd) pa_nil he) (by decide) (by decide) he hpl).imp fun σ H Q ⟨C, ρ, G, d, ρ', S, hh, kk⟩ => by
    unfold fKeysT at hh
    split at hh
    · rename_i g l hi
      cases hh
      obtain ⟨p, xs, e1, h1, r1, _⟩ := S.ownT hi
      refine ⟨.ref p, e1, p, xs, rfl, .inl h1, fun q bs hq ik => ?_⟩
      have st := stp_clo (H := H) S.gh
      exact kk _ _ (clo H G) (Nxt.push ((Nxt.refl S).stp st) hq (keys_rep r1 ik))
    · cases hh
  same := fun _ ρ z ρ' hh => by
    unfold fKeysT at hh
    split at hh
    · cases hh; rfl
    · cases hh
/-! ### a new list out of a lent one -/
def okO : O → Bool
  | .lst l => noLs l
  | _ => false
theorem peo_lend (i : Nat) {fo : FO} (h : PEo X T true e fo) : PEo X T true e (fLend i okO fo) where
  pe := h.pe.imp fun σ H Q ⟨C, ρ, G, o0, ρ', S, hh, kk⟩ => by
    unfold fLend at hh
    split at hh
    · rename_i g o1 hi
      split at hh
      · rename_i hf
        obtain ⟨⟨o, ρ2⟩, e1, hh⟩ := Option.bind_eq_some_iff.mp hh
        split at hh
        · rename_i hok
          cases hh
          obtain ⟨fp, vo, hvo, hoo, hn, hl, S', back⟩ := S.lend hi hf
          have e2 := h.same rfl _ _ _ e1
          subst e2
          refine ⟨_, _, _, o, _, S', e1, fun v H' G' n => ?_⟩
          have P := n.st.pop
          have S2 := back H' G' (n.pu rfl) n.ex P
          obtain ⟨ow, hw⟩ := n.st.own
          have ln : (ρ.set i (some (Slot.sh o1.toD))).length = ρ.length := by simp
          have ls : σ.length = ρ.length := S.len
          obtain ⟨w, fp', q1, q2, q3⟩ := hw ρ.length true o (by rw [List.getElem?_append_right (by omega), ln, Nat.sub_self]; rfl)
          rw [List.getElem?_append_right (by omega), ls, Nat.sub_self] at q1
          have q1 : v = w := by simpa using q1
          subst q1
          have gx : Ex (lessH G' fp) G' := fun b u eb => by unfold lessH at eb; split at eb; cases eb; exact eb
          have lr : ∀ ds vs, noLs ds = true → Reps T G' ds vs → Reps T (lessH G' fp) ds vs := fun ds vs hd r => r.noL (fun a u eu hn' => by
            unfold lessH
            rw [if_neg fun z => ?_]
            · exact eu
            · obtain ⟨xs, q⟩ := hl a z
              have := n.ex a (.lst xs) (by unfold frzH; rw [if_pos z]; exact q)
              rw [this] at eu
              cases eu
              exact hn' xs rfl) hd
          have own2 : OwnOk T (lessH G' fp) H' o v fp' := by
            cases o with
            | lst ds => obtain ⟨a, xs, rfl, rfl, h1, h2⟩ := q2; exact ⟨a, xs, rfl, rfl, h1, lr _ _ hok h2⟩
            | dT _ => simp [okO] at hok
            | dK _ => simp [okO] at hok
            | ll _ => simp [okO] at hok
          refine kk v H' (lessH G' fp) ⟨S2.push own2 fun b hb => ⟨?_, (q3 b hb).2.2, fun j f o' v' fp2 y1 y2 y3 hb2 => ?_⟩, fun b u eb => ?_, n.pu⟩
          · unfold lessH
            split
            · rfl
            · exact (q3 b hb).2.1
          · by_cases q : i = j
            · subst q
              rw [hi] at y1
              cases y1
              rw [hvo] at y2
              cases y2
              have gg0 : Ex G (lessH G' fp) := fun b u eb => by
                unfold lessH
                rw [if_neg fun z => by rw [hn b z] at eb; cases eb]
                exact n.ex b u (frz_ex hn b u eb)
              have hb3 : b ∈ fp := by rw [(hoo.mono gg0 fun b _ u z => n.pu rfl b u z).fpEq y3]; exact hb2
              obtain ⟨xs, q⟩ := hl b hb3
              have := n.ex b (.lst xs) (by unfold frzH; rw [if_pos hb3]; exact q)
              rw [(q3 b hb).2.1] at this
              cases this
            · have hj : j < ρ.length := (List.getElem?_eq_some_iff.mp y1).1
              obtain ⟨w2, fp3, z1, z2, z3⟩ := hw j f o' (by rw [List.getElem?_append_left (by simpa using hj), List.getElem?_set_ne q]; exact y1)
              rw [List.getElem?_append_left (by omega)] at z1
              rw [y2] at z1
              cases z1
              have := (y3.mono gx fun _ _ _ z => z).fpEq z2
              subst this
              have t1 := (z3 b hb2).1
              rw [(q3 b hb).1] at t1
              have := Option.some.inj t1
              omega
          · unfold lessH
            rw [if_neg fun z => by rw [hn b z] at eb; cases eb]
            exact n.ex b u (frz_ex hn b u eb)
        · cases hh
      · cases hh
    · cases hh
  same := lend_same
end
end Fl
end

section
set_option Elab.async false
set_option linter.all false
set_option autoImplicit false
set_option maxRecDepth 100000
set_option maxHeartbeats 2000000
namespace Fl
open PySem PySem.Spec PyProof.Rows L2

/-! ### iterators that give pairs, over lists or tuples -/
def ItP (go : Nat → Hp → Prop) (yp : Nat → Hp → V → V → Prop) (stop : Nat → Hp → Prop) : It :=
  ⟨go, fun i H v H' => ∃ T x y, v = .ref T ∧ H T = none ∧ H' = upd H T (.tup [x, y]) ∧ yp i H x y, stop⟩
theorem turn_pairs {P : Program} {w : World} {K : PySem.W.Frag} {elts : List Expr} {kk : Nat} {tpos : Pos} {go stop : Nat → Hp → Prop} {yp : Nat → Hp → V → V → Prop} {e : Addr} {own : List Addr} {tn : Nat → Heap → Prop}
    (mem : e ∈ own) (obj : ∀ i h, tn i h → ∀ b ∈ own, ∃ o, h.get? b = some o ∧ ∀ v, o.data ≠ .cell v)
    (keep : ∀ i h h', tn i h → (∀ b ∈ own, ∀ o, h.get? b = some o → h'.get? b = some o) → tn i h')
    (mk : ∀ (X : Cx), X.prog = P → X.w = w → X.K = K → X.calm = true → ∀ (i : Nat) (pins : List (Addr × Obj)) (s : Shared) (σ : L2.St) (H : Hp), Inv X pins σ H s → (∀ b ∈ own, FpOk X pins H b) → tn i s.heap → go i H →
      ∃ fpW wr n Pt St Mid, WalksT P w X.A e fpW wr n Pt St Mid ∧ i < n ∧ St i s.heap ∧ (∀ b ∈ wr, b ∈ own) ∧ (∀ h', St (i + 1) h' → tn (i + 1) h') ∧
        ∀ vals, Pt i vals → ∃ u1 u2 x y, vals = #[u1, u2] ∧ RelV x u1 ∧ RelV y u2 ∧ yp i H x y)
    (mkd : ∀ (X : Cx), X.prog = P → X.w = w → X.K = K → X.calm = true → ∀ (i : Nat) (pins : List (Addr × Obj)) (s : Shared) (σ : L2.St) (H : Hp), Inv X pins σ H s → (∀ b ∈ own, FpOk X pins H b) → tn i s.heap → stop i H →
      ∃ fpW wr n Pt St Mid, WalksT P w X.A e fpW wr n Pt St Mid ∧ St n s.heap ∧ (∀ b ∈ wr, b ∈ own))
    (self : ∀ (A : Around) (i : Nat) (s : Shared) (Q : Value → Shared → Prop) (E : Value → Shared → Prop), tn i s.heap → Q (.ref e) s → wpAny (model P w) A (pyIter (.ref e)) Q E s) :
    Turn P w K (.Tuple elts kk tpos) (ItP go yp stop) own e tn where
  mem := mem
  obj := obj
  keep := keep
  item := by
    intro X hP hw hK hc i pins s σ H E I hf st hg
    obtain ⟨fpW, wr, n, Pt, St, Mid, W, hi, hs, hwr, hnx, hv⟩ := mk X hP hw hK hc i pins s σ H I hf st hg
    refine W.item i s _ _ hi hs fun T vals h' tk hP' hle hT hM hk => ⟨_, rfl, ?_⟩
    obtain ⟨u1, u2, x, y, rfl, r1, r2, hy⟩ := hv vals hP'
    refine W.go elts kk tpos i T { s with heap := h', toks := tk } _ _ hM fun h'' st'' hk' => ?_
    have hT2 : h''.IsTuple T #[u1, u2] := hT.at fun o z => hk' T o (W.apart i T h' hM) z
    obtain ⟨o2, e2, c2, dt2, m2⟩ := hT2
    have new : ObjOk X.prog X.w (upd H T (.tup [x, y])) h'' T (.tup [x, y]) := ⟨by show 2 ≤ sizeLine; decide, [u1, u2], .cons r1 (.cons r2 .nil), ⟨o2, e2, c2, dt2, m2⟩⟩
    have hnT : H T = none := I.hok.fresh hle
    have I1 : Inv X pins σ (upd H T (.tup [x, y])) { s with heap := h'', toks := tk } :=
      I.turnedNew (ch := own) (fun b ob hb q => hk' b ob (fun z => hb (hwr b z)) (hk b ob (fun z => hb (hwr b z)) q)) hf hle new
    refine ⟨.ref T, _, I1, rfl, ⟨T, x, y, rfl, hnT, rfl, hy⟩, hnx h'' st'', fun b hb => ?_⟩
    obtain ⟨ob, eb, _⟩ := obj i s.heap st b hb
    rw [upd_ne (Nat.ne_of_lt (Nat.lt_of_lt_of_le (Heap.lt_size eb) hle))]
    exact (hf b hb).1
  done := by
    intro X hP hw hK hc i pins s σ H E I hf st hg
    obtain ⟨fpW, wr, n, Pt, St, Mid, W, hs, hwr⟩ := mkd X hP hw hK hc i pins s σ H I hf st hg
    exact W.done s _ _ hs fun h' tk hk => ⟨rfl, I.turnedL (ch := own) (fun b ob hb q => hk b ob (fun z => hb (hwr b z)) q) hf⟩
  self := self

/-! ### a list or a tuple -/
def SqB (kd : Bool) (H : Hp) (a : Addr) (xs : List V) : Prop := if kd = true then Rd H a (.lst xs) else H a = some (.tup xs)
theorem SqB.there {kd : Bool} {H : Hp} {a : Addr} {xs : List V} (q : SqB kd H a xs) : H a ≠ none := fun z => by
  cases kd with
  | true =>
    rcases (show Rd H a (.lst xs) from q) with h | ⟨o, h⟩
    · rw [z] at h; cases h
    · rw [z] at h; cases h
  | false =>
    have h : H a = some (.tup xs) := q
    rw [z] at h; cases h
theorem SqB.mono {kd : Bool} {H H' : Hp} {a : Addr} {xs : List V} (e : Ex H H') (q : SqB kd H a xs) : SqB kd H' a xs := by
  cases kd with
  | true => exact e.rd q
  | false => exact e _ _ q
theorem SqB.inj {kd : Bool} {H : Hp} {a : Addr} {xs ys : List V} (q : SqB kd H a xs) (q' : SqB kd H a ys) : ys = xs := by
  cases kd with
  | true =>
    rcases (show Rd H a (.lst xs) from q) with h | ⟨o, h⟩ <;> rcases (show Rd H a (.lst ys) from q') with h' | ⟨o', h'⟩
    · rw [h] at h'; cases h'; rfl
    · rw [h] at h'; cases h'
    · rw [h] at h'; cases h'
    · rw [h] at h'; cases h'; rfl
  | false =>
    have h : H a = some (.tup xs) := q
    have h' : H a = some (.tup ys) := q'
    rw [h] at h'; cases h'; rfl
def IsB (kd : Bool) (h : Heap) (a : Addr) (items : Array Value) : Prop := if kd = true then h.IsList a items else h.IsTuple a items
def IterB (kd : Bool) (h : Heap) (it a : Addr) (i : Nat) : Prop := if kd = true then h.IsListIter it a i else h.IsTupleIter it a i
def iterObj (kd : Bool) (a : Addr) : Obj := { cls := .type (if kd = true then "list_iterator" else "tuple_iterator"), data := .fields #[.ref a, .int 0 0] }
theorem iterB_obj {kd : Bool} {h : Heap} {it a : Addr} {i : Nat} (x : IterB kd h it a i) : ∃ o, h.get? it = some o ∧ ∀ v, o.data ≠ .cell v := by
  cases kd with
  | true => obtain ⟨o, e, c, d⟩ := (show h.IsListIter it a i from x); exact ⟨o, e, fun v z => by rw [d] at z; cases z⟩
  | false => obtain ⟨o, e, c, d⟩ := (show h.IsTupleIter it a i from x); exact ⟨o, e, fun v z => by rw [d] at z; cases z⟩
theorem iterB_at {kd : Bool} {h h' : Heap} {it a : Addr} {i : Nat} (x : IterB kd h it a i) (k : ∀ o, h.get? it = some o → h'.get? it = some o) : IterB kd h' it a i := by
  cases kd with
  | true => exact Heap.IsListIter.at (show h.IsListIter it a i from x) k
  | false => exact Heap.IsTupleIter.at (show h.IsTupleIter it a i from x) k
theorem iterB_new {kd : Bool} {h : Heap} {it a : Addr} (e : h.get? it = some (iterObj kd a)) : IterB kd h it a 0 := by
  cases kd with
  | true => exact ⟨_, e, rfl, rfl⟩
  | false => exact ⟨_, e, rfl, rfl⟩
theorem begins_B (kd : Bool) (a : Addr) (items : Array Value) : Begins (.ref a) (iterObj kd a) fun h => IsB kd h a items := by
  cases kd with
  | true => exact begins_list a items
  | false => exact begins_tuple a items
theorem draws_B {prog : Program} {w : World} {A : Around} (kd : Bool) (hh : A.handled = none) (it a : Addr) (hne : a ≠ it) (items : Array Value) :
    Draws prog w A it [it, a] items.size (fun i v => items[i]? = some v) (fun i h => IterB kd h it a i ∧ IsB kd h a items) := by
  cases kd with
  | true => exact Draws.list hh it a hne items
  | false => exact Draws.tuple hh it a hne items
theorem seqB {X : Cx} {pins : List (Addr × Obj)} {σ : L2.St} {H : Hp} {s : Shared} {kd : Bool} {a : Addr} {xs : List V} (I : Inv X pins σ H s) (q : SqB kd H a xs) : ∃ its : List Value, Vals xs its ∧ IsB kd s.heap a its.toArray ∧ (∃ o, s.heap.get? a = some o) := by
  cases kd with
  | true =>
    obtain ⟨its, rv, p, hz⟩ := I.list (show SqL X.K H a xs from .inl q)
    exact ⟨its, rv, p.isList, let ⟨o, ho, _⟩ := p.isList; ⟨o, ho⟩⟩
  | false =>
    obtain ⟨its, rv, p, hz⟩ := I.tuple (show SqT X.K H a xs from .inl (.inl q))
    exact ⟨its, rv, p, let ⟨o, ho, _⟩ := p; ⟨o, ho⟩⟩

/-! ### enumerate -/
set_option maxHeartbeats 1000000 in
theorem meets_enumerate_new1 {v : Value} {o : Obj} {H : Heap → Prop} (B : Begins v o H) :
    Meets (Builtin.«enumerate.__new__» ⟨[.type "enumerate", v], []⟩) (fun _ R s => H s.heap ∧
      R (.ok (.ret (.ref (s.heap.push o).objs.size))) { s with heap := (s.heap.push o).push { cls := .type "enumerate", data := .fields #[.none, .bool false, .ref s.heap.objs.size, rawInt 0, .none, .none] } }) :=
  .of_wp fun prog w A R s h => by
    obtain ⟨hp, g, d, tk, os⟩ := s; obtain ⟨h1, h⟩ := h
    have hsub := sub_enumerate
    have q1 : ∀ {A' : Around} {E : Value → Shared → Prop} {Q : Value → Shared → Prop}, Q (.ref hp.objs.size) ⟨hp.push o, g, d, tk, os⟩ → wpAny (model prog w) A' (pyIter v) Q E ⟨hp, g, d, tk, os⟩ :=
      fun q => B.iter prog w _ _ ⟨hp, g, d, tk, os⟩ _ h1 q
    wp_walk using q1
    refine wpAny_stack_any fun st => wpAny_pure ?_
    split
    · rename_i c _ _ _ _ _
      cases (c == Value.type "enumerate")
      · wp_walk using q1
        exact ⟨_, rfl, h⟩
      · wp_walk using q1
        exact ⟨_, rfl, h⟩
    · wp_walk using q1
      exact ⟨_, rfl, h⟩
theorem enum_begins1 {prog : Program} {w : World} {A : Around} {E : Value → Shared → Prop} {s : Shared} {v : Value} {o : Obj} {H : Heap → Prop} {Q : Value → Shared → Prop} (B : Begins v o H) (h1 : H s.heap)
    (h : ∀ h', IsEnum h' (s.heap.objs.size + 1) s.heap.objs.size 0 .none → h'.get? s.heap.objs.size = some o → h'.objs.size = s.heap.objs.size + 2 →
      (∀ b o, s.heap.get? b = some o → h'.get? b = some o) → Q (.ref (s.heap.objs.size + 1)) { s with heap := h' }) :
    wpAny (model prog w) A (call (.type "enumerate") [v]) Q E s := by
  refine callType_new F.called_enumerate (by decide) (F.typeCall_enumerate_1 _) (F.newCall_enumerate_1 _) (fun obj => F.args_object_init_2 obj _) F.entry_enumerate_new
    (meets_enumerate_new1 B) ⟨h1, ?_⟩
  have hz : (s.heap.push o).objs.size = s.heap.objs.size + 1 := Heap.size_push ..
  show _ ∧ _
  rw [hz]
  have he : IsEnum ((s.heap.push o).push { cls := .type "enumerate", data := .fields #[.none, .bool false, .ref s.heap.objs.size, rawInt 0, .none, .none] }) (s.heap.objs.size + 1) s.heap.objs.size 0 .none := by
    have := Heap.get?_push_size (s.heap.push o) (o := { cls := .type "enumerate", data := .fields #[.none, .bool false, .ref s.heap.objs.size, rawInt 0, .none, .none] }) rfl
    rw [hz] at this; exact this
  refine ⟨⟨_, he, rfl⟩, h _ he (Heap.get?_push_of_some _ (Heap.get?_push_size _ B.free)) (by rw [Heap.size_push, hz]) fun b o x => Heap.get?_push_of_some _ (Heap.get?_push_of_some _ x)⟩
def IteB (kd : Bool) (a : Addr) : It :=
  ItP (fun i H => ∃ (xs : List V) (x : V), SqB kd H a xs ∧ xs[i]? = some x) (fun i H x y => x = .int (i : Nat) ∧ ∀ xs, SqB kd H a xs → xs[i]? = some y) (fun i H => ∃ xs : List V, SqB kd H a xs ∧ xs.length = i)
theorem turn_enumB {P : Program} {w : World} {K : PySem.W.Frag} {elts : List Expr} {kk : Nat} {tpos : Pos} (kd : Bool) (a e it : Addr) (ne : e ≠ it) :
    Turn P w K (.Tuple elts kk tpos) (IteB kd a) [e, it] e (fun i h => (∃ old, IsEnum h e it ((i : Nat) : Int) old) ∧ IterB kd h it a i) := by
  refine turn_pairs (by simp) (fun i h st b hb => ?_) (fun i h h' st k => ?_) (fun X hP hw hK hc i pins s σ H I hf st hg => ?_) (fun X hP hw hK hc i pins s σ H I hf st hg => ?_) fun A i s Q E st h => let ⟨⟨_, he⟩, _⟩ := st; wpAny_pyIter_enum he h
  · obtain ⟨⟨old, he⟩, hi⟩ := st
    have e' : b = e ∨ b = it := by simpa using hb
    rcases e' with z | z
    · rw [z]; exact ⟨_, he, fun v q => nomatch q⟩
    · rw [z]; exact iterB_obj hi
  · obtain ⟨⟨old, he⟩, hi⟩ := st
    exact ⟨⟨old, k e (by simp) _ he⟩, iterB_at hi fun o q => k it (by simp) o q⟩
  · subst hP hw hK
    obtain ⟨xs, x, hq, hx⟩ := hg
    obtain ⟨its, rv, p, ⟨oa, hoa⟩⟩ := seqB I hq
    have na : ∀ b ∈ [e, it], a ≠ b := fun b hb z => hq.there (z ▸ (hf b hb).1)
    refine ⟨_, _, _, _, _, _, WalksT.enumerateD (draws_B kd (show X.A.in1.handled = none from I.ok.hd hc) it a (na it (by simp)) its.toArray) e ne (by simpa using ⟨ne, fun z => na e (by simp) z.symm⟩) (by simp), ?_, ⟨st.1, st.2, p⟩, fun b hb => hb, fun h' st' => ⟨st'.1, st'.2.1⟩, fun vals hv => ?_⟩
    · have := rv.length
      have := (List.getElem?_eq_some_iff.mp hx).1
      simp
      omega
    · obtain ⟨t, u, hu, rfl⟩ := hv
      obtain ⟨u', hu', ru⟩ := rv.get hx
      have : u = u' := by
        have z : its[i]? = some u := by simpa using hu
        rw [hu'] at z
        exact (Option.some.inj z).symm
      subst this
      exact ⟨_, _, .int (i : Nat), x, rfl, ⟨t, rfl⟩, ru, rfl, fun ys hy => by rw [hq.inj hy]; exact hx⟩
  · subst hP hw hK
    obtain ⟨xs, hq, hx⟩ := hg
    obtain ⟨its, rv, p, ⟨oa, hoa⟩⟩ := seqB I hq
    have na : ∀ b ∈ [e, it], a ≠ b := fun b hb z => hq.there (z ▸ (hf b hb).1)
    have hn : its.toArray.size = i := by have := rv.length; simp; omega
    refine ⟨_, _, _, _, _, _, WalksT.enumerateD (draws_B kd (show X.A.in1.handled = none from I.ok.hd hc) it a (na it (by simp)) its.toArray) e ne (by simpa using ⟨ne, fun z => na e (by simp) z.symm⟩) (by simp), ?_, fun b hb => hb⟩
    rw [hn]
    exact ⟨st.1, st.2, p⟩
def iEnumB (ta : TA) : TI := fun σ H R => ta σ H fun vs H1 => ∃ kd a xs, vs = [.ref a] ∧ SqB kd H1 a xs ∧ R (IteB kd a) H1
theorem pi_enumB {X : Cx} {e : Expr} {ta : TA} {p pos tpos : Pos} {elts : List Expr} {kk : Nat} (hm : X.mg "enumerate" = none) (ha : PA X [e] ta) (hg : Gl X "enumerate" := by rfl) (hs : starEach [e] X.env = [(false, eval e X.env)] := by rfl) :
    PI X (.Tuple elts kk tpos) (.Call (.Name "enumerate" p) [e] [] pos) (iEnumB ta) := by
  refine ⟨fun pins s σ H R I h => ?_⟩
  refine Call_ (ld_blt I hg hm boot_enumerate (PyProof.Rows.callWith_type1 (thn (ha.run pos pins s σ H _ I h) fun us s1 ⟨vs, H1, I1, r1, q1⟩ => ?_) hs rfl))
  obtain ⟨kd, a, xs, ex, hq, q⟩ := q1
  subst ex
  cases r1 with
  | cons r rr =>
    cases rr
    cases r
    obtain ⟨its, rv, p', _⟩ := seqB I1 hq
    refine enum_begins1 (begins_B kd a its.toArray) p' fun h' he hit hsz hk => wpAny_pyIter_enum he ?_
    have I2 : Inv X pins σ H1 { s1 with heap := h' } := I1.kept (t' := s1.toks) hk
    refine ⟨s1.heap.objs.size + 1, [s1.heap.objs.size + 1, s1.heap.objs.size], _, _, H1, rfl, I2, turn_enumB kd a (s1.heap.objs.size + 1) s1.heap.objs.size (Nat.succ_ne_self _), ⟨⟨.none, he⟩, iterB_new hit⟩, fun b hb => ?_, q⟩
    have e' : b = s1.heap.objs.size + 1 ∨ b = s1.heap.objs.size := by simpa using hb
    have hle : s1.heap.objs.size ≤ b := by
      rcases e' with z | z
      · rw [z]; exact Nat.le_add_right _ _
      · rw [z]; exact Nat.le_refl _
    exact I1.fpOk hle (I1.hok.fresh hle)

/-! ### zip -/
def ItzB (kd kd2 : Bool) (a b : Addr) : It :=
  ItP (fun i H => ∃ (xs ys : List V) (x y : V), SqB kd H a xs ∧ SqB kd2 H b ys ∧ xs[i]? = some x ∧ ys[i]? = some y) (fun i H x y => (∀ xs, SqB kd H a xs → xs[i]? = some x) ∧ ∀ ys, SqB kd2 H b ys → ys[i]? = some y)
    (fun i H => ∃ xs ys : List V, SqB kd H a xs ∧ SqB kd2 H b ys ∧ min xs.length ys.length = i)
def zipOwn (N : Nat) : List Addr := [N + 4, N + 2, N + 3, N, N + 1]
theorem zipOwn_le {N : Nat} {b : Addr} (h : b ∈ zipOwn N) : N ≤ b := by
  have e' : b = N + 4 ∨ b = N + 2 ∨ b = N + 3 ∨ b = N ∨ b = N + 1 := by simpa [zipOwn] using h
  rcases e' with z | z | z | z | z
  · rw [z]; exact Nat.le_add_right _ _
  · rw [z]; exact Nat.le_add_right _ _
  · rw [z]; exact Nat.le_add_right _ _
  · rw [z]; exact Nat.le_refl _
  · rw [z]; exact Nat.le_add_right _ _
theorem zip_sepB {N : Nat} {a b : Addr} (ha : ∀ c ∈ zipOwn N, a ≠ c) (hb : ∀ c ∈ zipOwn N, b ≠ c) : ZipSep2 (N + 4) (N + 2) (N + 3) N (N + 1) [N, a] [N + 1, b] := by
  have q1 : ∀ k : Nat, (N + 4 : Nat) ≠ N := fun _ => by omega
  refine { TIz := show (N + 2 : Nat) ≠ N + 4 by omega, TOz := show (N + 3 : Nat) ≠ N + 4 by omega, TITO := show (N + 2 : Nat) ≠ N + 3 by omega, TIi1 := show (N + 2 : Nat) ≠ N by omega, mem1 := List.mem_cons_self .., zf1 := ?_, Tf1 := ?_, TIi2 := show (N + 2 : Nat) ≠ N + 1 by omega, mem2 := List.mem_cons_self .., zf2 := ?_, Tf2 := ?_, sep1_2 := ?_, sep2_1 := ?_ }
  all_goals
    intro hm
    rcases List.mem_cons.mp hm with z | z
    · first
        | exact absurd (show (N + 4 : Nat) = N from z) (by omega)
        | exact absurd (show (N + 3 : Nat) = N from z) (by omega)
        | exact absurd (show (N + 4 : Nat) = N + 1 from z) (by omega)
        | exact absurd (show (N + 3 : Nat) = N + 1 from z) (by omega)
        | exact absurd (show (N : Nat) = N + 1 from z) (by omega)
        | exact absurd (show (N + 1 : Nat) = N from z) (by omega)
    · have z := (List.mem_singleton.mp z).symm
      first
        | exact ha _ (by simp [zipOwn]) z
        | exact hb _ (by simp [zipOwn]) z
theorem turn_zipB {P : Program} {w : World} {K : PySem.W.Frag} {elts : List Expr} {kk : Nat} {tpos : Pos} (kd kd2 : Bool) (a b : Addr) (N : Nat) :
    Turn P w K (.Tuple elts kk tpos) (ItzB kd kd2 a b) (zipOwn N) (N + 4) (fun i h => IsZip h (N + 4) (N + 2) (N + 3) .none ∧ IsTupOf2 h (N + 2) (.ref N) (.ref (N + 1)) ∧ (∃ x y, IsTupOf2 h (N + 3) x y) ∧ IterB kd h N a i ∧ IterB kd2 h (N + 1) b i) := by
  refine turn_pairs (by simp [zipOwn]) (fun i h st c hc => ?_) (fun i h h' st k => ?_) (fun X hP hw hK hc i pins s σ H I hf st hg => ?_) (fun X hP hw hK hc i pins s σ H I hf st hg => ?_) fun A i s Q E st h => wpAny_pyIter_zip st.1 h
  · obtain ⟨hz, hTI, ⟨x, y, hTO⟩, h1, h2⟩ := st
    have e' : c = N + 4 ∨ c = N + 2 ∨ c = N + 3 ∨ c = N ∨ c = N + 1 := by simpa [zipOwn] using hc
    rcases e' with q | q | q | q | q
    · rw [q]; exact ⟨_, hz, fun v q => nomatch q⟩
    · rw [q]; exact ⟨_, hTI, fun v q => nomatch q⟩
    · rw [q]; exact ⟨_, hTO, fun v q => nomatch q⟩
    · rw [q]; exact iterB_obj h1
    · rw [q]; exact iterB_obj h2
  · obtain ⟨hz, hTI, ⟨x, y, hTO⟩, h1, h2⟩ := st
    exact ⟨k _ (by simp [zipOwn]) _ hz, k _ (by simp [zipOwn]) _ hTI, ⟨x, y, k _ (by simp [zipOwn]) _ hTO⟩, iterB_at h1 fun o q => k _ (by simp [zipOwn]) o q, iterB_at h2 fun o q => k _ (by simp [zipOwn]) o q⟩
  · subst hP hw hK
    obtain ⟨xs, ys, x, y, hq, hq2, hx, hy⟩ := hg
    obtain ⟨its, rv, p, _⟩ := seqB I hq
    obtain ⟨its2, rv2, p2, _⟩ := seqB I hq2
    have na : ∀ c ∈ zipOwn N, a ≠ c := fun c hc' z => hq.there (z ▸ (hf c hc').1)
    have nb : ∀ c ∈ zipOwn N, b ≠ c := fun c hc' z => hq2.there (z ▸ (hf c hc').1)
    refine ⟨_, _, _, _, _, _, WalksT.zipD2 (zip_sepB na nb) (draws_B kd (show X.A.in1.handled = none from I.ok.hd hc) N a (na N (by simp [zipOwn])) its.toArray) (draws_B kd2 (show X.A.in1.handled = none from I.ok.hd hc) (N + 1) b (nb (N + 1) (by simp [zipOwn])) its2.toArray), ?_, ⟨st.1, st.2.1, st.2.2.1, ⟨st.2.2.2.1, p⟩, ⟨st.2.2.2.2, p2⟩⟩, fun c hc' => ?_, fun h' st' => ⟨st'.1, st'.2.1, st'.2.2.1, st'.2.2.2.1.1, st'.2.2.2.2.1⟩, fun vals hv => ?_⟩
    · have := rv.length
      have := rv2.length
      have := (List.getElem?_eq_some_iff.mp hx).1
      have := (List.getElem?_eq_some_iff.mp hy).1
      simp
      omega
    · have e' : c = N + 4 ∨ c = N + 3 ∨ c = N ∨ c = N + 1 := by simpa using hc'
      rcases e' with q | q | q | q <;> rw [q] <;> simp [zipOwn]
    · obtain ⟨u, u2, hu, hu2, rfl⟩ := hv
      obtain ⟨u', hu', ru⟩ := rv.get hx
      obtain ⟨u2', hu2', ru2⟩ := rv2.get hy
      have e1 : u = u' := by
        have z : its[i]? = some u := by simpa using hu
        rw [hu'] at z
        exact (Option.some.inj z).symm
      have e2 : u2 = u2' := by
        have z : its2[i]? = some u2 := by simpa using hu2
        rw [hu2'] at z
        exact (Option.some.inj z).symm
      subst e1 e2
      exact ⟨_, _, x, y, rfl, ru, ru2, fun l hl => by rw [hq.inj hl]; exact hx, fun l hl => by rw [hq2.inj hl]; exact hy⟩
  · subst hP hw hK
    obtain ⟨xs, ys, hq, hq2, hx⟩ := hg
    obtain ⟨its, rv, p, _⟩ := seqB I hq
    obtain ⟨its2, rv2, p2, _⟩ := seqB I hq2
    have na : ∀ c ∈ zipOwn N, a ≠ c := fun c hc' z => hq.there (z ▸ (hf c hc').1)
    have nb : ∀ c ∈ zipOwn N, b ≠ c := fun c hc' z => hq2.there (z ▸ (hf c hc').1)
    have hn : min its.toArray.size its2.toArray.size = i := by have := rv.length; have := rv2.length; simp; omega
    refine ⟨_, _, _, _, _, _, WalksT.zipD2 (zip_sepB na nb) (draws_B kd (show X.A.in1.handled = none from I.ok.hd hc) N a (na N (by simp [zipOwn])) its.toArray) (draws_B kd2 (show X.A.in1.handled = none from I.ok.hd hc) (N + 1) b (nb (N + 1) (by simp [zipOwn])) its2.toArray), ?_, fun c hc' => ?_⟩
    · rw [hn]
      exact ⟨st.1, st.2.1, st.2.2.1, ⟨st.2.2.2.1, p⟩, ⟨st.2.2.2.2, p2⟩⟩
    · have e' : c = N + 4 ∨ c = N + 3 ∨ c = N ∨ c = N + 1 := by simpa using hc'
      rcases e' with q | q | q | q <;> rw [q] <;> simp [zipOwn]
def iZipB (ta : TA) : TI := fun σ H R => ta σ H fun vs H1 => ∃ kd kd2 a b xs ys, vs = [.ref a, .ref b] ∧ SqB kd H1 a xs ∧ SqB kd2 H1 b ys ∧ R (ItzB kd kd2 a b) H1
theorem pi_zipB {X : Cx} {e e2 : Expr} {ta : TA} {p pos tpos : Pos} {elts : List Expr} {kk : Nat} (hm : X.mg "zip" = none) (ha : PA X [e, e2] ta) (hg : Gl X "zip" := by rfl)
    (hs : starEach [e, e2] X.env = (false, eval e X.env) :: starEach [e2] X.env := by rfl) (hpl : (backTo pos (starEach [e2] X.env)).any (·.1) = false := by rfl) :
    PI X (.Tuple elts kk tpos) (.Call (.Name "zip" p) [e, e2] [] pos) (iZipB ta) := by
  refine ⟨fun pins s σ H R I h => ?_⟩
  refine Call_ (ld_blt I hg hm PyProof.Rows.boot_zip (PyProof.Rows.callWith_type1 (thn (ha.run pos pins s σ H _ I h) fun us s1 ⟨vs, H1, I1, r1, q1⟩ => ?_) hs hpl))
  obtain ⟨kd, kd2, a, b, xs, ys, ex, hq, hq2, q⟩ := q1
  subst ex
  cases r1 with
  | cons r rr =>
    cases rr with
    | cons r' rr =>
      cases rr
      cases r
      cases r'
      obtain ⟨its, rv, p', _⟩ := seqB I1 hq
      obtain ⟨its2, rv2, p2', _⟩ := seqB I1 hq2
      refine zip_begins2 (begins_B kd a its.toArray) (begins_B kd2 b its2.toArray) p' p2' fun h' hz hTI hTO h1 h2 hsz hk => wpAny_pyIter_zip hz ?_
      have I2 : Inv X pins σ H1 { s1 with heap := h' } := I1.kept (t' := s1.toks) hk
      exact ⟨s1.heap.objs.size + 4, zipOwn s1.heap.objs.size, _, _, H1, rfl, I2, turn_zipB kd kd2 a b s1.heap.objs.size, ⟨hz, hTI, ⟨_, _, hTO⟩, iterB_new h1, iterB_new h2⟩, fun c hc => I1.fpOk (zipOwn_le hc) (I1.hok.fresh (zipOwn_le hc)), q⟩
end Fl
end

section
set_option Elab.async false
set_option linter.all false
set_option autoImplicit false
set_option maxRecDepth 100000
set_option maxHeartbeats 2000000
namespace Fl
open PySem PySem.Spec PyProof.Rows L2

/-! ### what is walked -/
def WkD (T : Tab) (J : It) (ds : List D) (G : Hp) : Prop := ∃ Y, Walk J ds.length (fun H => Ex G H) Y ∧ ∀ i H x H' G1, Ex G G1 → Ex G1 H → Y i H x H' → ∃ d G2, ds[i]? = some d ∧ Stp H G1 H' G2 ∧ Rep T G2 d x
def tIt (T : Tab) (pu : Bool) (f : FA) : TI := fun σ H R => ∃ C ρ G ds ρ', Sta T C ρ σ H G ∧ f ρ = some (ds, ρ') ∧ ∀ J H1 G1, Nxt T C ρ' σ pu H G H1 G1 → WkD T J ds G1 → R J H1
structure PIf (X : Cx) (T : Tab) (pu : Bool) (tg iter : Expr) (f : FA) : Prop where
  pi : PI X tg iter (tIt T pu f)
  same : Same1 pu f
theorem _root_.L2.PI.imp {X : Cx} {tg iter : Expr} {t t' : TI} (h : PI X tg iter t) (k : ∀ σ H R, t' σ H R → t σ H R) : PI X tg iter t' := ⟨fun pins s σ H R I q => h.run pins s σ H R I (k σ H R q)⟩
theorem _root_.L2.PG.imp {X : Cx} {tg : Expr} {t t' : TG} (h : PG X tg t) (k : ∀ v σ H Q, t' v σ H Q → t v σ H Q) : PG X tg t' := ⟨fun pins s σ H v u Q I r q => h.run pins s σ H v u Q I r (k v σ H Q q)⟩
theorem _root_.L2.PGs.imp {X : Cx} {tg : List Expr} {t t' : TGs} (h : PGs X tg t) (k : ∀ v σ H Q, t' v σ H Q → t v σ H Q) : PGs X tg t' := ⟨fun pins s σ H v u Q I r q => h.run pins s σ H v u Q I r (k v σ H Q q)⟩
/-- a list or a tuple -/
def iSeq (tl : TE) : TI := fun σ H R => tl σ H fun x H1 => ∃ a xs, x = .ref a ∧ ((SqB true H1 a xs ∧ ∀ K, R (Itl K a) H1) ∨ (SqB false H1 a xs ∧ ∀ K, R (Itt K a) H1))
theorem pi_seq {X : Cx} {tg l : Expr} {tl : TE} (hl : PE X l tl) : PI X tg l (iSeq tl) := by
  refine ⟨fun pins s σ H R I h => ?_⟩
  refine thn (hl.run pins s σ H _ I h) fun v s1 ⟨x, H1, I1, r1, q1⟩ => ?_
  obtain ⟨a, xs, e, q1⟩ := q1
  subst e
  cases r1
  rcases q1 with ⟨hq, q⟩ | ⟨hq, q⟩
  · obtain ⟨its, rv, p, hz⟩ := I1.list (show SqL X.K H1 a xs from .inl hq)
    refine wpAny_pyIter_list p.isList ?_
    refine ⟨s1.heap.objs.size, [s1.heap.objs.size], _, _, H1, rfl, I1.kept (t' := s1.toks) fun b o e => Heap.get?_push_of_some _ e, turn_list a _, ⟨_, Heap.get?_push_size _ rfl, rfl, rfl⟩, fun b hb => ?_, q X.K⟩
    have e : b = s1.heap.objs.size := by simpa using hb
    subst e
    exact I1.fpOk (Nat.le_refl _) (I1.hok.fresh (Nat.le_refl _))
  · obtain ⟨its, rv, p, hz⟩ := I1.tuple (show SqT X.K H1 a xs from .inl (.inl hq))
    refine wpAny_pyIter_tuple (show s1.heap.IsTuple a its.toArray from p) ?_
    refine ⟨s1.heap.objs.size, [s1.heap.objs.size], _, _, H1, rfl, I1.kept (t' := s1.toks) fun b o e => Heap.get?_push_of_some _ e, turn_tuple a _, ⟨_, Heap.get?_push_size _ rfl, rfl, rfl⟩, fun b hb => ?_, q X.K⟩
    have e : b = s1.heap.objs.size := by simpa using hb
    subst e
    exact I1.fpOk (Nat.le_refl _) (I1.hok.fresh (Nat.le_refl _))
@[simp] def dSeq : D → Option (List D)
  | .lst l => some l
  | .tup l => some l
  | _ => none
theorem seq_rep {T : Tab} {G : Hp} {d : D} {l : List D} {v : V} (h : dSeq d = some l) (r : Rep T G d v) : ∃ kd a xs, v = .ref a ∧ SqB kd G a xs ∧ Reps T G l xs := by
  cases r with
  | lst h1 r1 => cases h; exact ⟨true, _, _, rfl, .inl h1, r1⟩
  | tup h1 r1 => cases h; exact ⟨false, _, _, rfl, h1, r1⟩
  | _ => cases h
section
variable {X : Cx} {T : Tab} {pu pa pb : Bool} {tg e a b : Expr} {f fa : FE} {fs : FA} {p pos tpos : Pos}
theorem wk_list {K : PySem.W.Frag} {G : Hp} {a : Addr} {xs : List V} {l : List D} (q : SqB true G a xs) (r : Reps T G l xs) : WkD T (Itl K a) l G := by
  refine ⟨YAt xs, ?_, fun i H x H' G1 e1 e2 y => ?_⟩
  · rw [r.length]
    exact walk_list.mono (fun H e => .inl (e.rd q)) fun _ _ _ _ _ _ y => y
  · obtain ⟨rfl, y⟩ := y
    obtain ⟨d, hd, rd⟩ := r.get' y
    exact ⟨d, G1, hd, Stp.refl e2, rd.mono e1⟩
theorem wk_tup {K : PySem.W.Frag} {G : Hp} {a : Addr} {xs : List V} {l : List D} (q : SqB false G a xs) (r : Reps T G l xs) : WkD T (Itt K a) l G := by
  refine ⟨YAt xs, ?_, fun i H x H' G1 e1 e2 y => ?_⟩
  · rw [r.length]
    exact walk_tup.mono (fun H e => .inl (.inl (e _ _ q))) fun _ _ _ _ _ _ y => y
  · obtain ⟨rfl, y⟩ := y
    obtain ⟨d, hd, rd⟩ := r.get' y
    exact ⟨d, G1, hd, Stp.refl e2, rd.mono e1⟩
theorem un_same {α : Type} {g : D → Option α} (h : Same1 pa fa) : Same1 pa (fUn g fa) := fun hp ρ z ρ' hh => by
  obtain ⟨⟨dx, ρ1⟩, e1, hh⟩ := Option.bind_eq_some_iff.mp hh
  obtain ⟨z', e3, hh⟩ := Option.map_eq_some_iff.mp hh
  cases hh
  exact h hp _ _ _ e1
theorem pif_seq (h : PEf X T pa e fa) : PIf X T pa tg e (fUn dSeq fa) where
  pi := (pi_seq h.pe).imp fun σ H R ⟨C, ρ, G, ds, ρ', S, hh, k⟩ => by
    obtain ⟨⟨dx, ρ1⟩, e1, hh⟩ := Option.bind_eq_some_iff.mp hh
    obtain ⟨z', e3, hh⟩ := Option.map_eq_some_iff.mp hh
    cases hh
    refine ⟨C, ρ, G, dx, ρ1, S, e1, fun x H1 G1 n1 r1 => ?_⟩
    obtain ⟨kd, a, xs, rfl, q, rr⟩ := seq_rep e3 r1
    refine ⟨a, xs, rfl, ?_⟩
    cases kd with
    | true => exact .inl ⟨q.mono n1.st.gh, fun K => k _ _ _ n1 (wk_list q rr)⟩
    | false => exact .inr ⟨q.mono n1.st.gh, fun K => k _ _ _ n1 (wk_tup q rr)⟩
  same := un_same h.same
def small (i : Int) : Bool := decide (-1000000000000000000 ≤ i ∧ i < 1000000000000000000)
theorem small_lt {i : Int} (h : small i = true) : -(2 ^ 62) ≤ i ∧ i < 2 ^ 62 := by
  have h := of_decide_eq_true h
  omega
def rngL (lo : Int) (n : Nat) : List D := (List.range n).map fun i => .int (lo + (i : Nat))
@[simp] def dRng1 : List D → Option (List D)
  | [.int j] => if small j then some (rngL 0 j.toNat) else none
  | _ => none
@[simp] def dRng2 : List D → Option (List D)
  | [.int i, .int j] => if small i && small j then some (rngL i (j - i).toNat) else none
  | _ => none
theorem dRng1_inv {l r : List D} (h : dRng1 l = some r) : ∃ j, l = [.int j] ∧ small j = true ∧ r = rngL 0 j.toNat := by
  unfold dRng1 at h
  split at h
  · split at h
    · rename_i hj; cases h; exact ⟨_, rfl, hj, rfl⟩
    · cases h
  · cases h
theorem dRng2_inv {l r : List D} (h : dRng2 l = some r) : ∃ i j, l = [.int i, .int j] ∧ (small i = true ∧ small j = true) ∧ r = rngL i (j - i).toNat := by
  unfold dRng2 at h
  split at h
  · split at h
    · rename_i hj; cases h; exact ⟨_, _, rfl, by simpa using hj, rfl⟩
    · cases h
  · cases h
theorem rngL_get {lo : Int} {n i : Nat} (h : i < n) : (rngL lo n)[i]? = some (.int (lo + (i : Nat))) := by
  unfold rngL
  rw [List.getElem?_map, List.getElem?_range h]
  rfl
theorem rngL_len {lo : Int} {n : Nat} : (rngL lo n).length = n := by simp [rngL]
theorem wk_rng {lo : Int} {n : Nat} {G : Hp} : WkD T (Itr lo n) (rngL lo n) G := by
  refine ⟨fun i H x H' => i < n ∧ H' = H ∧ x = .int (lo + (i : Nat)), ?_, fun i H x H' G1 e1 e2 y => ?_⟩
  · rw [rngL_len]
    exact walk_range.mono (fun _ _ => True.intro) fun _ _ _ _ hi _ y => ⟨hi, y⟩
  · obtain ⟨hi, rfl, rfl⟩ := y
    exact ⟨_, G1, rngL_get hi, Stp.refl e2, .int _⟩
theorem pif_range1 (hm : X.mg "range" = none) (h : PAf X T pa [a] fs) (hg : Gl X "range" := by rfl) (hs : starEach [a] X.env = [(false, eval a X.env)] := by rfl) : PIf X T pa tg (.Call (.Name "range" p) [a] [] pos) (fArgs dRng1 fs) where
  pi := (pi_range1 hg hm h.pa hs).imp fun σ H R ⟨C, ρ, G, ds, ρ', S, hh, k⟩ => by
    obtain ⟨⟨dx, ρ1⟩, e1, hh⟩ := Option.bind_eq_some_iff.mp hh
    obtain ⟨z', e3, hh⟩ := Option.map_eq_some_iff.mp hh
    cases hh
    refine ⟨C, ρ, G, dx, ρ1, S, e1, fun xs H1 G1 n1 r1 => ?_⟩
    obtain ⟨j, rfl, hj, rfl⟩ := dRng1_inv e3
    cases r1 with
    | cons r rr =>
      cases rr
      cases r
      have := small_lt hj
      exact ⟨j, rfl, this.1, this.2, k _ _ _ n1 wk_rng⟩
  same := args_same h.same
theorem pif_range2 (hm : X.mg "range" = none) (h : PAf X T pa [a, b] fs) (hg : Gl X "range" := by rfl) (hs : starEach [a, b] X.env = [(false, eval a X.env), (false, eval b X.env)] := by rfl) (hs2 : starEach [b] X.env = [(false, eval b X.env)] := by rfl) :
    PIf X T pa tg (.Call (.Name "range" p) [a, b] [] pos) (fArgs dRng2 fs) where
  pi := (pi_range2 hg hm h.pa hs hs2).imp fun σ H R ⟨C, ρ, G, ds, ρ', S, hh, k⟩ => by
    obtain ⟨⟨dx, ρ1⟩, e1, hh⟩ := Option.bind_eq_some_iff.mp hh
    obtain ⟨z', e3, hh⟩ := Option.map_eq_some_iff.mp hh
    cases hh
    refine ⟨C, ρ, G, dx, ρ1, S, e1, fun xs H1 G1 n1 r1 => ?_⟩
    obtain ⟨i, j, rfl, hj, rfl⟩ := dRng2_inv e3
    cases r1 with
    | cons r rr =>
      cases rr with
      | cons r' rr =>
        cases rr
        cases r
        cases r'
        have q1 := small_lt hj.1
        have q2 := small_lt hj.2
        exact ⟨i, j, rfl, ⟨q1.1, q1.2, q2.1, q2.2⟩, k _ _ _ n1 wk_rng⟩
  same := args_same h.same
def enumL : Nat → List D → List D
  | _, [] => []
  | n, d :: ds => .tup [.int (n : Nat), d] :: enumL (n + 1) ds
theorem enumL_len : ∀ (l : List D) (n : Nat), (enumL n l).length = l.length
  | [], _ => rfl
  | _ :: l, n => by simp [enumL, enumL_len l]
theorem enumL_get : ∀ (l : List D) (n i : Nat) (d : D), l[i]? = some d → (enumL n l)[i]? = some (.tup [.int ((n + i : Nat) : Int), d])
  | [], _, _, _, h => by simp at h
  | d :: l, n, 0, _, h => by simp at h; subst h; rfl
  | d :: l, n, i + 1, e, h => by
    have := enumL_get l (n + 1) i e (by simpa using h)
    rw [show n + 1 + i = n + (i + 1) by omega] at this
    simpa [enumL] using this
@[simp] def dEnum : List D → Option (List D)
  | [d] => (dSeq d).map (enumL 0)
  | _ => none
theorem wk_enum {kd : Bool} {G : Hp} {a : Addr} {xs : List V} {l : List D} (q : SqB kd G a xs) (r : Reps T G l xs) : WkD T (IteB kd a) (enumL 0 l) G := by
  refine ⟨fun i H v H' => ∃ T x, v = .ref T ∧ H T = none ∧ H' = upd H T (.tup [.int (i : Nat), x]) ∧ xs[i]? = some x, ?_, fun i H x H' G1 e1 e2 y => ?_⟩
  · rw [enumL_len, r.length]
    refine ⟨fun i H hi e => ⟨xs, xs[i], q.mono e, by simp [hi]⟩, fun H e => ⟨xs, q.mono e, rfl⟩, fun i H x H' hi e y => ?_⟩
    obtain ⟨T, x, y, h1, h2, h3, rfl, h5⟩ := y
    exact ⟨T, y, h1, h2, h3, h5 xs (q.mono e)⟩
  · obtain ⟨p, x, rfl, hp, rfl, hx⟩ := y
    obtain ⟨d, hd, rd⟩ := r.get' hx
    refine ⟨.tup [.int (i : Nat), d], upd G1 p (.tup [.int (i : Nat), x]), ?_, Stp.new e2 hp, .tup upd_same (.cons (.int _) (.cons ((rd.mono e1).mono (Ex.new (e2.free hp))) .nil))⟩
    have := enumL_get l 0 i d hd
    rw [Nat.zero_add] at this
    exact this
theorem pif_enum {elts : List Expr} {kk : Nat} (hm : X.mg "enumerate" = none) (h : PAf X T pa [a] fs) (hg : Gl X "enumerate" := by rfl) (hs : starEach [a] X.env = [(false, eval a X.env)] := by rfl) : PIf X T pa (.Tuple elts kk tpos) (.Call (.Name "enumerate" p) [a] [] pos) (fArgs dEnum fs) where
  pi := (pi_enumB hm h.pa hg hs).imp fun σ H R ⟨C, ρ, G, ds, ρ', S, hh, k⟩ => by
    obtain ⟨⟨dx, ρ1⟩, e1, hh⟩ := Option.bind_eq_some_iff.mp hh
    obtain ⟨z', e3, hh⟩ := Option.map_eq_some_iff.mp hh
    cases hh
    refine ⟨C, ρ, G, dx, ρ1, S, e1, fun xs H1 G1 n1 r1 => ?_⟩
    have e3 : dEnum dx = some _ := e3
    unfold dEnum at e3
    split at e3
    · rename_i d
      obtain ⟨l, el, e3⟩ := Option.map_eq_some_iff.mp e3
      subst e3
      cases r1 with
      | cons r rr =>
        cases rr
        obtain ⟨kd, a, xs, rfl, q, rr⟩ := seq_rep el r
        exact ⟨kd, a, xs, rfl, q.mono n1.st.gh, k _ _ _ n1 (wk_enum q rr)⟩
    · cases e3
  same := args_same h.same
def zipL : List D → List D → List D
  | d :: ds, e :: es => .tup [d, e] :: zipL ds es
  | _, _ => []
theorem zipL_len : ∀ (l m : List D), (zipL l m).length = min l.length m.length
  | [], _ => by simp [zipL]
  | _ :: _, [] => by simp [zipL]
  | _ :: l, _ :: m => by simp [zipL, zipL_len l m]
theorem zipL_get : ∀ (l m : List D) (i : Nat) (d e : D), l[i]? = some d → m[i]? = some e → (zipL l m)[i]? = some (.tup [d, e])
  | [], _, _, _, _, h, _ => by simp at h
  | _ :: _, [], _, _, _, _, h => by simp at h
  | _ :: _, _ :: _, 0, _, _, h, h' => by simp at h h'; subst h h'; rfl
  | _ :: l, _ :: m, i + 1, d, e, h, h' => by simpa [zipL] using zipL_get l m i d e (by simpa using h) (by simpa using h')
@[simp] def dZip : List D → Option (List D)
  | [d, e] => (dSeq d).bind fun l => (dSeq e).map (zipL l)
  | _ => none
theorem wk_zip {kd kd2 : Bool} {G : Hp} {a b : Addr} {xs ys : List V} {l m : List D} (q : SqB kd G a xs) (r : Reps T G l xs) (q2 : SqB kd2 G b ys) (r2 : Reps T G m ys) : WkD T (ItzB kd kd2 a b) (zipL l m) G := by
  refine ⟨fun i H v H' => ∃ T x y, v = .ref T ∧ H T = none ∧ H' = upd H T (.tup [x, y]) ∧ xs[i]? = some x ∧ ys[i]? = some y, ?_, fun i H x H' G1 e1 e2 y => ?_⟩
  · rw [zipL_len, r.length, r2.length]
    refine ⟨fun i H hi e => ⟨xs, ys, xs[i]'(by omega), ys[i]'(by omega), q.mono e, q2.mono e, by simp [show i < xs.length by omega], by simp [show i < ys.length by omega]⟩, fun H e => ⟨xs, ys, q.mono e, q2.mono e, rfl⟩, fun i H x H' hi e y => ?_⟩
    obtain ⟨T, x, y, h1, h2, h3, h4, h5⟩ := y
    exact ⟨T, x, y, h1, h2, h3, h4 xs (q.mono e), h5 ys (q2.mono e)⟩
  · obtain ⟨p, x, y, rfl, hp, rfl, hx, hy⟩ := y
    obtain ⟨d, hd, rd⟩ := r.get' hx
    obtain ⟨d2, hd2, rd2⟩ := r2.get' hy
    have eg := Ex.new (o := .tup [x, y]) (e2.free hp)
    exact ⟨.tup [d, d2], upd G1 p (.tup [x, y]), zipL_get l m i d d2 hd hd2, Stp.new e2 hp, .tup upd_same (.cons ((rd.mono e1).mono eg) (.cons ((rd2.mono e1).mono eg) .nil))⟩
theorem pif_zip {elts : List Expr} {kk : Nat} (hm : X.mg "zip" = none) (h : PAf X T pa [a, b] fs) (hg : Gl X "zip" := by rfl) (hs : starEach [a, b] X.env = (false, eval a X.env) :: starEach [b] X.env := by rfl) (hpl : (backTo pos (starEach [b] X.env)).any (·.1) = false := by rfl) :
    PIf X T pa (.Tuple elts kk tpos) (.Call (.Name "zip" p) [a, b] [] pos) (fArgs dZip fs) where
  pi := (pi_zipB hm h.pa hg hs hpl).imp fun σ H R ⟨C, ρ, G, ds, ρ', S, hh, k⟩ => by
    obtain ⟨⟨dx, ρ1⟩, e1, hh⟩ := Option.bind_eq_some_iff.mp hh
    obtain ⟨z', e3, hh⟩ := Option.map_eq_some_iff.mp hh
    cases hh
    refine ⟨C, ρ, G, dx, ρ1, S, e1, fun xs H1 G1 n1 r1 => ?_⟩
    have e3 : dZip dx = some _ := e3
    unfold dZip at e3
    split at e3
    · rename_i d d2
      obtain ⟨l, el, e3⟩ := Option.bind_eq_some_iff.mp e3
      obtain ⟨m, em, e3⟩ := Option.map_eq_some_iff.mp e3
      subst e3
      cases r1 with
      | cons r rr =>
        cases rr with
        | cons r' rr =>
          cases rr
          obtain ⟨kd, a, xs, rfl, q, rr⟩ := seq_rep el r
          obtain ⟨kd2, b, ys, rfl, q2, rr2⟩ := seq_rep em r'
          exact ⟨kd, kd2, a, b, xs, ys, rfl, q.mono n1.st.gh, q2.mono n1.st.gh, k _ _ _ n1 (wk_zip q rr q2 rr2)⟩
    · cases e3
  same := args_same h.same
end

/-! ### targets -/
abbrev FG := D → Fenv → Option Fenv
abbrev FGs := List D → Fenv → Option Fenv
def tG (T : Tab) (js : List Nat) (g : FG) : TG := fun v σ H Q => ∃ C ρ G d ρ', Sta T C ρ σ H G ∧ Rep T G d v ∧ g d ρ = some ρ' ∧ ∀ σ', Sta T C ρ' σ' H G → σ'.length = σ.length → (∀ k, k ∉ js → σ'[k]? = σ[k]?) → Q σ' H
def tGs (T : Tab) (js : List Nat) (g : FGs) : TGs := fun v σ H Q => ∃ C ρ G d ρ', Sta T C ρ σ H G ∧ Reps T G d v ∧ g d ρ = some ρ' ∧ ∀ σ', Sta T C ρ' σ' H G → σ'.length = σ.length → (∀ k, k ∉ js → σ'[k]? = σ[k]?) → Q σ' H
def Keeps {α : Type} (js : List Nat) (g : α → Fenv → Option Fenv) : Prop := ∀ d ρ ρ', g d ρ = some ρ' → ρ'.length = ρ.length ∧ ∀ k, k ∉ js → ρ'[k]? = ρ[k]?
structure PGf (X : Cx) (T : Tab) (tg : Expr) (js : List Nat) (g : FG) : Prop where
  pg : PG X tg (tG T js g)
  keep : Keeps js g
structure PGsf (X : Cx) (T : Tab) (tg : List Expr) (js : List Nat) (g : FGs) : Prop where
  pg : PGs X tg (tGs T js g)
  keep : Keeps js g
@[simp] def gNm (i : Nat) : FG := fun d ρ => some (ρ.set i (some (.sh d)))
@[simp] def gNl : FGs := fun ds ρ => match ds with
  | [] => some ρ
  | _ => none
@[simp] def gCn (g : FG) (u : FGs) : FGs := fun ds ρ => match ds with
  | d :: r => (g d ρ).bind fun ρ1 => u r ρ1
  | _ => none
@[simp] def gTp (n : Nat) (u : FGs) : FG := fun d ρ => match d with
  | .tup l => if l.length = n then u l ρ else none
  | _ => none
section
variable {X : Cx} {T : Tab} {pu pa pb pc : Bool} {tg iter e : Expr} {es : List Expr} {f fa : FE} {js ks : List Nat} {g : FG} {gs : FGs} {h : FS} {sts : List Stmt} {fi : FA} {pos tpos : Pos}
theorem pgf_name {i : Nat} {x : Str} (hN : X.N.Nodup) (hi : X.N[i]? = some x := by rfl) (hx : Loc X.env.scope x := by first | exact Or.inl rfl | exact Or.inr rfl) (hf : X.fn x = true ∨ X.env.scope.names.lookup x = some .local := by first | exact .inl rfl | exact .inr rfl | assumption) : PGf X T (.Name x pos) [i] (gNm i) where
  pg := (pg_name hN hi hx hf).imp fun v σ H Q ⟨C, ρ, G, d, ρ', S, r, e, k⟩ => by
    cases e
    exact k _ (S.assignSh r) (by simp) fun j hj => List.getElem?_set_ne (by intro z; exact hj (by simp [z]))
  keep := fun d ρ ρ' e => by
    cases e
    exact ⟨by simp, fun j hj => List.getElem?_set_ne (by intro z; exact hj (by simp [z]))⟩
theorem pgsf_nil : PGsf X T [] [] gNl where
  pg := pgs_nil.imp fun v σ H Q ⟨C, ρ, G, d, ρ', S, r, e, k⟩ => by
    cases d with
    | nil => cases e; cases r; exact ⟨rfl, k σ S rfl fun _ _ => rfl⟩
    | cons _ _ => cases e
  keep := fun d ρ ρ' e => by
    cases d with
    | nil => cases e; exact ⟨rfl, fun _ _ => rfl⟩
    | cons _ _ => cases e
theorem pgsf_cons (h1 : PGf X T e js g) (h2 : PGsf X T es ks gs) (hs : (assignEach (e :: es) X.env).map (·.2) = assign e X.env :: (assignEach es X.env).map (·.2) := by rfl) : PGsf X T (e :: es) (js ++ ks) (gCn g gs) where
  pg := (pgs_cons h1.pg h2.pg hs).imp fun v σ H Q ⟨C, ρ, G, d, ρ', S, r, e, k⟩ => by
    cases d with
    | nil => cases e
    | cons d ds =>
      cases r with
      | cons r rr =>
        obtain ⟨ρ1, e1, e⟩ := Option.bind_eq_some_iff.mp e
        refine ⟨_, _, rfl, C, ρ, G, d, ρ1, S, r, e1, fun σ1 S1 l1 k1 => ⟨C, ρ1, G, ds, ρ', S1, rr, e, fun σ2 S2 l2 k2 => k σ2 S2 (l2.trans l1) fun j hj => ?_⟩⟩
        rw [k2 j fun z => hj (by simp [z]), k1 j fun z => hj (by simp [z])]
  keep := fun d ρ ρ' e => by
    cases d with
    | nil => cases e
    | cons d ds =>
      obtain ⟨ρ1, e1, e⟩ := Option.bind_eq_some_iff.mp e
      have q1 := h1.keep _ _ _ e1
      have q2 := h2.keep _ _ _ e
      exact ⟨q2.1.trans q1.1, fun j hj => by rw [q2.2 j fun z => hj (by simp [z]), q1.2 j fun z => hj (by simp [z])]⟩
theorem pgf_tup {k n : Nat} (hc : X.calm = true) (h : PGsf X T es js gs) (hn : (assignEach es X.env).length = n := by rfl) (hst : (assignEach es X.env).findIdx? (·.1) = none := by rfl) : PGf X T (.Tuple es k pos) js (gTp n gs) where
  pg := (pg_tup hc h.pg hn hst).imp fun v σ H Q ⟨C, ρ, G, d, ρ', S, r, e, k⟩ => by
    cases r with
    | tup hg rr =>
      simp only [gTp] at e
      split at e
      · rename_i hl
        exact ⟨_, _, rfl, .inl (.inl (S.gh _ _ hg)), by rw [← rr.length]; exact hl, C, ρ, G, _, ρ', S, rr, e, k⟩
      · cases e
    | _ => cases e
  keep := fun d ρ ρ' e => by
    cases d with
    | tup l =>
      simp only [gTp] at e
      split at e
      · exact h.keep _ _ _ e
      · cases e
    | _ => cases e
/-- targets = e -/
@[simp] def fTo (g : FG) (f : FE) : FS := fun ρ => (f ρ).bind fun x => (g x.1 x.2).bind fun ρ' => some (.nx ρ')
theorem psf_to {ps : PS X (.Assign [tg] e pos) (tAsg (tD T pu f) (tG T js g))} : PSf X T (.Assign [tg] e pos) (fTo g f) := ⟨ps.imp fun D σ H ⟨C, ρ, G, out, S, hh, k⟩ => by
  obtain ⟨⟨d, ρ1⟩, e1, hh⟩ := Option.bind_eq_some_iff.mp hh
  obtain ⟨ρ2, e2, hh⟩ := Option.bind_eq_some_iff.mp hh
  cases hh
  exact ⟨C, ρ, G, d, ρ1, S, e1, fun v H1 G1 n1 r1 => ⟨C, ρ1, G1, d, ρ2, n1.st, r1, e2, fun σ' S' _ _ => k σ' H1 G1 S' n1.ex⟩⟩⟩

/-! ### for -/
def forL (g : FG) (b : FS) : List D → FS
  | [], ρ => some (.nx ρ)
  | d :: ds, ρ => (g d ρ).bind fun ρ1 => (b ρ1).bind fun o => match o with
    | .nx ρ' => forL g b ds ρ'
    | .ct ρ' => forL g b ds ρ'
    | .bk ρ' => some (.nx ρ')
    | .rt s ρ' => some (.rt s ρ')
@[simp] def fFor (it : FA) (g : FG) (b : FS) : FS := fun ρ => (it ρ).bind fun x => forL g b x.1 x.2
theorem psf_for (hp : PassesOwn (model X.prog X.w) X.A X.env X.xe) (hc : X.calm = true) (hi : PIf X T pa tg iter fi) (hg : PGf X T tg js g) (hb : PSsf X T sts h)
    (hs : ∀ x, foldedSetIterable iter X.env x = pure x := by intro _; rfl) : PSf X T (.For tg iter sts [] pos) (fFor fi g h) := ⟨(ps_for hp hc hi.pi hg.pg hb.ps hs).imp fun D σ H ⟨C, ρ, G, out, S, hh, k⟩ => by
  obtain ⟨⟨ds, ρ1⟩, e1, hh⟩ := Option.bind_eq_some_iff.mp hh
  refine ⟨C, ρ, G, ds, ρ1, S, e1, fun J H1 G1 n1 ⟨Y, W, wy⟩ => ⟨fun i m σ' H' => m = ds.length - i ∧ i ≤ ds.length ∧ ∃ ρ' G', Sta T C ρ' σ' H' G' ∧ Ex G1 G' ∧ forL g h (ds.drop i) ρ' = some out, ⟨_, rfl, Nat.zero_le _, ρ1, G1, n1.st, Ex.refl G1, by simpa using hh⟩, ?_⟩⟩
  rintro i m σ1 H2 ⟨rfl, hi, ρ2, G2, S2, x2, h2⟩
  by_cases hlt : i < ds.length
  · refine .inr ⟨W.goes i H2 hlt (x2.trans S2.gh), fun σ' H' => ∃ ρ' G', Sta T C ρ' σ' H' G' ∧ Ex G1 G' ∧ forL g h (ds.drop (i + 1)) ρ' = some out, fun σ' H' q => ⟨ds.length - (i + 1), by omega, rfl, hlt, q⟩, fun x H' y => ?_⟩
    have yy := W.yields i H2 x H' hlt (x2.trans S2.gh) y
    obtain ⟨d, G3, hd, st, rd⟩ := wy i H2 x H' G2 x2 S2.gh yy
    rw [List.drop_eq_getElem_cons hlt] at h2
    have hd' : ds[i] = d := by simpa [hlt] using hd
    rw [hd'] at h2
    obtain ⟨ρ3, e3, h2⟩ := Option.bind_eq_some_iff.mp h2
    obtain ⟨o, e4, h2⟩ := Option.bind_eq_some_iff.mp h2
    refine ⟨C, ρ2, G3, d, ρ3, S2.stp st, rd, e3, fun σ' S' _ _ => ⟨C, ρ3, G3, o, S', e4, ?_⟩⟩
    have x3 := x2.trans st.gg
    cases o with
    | nx ρ' => exact fun σ' H' G' S' e' => ⟨ρ', G', S', x3.trans e', h2⟩
    | ct ρ' => exact fun σ' H' G' S' e' => ⟨ρ', G', S', x3.trans e', h2⟩
    | bk ρ' => cases h2; exact fun σ' H' G' S' e' => k σ' H' G' S' (n1.ex.trans (x3.trans e'))
    | rt s ρ' => cases h2; cases s <;> exact k.mono (n1.ex.trans x3)
  · have e : i = ds.length := by omega
    subst e
    rw [List.drop_length] at h2
    cases h2
    exact .inl ⟨W.stops H2 (x2.trans S2.gh), k σ1 H2 G2 S2 (n1.ex.trans x2)⟩⟩
end
end Fl
end

section
set_option Elab.async false
set_option linter.all false
set_option autoImplicit false
set_option maxRecDepth 100000
set_option maxHeartbeats 2000000
namespace Fl
open PySem PySem.Spec PyProof.Rows L2

/-! ### list comprehensions -/
structure PTsf (X : Cx) (T : Tab) (pu : Bool) (ifs : List Expr) (f : FT) : Prop where
  pt : PTs X ifs (tBl T pu f)
  same : Same1 pu f
theorem _root_.L2.PTs.imp {X : Cx} {e : List Expr} {t t' : TT} (h : PTs X e t) (k : ∀ σ H Q, t' σ H Q → t σ H Q) : PTs X e t' := ⟨fun pins s σ H Q I q => h.run pins s σ H Q I (k σ H Q q)⟩
@[simp] def fYes : FT := fun ρ => some (true, ρ)
theorem ptsf_nil {X : Cx} {T : Tab} : PTsf X T true [] fYes where
  pt := pts_nil.imp fun σ H Q ⟨C, ρ, G, b, ρ', S, h, k⟩ => by cases h; exact k H G (Nxt.refl S)
  same := fun _ ρ d ρ' h => by cases h; rfl
theorem ptsf_one {X : Cx} {T : Tab} {pu : Bool} {c : Expr} {f : FT} (h : PTf X T pu c f) : PTsf X T pu [c] f := ⟨pts_one h.pt, h.same⟩

def wipeF (ρ : Fenv) : List Nat → Fenv
  | [] => ρ
  | v :: vs => (wipeF ρ vs).set v none
def backF (ρ ρ3 : Fenv) : List Nat → Fenv
  | [] => ρ3
  | v :: vs => (backF ρ ρ3 vs).set v (ρ[v]?.getD none)
def noOwn1 : Option (Option Slot) → Bool
  | some (some (.own _ _)) => false
  | _ => true
def noOwn (ρ : Fenv) (vs : List Nat) : Bool := vs.all fun v => noOwn1 ρ[v]?
theorem wipeF_len (ρ : Fenv) : ∀ vs, (wipeF ρ vs).length = ρ.length
  | [] => rfl
  | v :: vs => by simp [wipeF, wipeF_len ρ vs]
theorem wipeF_get (ρ : Fenv) {k : Nat} : ∀ vs, k ∉ vs → (wipeF ρ vs)[k]? = ρ[k]?
  | [], _ => rfl
  | v :: vs, h => by
    rw [wipeF, List.getElem?_set_ne (by intro z; exact h (by simp [z]))]
    exact wipeF_get ρ vs fun z => h (by simp [z])
theorem wipe_get (σ : L2.St) {k : Nat} : ∀ vs, k ∉ vs → (wipe σ vs)[k]? = σ[k]?
  | [], _ => rfl
  | v :: vs, h => by
    rw [wipe, List.getElem?_set_ne (by intro z; exact h (by simp [z]))]
    exact wipe_get σ vs fun z => h (by simp [z])
theorem backF_len (ρ ρ3 : Fenv) : ∀ vs, (backF ρ ρ3 vs).length = ρ3.length
  | [] => rfl
  | v :: vs => by simp [backF, backF_len ρ ρ3 vs]
theorem backF_out (ρ ρ3 : Fenv) {k : Nat} : ∀ vs, k ∉ vs → (backF ρ ρ3 vs)[k]? = ρ3[k]?
  | [], _ => rfl
  | v :: vs, h => by
    rw [backF, List.getElem?_set_ne (by intro z; exact h (by simp [z]))]
    exact backF_out ρ ρ3 vs fun z => h (by simp [z])
theorem backF_in (ρ ρ3 : Fenv) {k : Nat} : ∀ vs, k ∈ vs → k < ρ3.length → (backF ρ ρ3 vs)[k]? = some (ρ[k]?.getD none)
  | [], h, _ => by simp at h
  | v :: vs, h, hl => by
    rw [backF]
    by_cases z : v = k
    · subst z
      rw [List.getElem?_set_self (by rw [backF_len]; exact hl)]
    · rw [List.getElem?_set_ne z]
      exact backF_in ρ ρ3 vs (by rcases List.mem_cons.mp h with q | q; exact absurd q.symm z; exact q) hl
theorem backF_same {ρ ρ3 : Fenv} {vs js : List Nat} (hl : ρ3.length = ρ.length) (h : ∀ k, k ∉ vs → ρ3[k]? = ρ[k]?) : backF ρ ρ3 vs = ρ := by
  apply List.ext_getElem?
  intro k
  by_cases z : k ∈ vs
  · by_cases hk : k < ρ.length
    · rw [backF_in ρ ρ3 vs z (by omega), List.getElem?_eq_getElem hk]
      rfl
    · rw [List.getElem?_eq_none (by rw [backF_len]; omega), List.getElem?_eq_none (by omega)]
  · rw [backF_out ρ ρ3 vs z, h k z]
theorem wipe_eq {σ σ2 : L2.St} {vs js : List Nat} (hl : σ2.length = σ.length) (hs : ∀ j ∈ js, j ∈ vs) (h : ∀ k, k ∉ js → σ2[k]? = (wipe σ vs)[k]?) : wipe σ2 vs = wipe σ vs := by
  have key : ∀ (us : List Nat), (∀ u ∈ vs, u ∈ us) → ∀ (τ τ' : L2.St), τ'.length = τ.length → (∀ k, k ∉ us → τ'[k]? = τ[k]?) → wipe τ' us = wipe τ us := by
    intro us _ τ τ' hl h
    apply List.ext_getElem?
    intro k
    by_cases z : k ∈ us
    · have q : ∀ (ws : List Nat) (t : L2.St), k ∈ ws → (wipe t ws)[k]? = if k < t.length then some none else none := by
        intro ws t
        induction ws with
        | nil => intro h; simp at h
        | cons w ws ih =>
          intro h
          rw [wipe]
          by_cases e : w = k
          · subst e
            by_cases hk : w < t.length
            · rw [List.getElem?_set_self (by rw [wipe_length]; exact hk), if_pos hk]
            · rw [List.getElem?_eq_none (by simp [wipe_length]; omega), if_neg hk]
          · rw [List.getElem?_set_ne e]
            exact ih (by rcases List.mem_cons.mp h with q | q; exact absurd q.symm e; exact q)
      rw [q us τ' z, q us τ z, hl]
    · rw [wipe_get τ' us z, wipe_get τ us z, h k z]
  refine key vs (fun _ h => h) σ σ2 hl fun k hk => ?_
  rw [h k fun z => hk (hs k z), wipe_get σ vs hk]
theorem Sta.wiped {T : Tab} {C : C0} {ρ : Fenv} {σ : L2.St} {H G : Hp} (S : Sta T C ρ σ H G) : ∀ vs, Sta T C (wipeF ρ vs) (wipe σ vs) H G
  | [] => S
  | v :: vs => (Sta.wiped S vs).assignNo
/-- behind an item: the block's own slots as they were -/
theorem Sta.unwiped {T : Tab} {C C' : C0} {ρ ρ3 : Fenv} {σ σ2 : L2.St} {H G H' G' : Hp} {vs js : List Nat} (S : Sta T C ρ σ H G) (S3 : Sta T C' ρ3 σ2 H' G') (e : Ex G G') (hl : ρ3.length = ρ.length) (hs : ∀ j ∈ js, j ∈ vs) (h : ∀ k, k ∉ js → σ2[k]? = (wipe σ vs)[k]?) (no : noOwn ρ vs = true) :
    Sta T C' (backF ρ ρ3 vs) σ H' G' := by
  have lσ : σ.length = ρ.length := S.len
  have out : ∀ k, k ∉ vs → σ2[k]? = σ[k]? := fun k hk => by rw [h k fun z => hk (hs k z), wipe_get σ vs hk]
  refine ⟨S3.gh, S3.g0, S3.h0, S3.fr, S3.io, by rw [backF_len, lσ, hl], fun i d hi => ?_, ?_⟩
  · by_cases z : i ∈ vs
    · have hi' : i < ρ3.length := by have := (List.getElem?_eq_some_iff.mp hi).1; rwa [backF_len] at this
      rw [backF_in ρ ρ3 vs z hi'] at hi
      have hi2 : ρ[i]? = some (some (.sh d)) := by
        have hk : i < ρ.length := by omega
        rw [List.getElem?_eq_getElem hk] at hi ⊢
        simpa using hi
      obtain ⟨v, e1, r⟩ := S.sh i d hi2
      exact ⟨v, e1, r.mono e⟩
    · rw [backF_out ρ ρ3 vs z] at hi
      obtain ⟨v, e1, r⟩ := S3.sh i d hi
      exact ⟨v, by rw [← out i z]; exact e1, r⟩
  · obtain ⟨ow, q⟩ := S3.own
    refine ⟨ow, fun i f o hi => ?_⟩
    by_cases z : i ∈ vs
    · have hi' : i < ρ3.length := by have := (List.getElem?_eq_some_iff.mp hi).1; rwa [backF_len] at this
      rw [backF_in ρ ρ3 vs z hi'] at hi
      have hi2 : ρ[i]? = some (some (.own f o)) := by
        have hk : i < ρ.length := by omega
        rw [List.getElem?_eq_getElem hk] at hi ⊢
        simpa using hi
      have := List.all_eq_true.mp no i z
      rw [hi2] at this
      cases this
    · rw [backF_out ρ ρ3 vs z] at hi
      obtain ⟨v, fp, e1, r⟩ := q i f o hi
      exact ⟨v, fp, by rw [← out i z]; exact e1, r⟩

/-- the new list at D counts as the heap's -/
def C0.at (C : C0) (D : Addr) (xs : List V) : C0 := { C with H0 := upd C.H0 D (.lst xs) }
section
variable {T : Tab} {C : C0} {ρ : Fenv} {σ : L2.St} {H G : Hp} {D : Addr} {xs ys : List V}
theorem Sta.enterD (S : Sta T C ρ σ H G) (h : H D = none) : Sta T (C.at D xs) ρ σ (upd H D (.lst xs)) G := by
  have S1 := S.stp (Stp.grow (p := D) (o := .lst xs) S.gh h)
  have hG : G D = none := S.gh.free h
  refine ⟨S1.gh, S1.g0, fun a o hn e => ?_, fun a u e t g => ?_, S1.io, S1.len, S1.sh, ?_⟩
  · by_cases z : a = D
    · subst z
      have e : upd C.H0 a (.lst xs) a = some o := e
      rw [upd_same] at e ⊢
      exact e
    · have e : upd C.H0 D (.lst xs) a = some o := e
      rw [upd_ne z] at e ⊢
      exact S.h0 a o hn e
  · by_cases z : a = D
    · subst z; exact hG
    · have e : upd C.H0 D (.lst xs) a = some u := e
      rw [upd_ne z] at e
      exact S.fr a u e t g
  · obtain ⟨ow, q⟩ := S.own
    refine ⟨ow, fun i f o e => ?_⟩
    obtain ⟨v, fp, e1, e2, e3⟩ := q i f o e
    refine ⟨v, fp, e1, e2.mono (Ex.refl G) fun a ha u hu => Ex.new h a u hu, fun b hb => ⟨(e3 b hb).1, (e3 b hb).2.1, ?_⟩⟩
    have nb : b ≠ D := fun z => by obtain ⟨u, eu, _⟩ := e2.there b hb; rw [z, h] at eu; cases eu
    cases f with
    | true =>
      show upd C.H0 D (.lst xs) b = none
      rw [upd_ne nb]
      exact (e3 b hb).2.2
    | false => exact (e3 b hb).2.2
theorem Sta.atD (S : Sta T (C.at D xs) ρ σ H G) (hio : D ∉ C.io) : H D = some (.lst xs) := S.h0 D _ hio upd_same
theorem Sta.gD (S : Sta T (C.at D xs) ρ σ H G) (h : C.G0 D = none) : G D = none := S.fr D _ upd_same (fun _ z => nomatch z) h
theorem Sta.stepD (S : Sta T (C.at D xs) ρ σ H G) (hio : D ∉ C.io) (hg : C.G0 D = none) : Sta T (C.at D ys) ρ σ (upd H D (.lst ys)) G := by
  have hD := S.atD hio
  have hG := S.gD hg
  have nD : ∀ {f : Bool} {b : Addr}, (C.at D xs).mine f b → b ≠ D := fun {f b} m z => by
    cases f with
    | true =>
      have m : upd C.H0 D (.lst xs) b = none := m
      rw [z, upd_same] at m; cases m
    | false => exact hio (z ▸ m)
  refine ⟨S.gh.mut hG, S.g0, fun a o hn e => ?_, fun a u e t g => ?_, fun a ha => ?_, S.len, S.sh, ?_⟩
  · by_cases z : a = D
    · subst z
      have e : upd C.H0 a (.lst ys) a = some o := e
      rw [upd_same] at e ⊢
      exact e
    · have e : upd C.H0 D (.lst ys) a = some o := e
      rw [upd_ne z] at e ⊢
      exact S.h0 a o hn (by show upd C.H0 D (.lst xs) a = some o; rw [upd_ne z]; exact e)
  · by_cases z : a = D
    · subst z; exact hG
    · have e : upd C.H0 D (.lst ys) a = some u := e
      rw [upd_ne z] at e
      exact S.fr a u (by show upd C.H0 D (.lst xs) a = some u; rw [upd_ne z]; exact e) t g
  · obtain ⟨u, eu, tu⟩ := S.io a ha
    have z : a ≠ D := fun z => hio (z ▸ ha)
    exact ⟨u, by rw [upd_ne z]; exact eu, tu⟩
  · obtain ⟨ow, q⟩ := S.own
    refine ⟨ow, fun i f o e => ?_⟩
    obtain ⟨v, fp, e1, e2, e3⟩ := q i f o e
    refine ⟨v, fp, e1, e2.mono (Ex.refl G) fun a ha u hu => by rw [upd_ne (nD (e3 a ha).2.2)]; exact hu, fun b hb => ⟨(e3 b hb).1, (e3 b hb).2.1, ?_⟩⟩
    have z := nD (e3 b hb).2.2
    have m := (e3 b hb).2.2
    cases f with
    | true =>
      show upd C.H0 D (.lst ys) b = none
      have m : upd C.H0 D (.lst xs) b = none := m
      rw [upd_ne z] at m ⊢
      exact m
    | false => exact m
theorem Sta.exitD {l : List Fl.D} (S : Sta T (C.at D xs) ρ σ H G) (hio : D ∉ C.io) (hg : C.G0 D = none) (h0 : C.H0 D = none) (r : Reps T G l xs) : Sta T C (ρ ++ [some (.own true (.lst l))]) (σ ++ [some (.ref D)]) H G := by
  have hD := S.atD hio
  have hG := S.gD hg
  have S1 : Sta T C ρ σ H G := by
    refine ⟨S.gh, S.g0, fun a o hn e => ?_, fun a u e t g => ?_, S.io, S.len, S.sh, ?_⟩
    · have z : a ≠ D := fun z => by rw [z, h0] at e; cases e
      exact S.h0 a o hn (by show upd C.H0 D (.lst xs) a = some o; rw [upd_ne z]; exact e)
    · have z : a ≠ D := fun z => by rw [z, h0] at e; cases e
      exact S.fr a u (by show upd C.H0 D (.lst xs) a = some u; rw [upd_ne z]; exact e) t g
    · obtain ⟨ow, q⟩ := S.own
      refine ⟨ow, fun i f o e => ?_⟩
      obtain ⟨v, fp, e1, e2, e3⟩ := q i f o e
      refine ⟨v, fp, e1, e2, fun b hb => ⟨(e3 b hb).1, (e3 b hb).2.1, ?_⟩⟩
      have m := (e3 b hb).2.2
      cases f with
      | true =>
        show C.H0 b = none
        have m : upd C.H0 D (.lst xs) b = none := m
        by_cases z : b = D
        · rw [z, upd_same] at m; cases m
        · rw [upd_ne z] at m; exact m
      | false => exact m
  refine S1.push (fp := [D]) ⟨D, xs, rfl, rfl, hD, r⟩ fun b hb => ?_
  have e : b = D := by simpa using hb
  subst e
  refine ⟨hG, h0, fun i f o' v' fp' q1 q2 q3 hb' => ?_⟩
  obtain ⟨ow, q⟩ := S.own
  obtain ⟨v, fp, e1, e2, e3⟩ := q i f o' q1
  rw [q2] at e1
  cases e1
  rw [q3.fpEq e2] at hb'
  have m := (e3 b hb').2.2
  cases f with
  | true =>
    have m : upd C.H0 b (.lst xs) b = none := m
    rw [upd_same] at m; cases m
  | false => exact hio m
end

def lcL (g : FG) (tt : FT) (te : FE) (vs : List Nat) : List D → FA
  | [], ρ => some ([], ρ)
  | d :: ds, ρ => if noOwn ρ vs then (g d (wipeF ρ vs)).bind fun ρ1 => (tt ρ1).bind fun b =>
      if b.1 then (te b.2).bind fun y => if y.2.length = ρ.length then (lcL g tt te vs ds (backF ρ y.2 vs)).bind fun r => some (y.1 :: r.1, r.2) else none
      else if b.2.length = ρ.length then lcL g tt te vs ds (backF ρ b.2 vs) else none
    else none
@[simp] def fLc (it : FA) (g : FG) (tt : FT) (te : FE) (vs : List Nat) : FA := fun ρ => (it ρ).bind fun x => if x.1.length < many then lcL g tt te vs x.1 x.2 else none
section
variable {X : Cx} {T : Tab} {pu pa pb pc : Bool} {tg iter elt : Expr} {ifs : List Expr} {fi : FA} {g : FG} {tt : FT} {te : FE} {js vs : List Nat}
theorem lcL_same (hg : Keeps js g) (hs : ∀ j ∈ js, j ∈ vs) (ht : Same1 pb tt) (he : Same1 pc te) (hp : (pb && pc) = true) : ∀ (ds : List D) (ρ : Fenv) (r : List D) (ρ' : Fenv), lcL g tt te vs ds ρ = some (r, ρ') → ρ' = ρ
  | [], ρ, r, ρ', h => by cases h; rfl
  | d :: ds, ρ, r, ρ', h => by
    rw [Bool.and_eq_true] at hp
    simp only [lcL] at h
    split at h
    · obtain ⟨ρ1, e1, h⟩ := Option.bind_eq_some_iff.mp h
      obtain ⟨⟨b, ρ2⟩, e2, h⟩ := Option.bind_eq_some_iff.mp h
      have q2 : ρ2 = ρ1 := ht hp.1 _ _ _ e2
      have hb : ∀ ρ3 : Fenv, ρ3 = ρ1 → backF ρ ρ3 vs = ρ := fun ρ3 e => by
        subst e
        have k := hg _ _ _ e1
        refine backF_same (js := js) (by rw [k.1, wipeF_len]) fun i hi => ?_
        rw [k.2 i fun z => hi (hs i z), wipeF_get ρ vs hi]
      cases b with
      | true =>
        obtain ⟨⟨y, ρ3⟩, e3, h⟩ := Option.bind_eq_some_iff.mp h
        have q3 : ρ3 = ρ2 := he hp.2 _ _ _ e3
        split at h
        · obtain ⟨⟨r', ρ4⟩, e4, h⟩ := Option.bind_eq_some_iff.mp h
          cases h
          dsimp only at e4
          rw [hb ρ3 (q3.trans q2)] at e4
          exact lcL_same hg hs ht he (by rw [Bool.and_eq_true]; exact hp) ds ρ _ _ e4
        · cases h
      | false =>
        simp only [Bool.false_eq_true, if_false] at h
        split at h
        · rw [hb ρ2 q2] at h
          exact lcL_same hg hs ht he (by rw [Bool.and_eq_true]; exact hp) ds ρ _ _ h
        · cases h
    · cases h
theorem fLc_same (hi : Same1 pa fi) (hg : Keeps js g) (hs : ∀ j ∈ js, j ∈ vs) (ht : Same1 pb tt) (he : Same1 pc te) : Same1 (pa && (pb && pc)) (fLc fi g tt te vs) := fun hp ρ z ρ' h => by
  rw [Bool.and_eq_true] at hp
  obtain ⟨⟨ds, ρ1⟩, e1, h⟩ := Option.bind_eq_some_iff.mp h
  dsimp only at h
  split at h
  · exact (lcL_same hg hs ht he hp.2 ds ρ1 _ _ h).trans (hi hp.1 _ _ _ e1)
  · cases h
theorem lc_run {σ : L2.St} {H : Hp} {Q : VK} (hs : ∀ j ∈ js, j ∈ vs) (hg : Keeps js g)
    (h : tOw T (pa && (pb && pc)) (fLst (fLc fi g tt te vs)) σ H Q) : tLc (tIt T pa fi) (tG T js g) (tBl T pb tt) (tD T pc te) vs σ H Q := by
  obtain ⟨C, ρ, G, o, ρ', S, hh, k⟩ := h
  obtain ⟨⟨full, ρ''⟩, hh2, e0⟩ := Option.bind_eq_some_iff.mp hh
  cases e0
  obtain ⟨⟨ds, ρ1⟩, e1, hh2⟩ := Option.bind_eq_some_iff.mp hh2
  dsimp only at hh2
  split at hh2
  case isFalse => cases hh2
  rename_i hlen
  refine ⟨C, ρ, G, ds, ρ1, S, e1, fun J H1 G1 n1 ⟨Y, W, wy⟩ D hD => ?_⟩
  have hio : D ∉ C.io := fun z => by obtain ⟨u, eu, _⟩ := n1.st.io D z; rw [hD] at eu; cases eu
  have hg0 : C.G0 D = none := n1.st.g0.free (n1.st.gh.free hD)
  have h00 : C.H0 D = none := n1.st.freeH0 hD
  refine ⟨fun i m H' => m = ds.length - i ∧ i ≤ ds.length ∧ ∃ ρ2 G2 acc xs rest, Sta T (C.at D xs) ρ2 σ H' G2 ∧ Ex G1 G2 ∧ ((pb && pc) = true → Ex H1 H') ∧ Reps T G2 acc xs ∧ acc.length ≤ i ∧ lcL g tt te vs (ds.drop i) ρ2 = some (rest, ρ'') ∧ full = acc ++ rest,
    ⟨_, rfl, Nat.zero_le _, ρ1, G1, [], [], full, n1.st.enterD hD, Ex.refl G1, fun _ => Ex.new hD, .nil, Nat.le_refl _, by simpa using hh2, rfl⟩, ?_⟩
  rintro i m H2 ⟨rfl, hi, ρ2, G2, acc, xs, rest, S2, x2, pH, racc, hacc, h2, hfull⟩
  by_cases hlt : i < ds.length
  · refine .inr ⟨W.goes i H2 hlt (x2.trans S2.gh), fun H' => ∃ ρ2 G2 acc xs rest, Sta T (C.at D xs) ρ2 σ H' G2 ∧ Ex G1 G2 ∧ ((pb && pc) = true → Ex H1 H') ∧ Reps T G2 acc xs ∧ acc.length ≤ i + 1 ∧ lcL g tt te vs (ds.drop (i + 1)) ρ2 = some (rest, ρ'') ∧ full = acc ++ rest,
      fun H' q => ⟨ds.length - (i + 1), by omega, rfl, hlt, q⟩, fun x H' y => ?_⟩
    have yy := W.yields i H2 x H' hlt (x2.trans S2.gh) y
    obtain ⟨d, G3, hd, st, rd⟩ := wy i H2 x H' G2 x2 S2.gh yy
    rw [List.drop_eq_getElem_cons hlt] at h2
    have hd' : ds[i] = d := by simpa [hlt] using hd
    rw [hd'] at h2
    simp only [lcL] at h2
    split at h2
    case isFalse => cases h2
    rename_i hno
    obtain ⟨ρ3, e3, h2⟩ := Option.bind_eq_some_iff.mp h2
    obtain ⟨⟨b, ρ4⟩, e4, h2⟩ := Option.bind_eq_some_iff.mp h2
    have S2' := S2.stp st
    have SW := S2'.wiped vs
    refine ⟨C.at D xs, wipeF ρ2 vs, G3, d, ρ3, SW, rd, e3, fun σ2 S3 hl3 k3 => ⟨?_, C.at D xs, ρ3, G3, b, ρ4, S3, e4, fun H4 G4 n4 => ?_⟩⟩
    · exact wipe_eq (by rw [hl3, wipe_length]) hs k3
    · cases b with
      | true =>
        rw [if_pos rfl]
        obtain ⟨⟨y, ρ5⟩, e5, h2⟩ := Option.bind_eq_some_iff.mp h2
        split at h2
        case isFalse => cases h2
        rename_i hlen5
        obtain ⟨⟨r', ρ6⟩, e6, h2⟩ := Option.bind_eq_some_iff.mp h2
        cases h2
        refine ⟨C.at D xs, ρ4, G4, y, ρ5, n4.st, e5, fun v H5 G5 n5 r5 => ?_⟩
        have x5 : Ex G2 G5 := st.gg.trans (n4.ex.trans n5.ex)
        have U := S2.unwiped n5.st x5 hlen5 hs k3 hno
        refine ⟨xs, U.atD hio, Nat.lt_of_lt_of_le (by rw [← racc.length]; omega) many_le, backF ρ2 ρ5 vs, G5, acc ++ [y], xs ++ [v], r', U.stepD hio hg0, x2.trans x5, fun hp => ?_, (racc.mono x5).append (.cons r5 .nil), by simp; omega, e6, by rw [hfull]; simp⟩
        have hp' := hp
        rw [Bool.and_eq_true] at hp'
        exact Ex.mut (((pH hp).trans st.hh).trans ((n4.pu hp'.1).trans (n5.pu hp'.2))) hD
      | false =>
        rw [if_neg Bool.false_ne_true]
        simp only [Bool.false_eq_true, if_false] at h2
        split at h2
        case isFalse => cases h2
        rename_i hlen4
        have x4 : Ex G2 G4 := st.gg.trans n4.ex
        have U := S2.unwiped n4.st x4 hlen4 hs k3 hno
        refine ⟨backF ρ2 ρ4 vs, G4, acc, xs, rest, U, x2.trans x4, fun hp => ?_, racc.mono x4, by omega, h2, hfull⟩
        have hp' := hp
        rw [Bool.and_eq_true] at hp'
        exact ((pH hp).trans st.hh).trans (n4.pu hp'.1)
  · have e : i = ds.length := by omega
    subst e
    rw [List.drop_length] at h2
    cases h2
    have hf : full = acc := by rw [hfull]; simp
    subst hf
    refine .inl ⟨W.stops H2 (x2.trans S2.gh), k _ H2 G2 ⟨S2.exitD hio hg0 h00 racc, n1.ex.trans x2, fun hp => ?_⟩⟩
    rw [Bool.and_eq_true] at hp
    exact (n1.pu hp.1).trans (pH hp.2)
theorem lcst_same (h : Same1 pu (fLc fi g tt te vs)) : Same1 pu (fLst (fLc fi g tt te vs)) := fun hp ρ z ρ' hh => by
  obtain ⟨⟨l', ρ2⟩, h2, e⟩ := Option.bind_eq_some_iff.mp hh
  cases e
  exact h hp _ _ _ h2
theorem peo_lc {scope : Scope} {own : List (Str × Nat)} {pos : Pos} (hc : X.calm = true) (hN : X.N.Nodup) (ok : BlkOk X.N X.env.scope scope own) (hi : PIf X T pa tg iter fi)
    (hg : ∀ (s : Shared) (H : Hp) (C : Addr) (cl : List (Str × Addr)) (fp : List Addr), PGf (X.blk s H scope (compEnvC scope cl C X.env) fp) T tg js g) (ht : ∀ (s : Shared) (H : Hp) (C : Addr) (cl : List (Str × Addr)) (fp : List Addr), PTsf (X.blk s H scope (compEnvC scope cl C X.env) fp) T pb ifs tt)
    (he : ∀ (s : Shared) (H : Hp) (C : Addr) (cl : List (Str × Addr)) (fp : List Addr), PEf (X.blk s H scope (compEnvC scope cl C X.env) fp) T pc elt te) (hsub : ∀ j ∈ js, j ∈ own.map (·.2) := by decide) (hs : ∀ x, foldedSetIterable iter X.env x = pure x := by intro _; rfl) :
    PEo X T (pa && (pb && pc)) (.ListComp elt [⟨tg, iter, ifs, 0⟩] scope pos) (fLst (fLc fi g tt te (own.map (·.2)))) where
  pe := (pe_lc hc hN hi.pi ok (fun s H C cl fp => (hg s H C cl fp).pg) (fun s H C cl fp => (ht s H C cl fp).pt) (fun s H C cl fp => (he s H C cl fp).pe) hs).imp fun σ H Q h => lc_run hsub (hg X.s_0 (fun _ => none) 0 [] []).keep h
  same := lcst_same (fLc_same hi.same (hg X.s_0 (fun _ => none) 0 [] []).keep hsub (ht X.s_0 (fun _ => none) 0 [] []).same (he X.s_0 (fun _ => none) 0 [] []).same)
/-- name = [..] on one line -/
theorem psf_setLc {i : Nat} {y : Str} {py : Pos} {scope : Scope} {own : List (Str × Nat)} {pos spos : Pos} (hc : X.calm = true) (hN : X.N.Nodup) (ok : BlkOk X.N X.env.scope scope own) (hi : PIf X T pa tg iter fi)
    (hg : ∀ (s : Shared) (H : Hp) (C : Addr) (cl : List (Str × Addr)) (fp : List Addr), PGf (X.blk s H scope (compEnvC scope cl C X.env) fp) T tg js g) (ht : ∀ (s : Shared) (H : Hp) (C : Addr) (cl : List (Str × Addr)) (fp : List Addr), PTsf (X.blk s H scope (compEnvC scope cl C X.env) fp) T pb ifs tt)
    (he : ∀ (s : Shared) (H : Hp) (C : Addr) (cl : List (Str × Addr)) (fp : List Addr), PEf (X.blk s H scope (compEnvC scope cl C X.env) fp) T pc elt te) (hsub : ∀ j ∈ js, j ∈ own.map (·.2) := by decide) (hs : ∀ x, foldedSetIterable iter X.env x = pure x := by intro _; rfl)
    (hy : X.N[i]? = some y := by rfl) (hyl : X.env.scope.names.lookup y = some .local := by rfl) (hsw : swapsWith (.ListComp elt [⟨tg, iter, ifs, 0⟩] scope pos) (some (.Name y py)) spos.line X.env = pure true := by exact sw_true rfl rfl rfl rfl) :
    PSf X T (.Assign [.Name y py] (.ListComp elt [⟨tg, iter, ifs, 0⟩] scope pos) spos) (fSetO i (fLst (fLc fi g tt te (own.map (·.2))))) :=
  ⟨(ps_setLc hc hN hy hyl hsw hi.pi ok (fun s H C cl fp => (hg s H C cl fp).pg) (fun s H C cl fp => (ht s H C cl fp).pt) (fun s H C cl fp => (he s H C cl fp).pe) hs).imp fun D σ H ⟨C, ρ, G, out, S, hh, k⟩ => by
    obtain ⟨⟨d, ρ1⟩, e1, hh⟩ := Option.bind_eq_some_iff.mp hh
    cases hh
    exact lc_run hsub (hg X.s_0 (fun _ => none) 0 [] []).keep ⟨C, ρ, G, d, ρ1, S, e1, fun v H1 G1 n1 => k _ H1 G1 n1.st.assignOwn n1.ex⟩⟩
end
end Fl
end

section
set_option Elab.async false
set_option linter.all false
set_option autoImplicit false
set_option maxRecDepth 100000
set_option maxHeartbeats 2000000
namespace Fl
open PySem PySem.Spec PyProof.Rows L2

/-! ### defs -/
/-- what a call gives -/
def RetOk (T : Tab) (G H0 H : Hp) : Slot → V → Prop
  | .sh d, v => Rep T G d v
  | .own _ o, v => ∃ fp, OwnOk T G H o v fp ∧ ∀ b ∈ fp, G b = none ∧ H0 b = none
def spD (T : Tab) (m : Nat) (F : List D → Option Slot) : Sp := fun vs H Q _ => vs.length = m ∧ ∃ G ds r, Ex G H ∧ Reps T G ds vs ∧ F ds = some r ∧ ∀ v H' G', Stp H G H' G' → RetOk T G' H H' r v → Q v H'
abbrev FI := List D → O → List D → Option (Slot × O)
@[simp] def O.one : O → Bool
  | .ll _ => false
  | _ => true
/-- one argument may be changed -/
def spI (T : Tab) (m : Nat) (F : FI) : Sp := fun vs H Q _ => vs.length = m ∧ ∃ G pre o post vpre v vpost fp r o', vs = vpre ++ v :: vpost ∧ Ex G H ∧ Reps T G pre vpre ∧ Reps T G post vpost ∧ OwnOk T G H o v fp ∧ (∀ b ∈ fp, G b = none) ∧ F pre o post = some (r, o') ∧
  ∀ w H' G' fp', (∀ b u, b ∉ fp → H b = some u → H' b = some u) → (∀ b u, H b = some u → (∀ xs, u ≠ .tup xs) → ∃ u', H' b = some u' ∧ ∀ xs, u' ≠ .tup xs) → Ex G G' → Ex G' H' → (∀ a u, H a = some u → (∀ xs, u ≠ .tup xs) → G a = none → G' a = none) →
    OwnOk T G' H' o' v fp' → (∀ b ∈ fp', b ∈ fp) → RetOk T G' H H' r w → Q w H'
/-- a body's reading as a function -/
@[simp] def outD (n : Nat) : Option Out → Option Slot
  | some (.rt s _) => some s
  | some (.nx _) => some (.sh .non)
  | _ => none
@[simp] def fnD (fb : FS) (n : Nat) (ds : List D) : Option Slot := outD n (fb (ds.map (fun d => some (.sh d)) ++ List.replicate (n - ds.length) none))
@[simp] def outI (o : O) (j : Nat) : Option Out → Option (Slot × O)
  | some (.rt s ρ) => match ρ[j]? with
    | some (some (.own false o')) => if o.one && o'.one then some (s, o') else none
    | _ => none
  | some (.nx ρ) => match ρ[j]? with
    | some (some (.own false o')) => if o.one && o'.one then some (.sh .non, o') else none
    | _ => none
  | _ => none
@[simp] def fnI (fb : FS) (n : Nat) : FI := fun pre o post => outI o pre.length (fb (pre.map (fun d => some (.sh d)) ++ some (Slot.own false o) :: post.map (fun d => some (.sh d)) ++ List.replicate (n - (pre.length + 1 + post.length)) none))

section
variable {T : Tab}
theorem get_map_sh {ds : List D} {i : Nat} {n : Nat} {s : Slot} (h : (ds.map (fun d => some (Slot.sh d)) ++ List.replicate n none)[i]? = some (some s)) : ∃ d, ds[i]? = some d ∧ s = .sh d := by
  by_cases hi : i < ds.length
  · rw [List.getElem?_append_left (by simpa using hi), List.getElem?_map, List.getElem?_eq_getElem hi] at h
    simp at h
    exact ⟨ds[i], List.getElem?_eq_getElem hi, h.symm⟩
  · rw [List.getElem?_append_right (by simpa using hi), List.getElem?_replicate] at h
    split at h <;> cases h
theorem start_get {N : List Str} {vs : List V} {i : Nat} {v : V} (h : vs[i]? = some v) : (L2.start N vs)[i]? = some (some v) := by
  have hi := (List.getElem?_eq_some_iff.mp h).1
  unfold L2.start
  rw [List.getElem?_append_left (by simpa using hi), List.getElem?_map, h]
  rfl
theorem sta_start {N : List Str} {H G : Hp} {ds : List D} {vs : List V} (e : Ex G H) (r : Reps T G ds vs) (hl : vs.length ≤ N.length) :
    Sta T ⟨H, G, []⟩ (ds.map (fun d => some (.sh d)) ++ List.replicate (N.length - ds.length) none) (L2.start N vs) H G where
  gh := e
  g0 := Ex.refl G
  h0 := fun _ _ _ h => h
  fr := fun _ _ _ _ h => h
  io := fun a h => by simp at h
  len := by unfold L2.start; simp [r.length]
  sh := fun i d h => by
    obtain ⟨d', hd, e⟩ := get_map_sh h
    cases e
    obtain ⟨v, ev, rv⟩ := r.get hd
    exact ⟨v, start_get ev, rv⟩
  own := ⟨fun _ => none, fun i f o h => by
    obtain ⟨d', hd, e⟩ := get_map_sh h
    cases e⟩
theorem Sta.toStp {H G H' G' : Hp} {ρ : Fenv} {σ : L2.St} (S : Sta T ⟨H, G, []⟩ ρ σ H' G') : Stp H G H' G' :=
  ⟨fun a o h => S.h0 a o (by simp) h, S.g0, S.gh, S.fr⟩
theorem Sta.last {C : C0} {H G : Hp} {ρ : Fenv} {σ : L2.St} {o : O} {v : V} (S : Sta T C (ρ ++ [some (.own true o)]) (σ ++ [some v]) H G) : ∃ fp, OwnOk T G H o v fp ∧ ∀ b ∈ fp, G b = none ∧ C.H0 b = none := by
  have hl : σ.length = ρ.length := by have := S.len; simpa using this
  obtain ⟨ow, h⟩ := S.own
  obtain ⟨w, fp, e1, e2, e3⟩ := h ρ.length true o (by rw [List.getElem?_append_right (Nat.le_refl _), Nat.sub_self]; rfl)
  rw [List.getElem?_append_right (by omega), ← hl, Nat.sub_self] at e1
  have e1' : v = w := by simpa using e1
  subst e1'
  exact ⟨fp, e2, fun b hb => ⟨(e3 b hb).2.1, (e3 b hb).2.2⟩⟩
variable {P : Program} {w : World} {K : PySem.W.Frag} {mg : Str → Option Value} {base : Heap}
theorem ok_D {x qual : Str} {st : Stmt} {f : Addr} {fd : FuncData} {N ps : List Str} {k : Nat} {fb : FS} (F : Fun K x qual st f fd) (S : FnScope N ps (defScope st))
    (hb : ∀ (cdv : Value) (A : Around) (outer : List Env) (s : Shared) (H : Hp) (E : XK), Room k (A.deeper (envOfC qual (defScope st) s.heap.objs.size f cdv)) → PSsf (cxOf CX0 P w K mg base N qual (defScope st) f cdv A outer s H E).nox T (defBody st) fb) :
    FnOk P w K mg base CX0 (k + 1) f fd ps (spD T ps.length (fnD fb N.length)) := by
  refine F.ok S (fun vs H Q E h => h.1) fun cdv A outer s H vs Q E hr h => ?_
  obtain ⟨hl, G, ds, r, eg, rd, hf, q⟩ := h
  refine ⟨_, (hb cdv A outer s H E hr).ps, ?_⟩
  have hpl : ps.length ≤ N.length := by have := congrArg List.length S.pre; rw [List.length_take] at this; omega
  have S0 := sta_start (N := N) eg rd (by omega)
  unfold fnD at hf
  cases ho : fb (ds.map (fun d => some (.sh d)) ++ List.replicate (N.length - ds.length) none) with
  | none => rw [ho] at hf; cases hf
  | some out =>
    rw [ho] at hf
    refine ⟨_, _, G, out, S0, ho, ?_⟩
    cases out with
    | nx ρ => cases hf; exact fun σ' H' G' S' e' => q .non H' G' S'.toStp .non
    | rt s ρ =>
      cases hf
      cases r with
      | sh d => exact fun v σ' H' G' S' e' rv => q v H' G' S'.toStp rv
      | own g o => exact fun v σ' H' G' S' e' => q v H' G' S'.pop.toStp S'.last
    | bk ρ => cases hf
    | ct ρ => cases hf
theorem spD_len {m : Nat} {F : List D → Option Slot} {vs : List V} {H : Hp} {Q : VK} {E : XK} (h : spD T m F vs H Q E) : vs.length = m := h.1
/-- the same promise, told otherwise -/
theorem spD_imp {m : Nat} {F F' : List D → Option Slot} (h : ∀ ds r, F' ds = some r → F ds = some r) {vs : List V} {H : Hp} {Q : VK} {E : XK} (q : spD T m F' vs H Q E) : spD T m F vs H Q E :=
  let ⟨l, G, ds, r, a, b, c, d⟩ := q
  ⟨l, G, ds, r, a, b, h ds r c, d⟩

theorem get_mid {pre post : List D} {o : O} {n i : Nat} {s : Slot} (h : (pre.map (fun d => some (Slot.sh d)) ++ some (Slot.own false o) :: post.map (fun d => some (Slot.sh d)) ++ List.replicate n none)[i]? = some (some s)) :
    (∃ d, pre[i]? = some d ∧ s = .sh d) ∨ (i = pre.length ∧ s = .own false o) ∨ ∃ d j, i = pre.length + 1 + j ∧ post[j]? = some d ∧ s = .sh d := by
  rw [List.append_assoc] at h
  by_cases hi : i < pre.length
  · rw [List.getElem?_append_left (by simpa using hi), List.getElem?_map, List.getElem?_eq_getElem hi] at h
    simp at h
    exact .inl ⟨pre[i], List.getElem?_eq_getElem hi, h.symm⟩
  · rw [List.getElem?_append_right (by simpa using hi), List.length_map] at h
    cases hj : i - pre.length with
    | zero =>
      rw [hj] at h
      simp at h
      exact .inr (.inl ⟨by omega, h.symm⟩)
    | succ j =>
      rw [hj, List.cons_append, List.getElem?_cons_succ] at h
      obtain ⟨d, hd, e⟩ := get_map_sh h
      exact .inr (.inr ⟨d, j, by omega, hd, e⟩)
theorem sta_startI {N : List Str} {H G : Hp} {pre post : List D} {o : O} {v : V} {vpre vpost : List V} {fp : List Addr} (e : Ex G H) (r1 : Reps T G pre vpre) (r2 : Reps T G post vpost) (ro : OwnOk T G H o v fp) (hn : ∀ b ∈ fp, G b = none) (hl : (vpre ++ v :: vpost).length ≤ N.length) :
    Sta T ⟨H, G, fp⟩ (pre.map (fun d => some (.sh d)) ++ some (Slot.own false o) :: post.map (fun d => some (.sh d)) ++ List.replicate (N.length - (pre.length + 1 + post.length)) none) (L2.start N (vpre ++ v :: vpost)) H G where
  gh := e
  g0 := Ex.refl G
  h0 := fun _ _ _ h => h
  fr := fun _ _ _ _ h => h
  io := fun a h => ro.there a h
  len := by unfold L2.start; simp [r1.length, r2.length]; omega
  sh := fun i d h => by
    rcases get_mid h with ⟨d', hd, e⟩ | ⟨_, e⟩ | ⟨d', j, rfl, hd, e⟩
    · cases e
      obtain ⟨u, ev, rv⟩ := r1.get hd
      exact ⟨u, start_get (by rw [List.getElem?_append_left (List.getElem?_eq_some_iff.mp ev).1]; exact ev), rv⟩
    · cases e
    · cases e
      obtain ⟨u, ev, rv⟩ := r2.get hd
      exact ⟨u, start_get (by rw [List.getElem?_append_right (by rw [← r1.length]; omega), ← r1.length, show pre.length + 1 + j - pre.length = j + 1 by omega]; simpa using ev), rv⟩
  own := ⟨fun b => some pre.length, fun i f o' h => by
    rcases get_mid h with ⟨d', hd, e⟩ | ⟨rfl, e⟩ | ⟨d', j, rfl, hd, e⟩
    · cases e
    · cases e
      exact ⟨v, fp, start_get (by rw [r1.length, List.getElem?_append_right (Nat.le_refl _), Nat.sub_self]; rfl), ro, fun b hb => ⟨rfl, hn b hb, hb⟩⟩
    · cases e⟩
theorem one_same {G G' H H' : Hp} {o o' : O} {v v' : V} {fp fp' : List Addr} (ho : o.one = true) (ho' : o'.one = true) (r : OwnOk T G H o v fp) (r' : OwnOk T G' H' o' v' fp') (h : ∀ b ∈ fp', b ∈ fp) : v' = v := by
  obtain ⟨a, rfl, rfl⟩ : ∃ a, v = .ref a ∧ fp = [a] := by
    cases o with
    | lst _ => obtain ⟨a, _, e1, e2, _⟩ := r; exact ⟨a, e1, e2⟩
    | dT _ => obtain ⟨a, _, e1, e2, _⟩ := r; exact ⟨a, e1, e2⟩
    | dK _ => obtain ⟨a, _, e1, e2, _⟩ := r; exact ⟨a, e1, e2⟩
    | ll _ => cases ho
  obtain ⟨a', rfl, rfl⟩ : ∃ a, v' = .ref a ∧ fp' = [a] := by
    cases o' with
    | lst _ => obtain ⟨a, _, e1, e2, _⟩ := r'; exact ⟨a, e1, e2⟩
    | dT _ => obtain ⟨a, _, e1, e2, _⟩ := r'; exact ⟨a, e1, e2⟩
    | dK _ => obtain ⟨a, _, e1, e2, _⟩ := r'; exact ⟨a, e1, e2⟩
    | ll _ => cases ho'
  have := h a' (by simp)
  rw [show a' = a by simpa using this]
theorem outI_inv {o o' : O} {j : Nat} {out : Out} {r : Slot} (h : outI o j (some out) = some (r, o')) : ∃ ρ, ρ[j]? = some (some (.own false o')) ∧ o.one = true ∧ o'.one = true ∧ (out = .rt r ρ ∨ (out = .nx ρ ∧ r = .sh .non)) := by
  cases out with
  | bk ρ => cases h
  | ct ρ => cases h
  | nx ρ =>
    unfold outI at h
    dsimp only at h
    split at h
    · rename_i o2 e
      split at h
      · rename_i q
        rw [Bool.and_eq_true] at q
        cases h
        exact ⟨ρ, e, q.1, q.2, .inr ⟨rfl, rfl⟩⟩
      · cases h
    · cases h
  | rt s ρ =>
    unfold outI at h
    dsimp only at h
    split at h
    · rename_i o2 e
      split at h
      · rename_i q
        rw [Bool.and_eq_true] at q
        cases h
        exact ⟨ρ, e, q.1, q.2, .inl rfl⟩
      · cases h
    · cases h
theorem ok_I {x qual : Str} {st : Stmt} {f : Addr} {fd : FuncData} {N ps : List Str} {k : Nat} {fb : FS} (F : Fun K x qual st f fd) (S : FnScope N ps (defScope st))
    (hb : ∀ (cdv : Value) (A : Around) (outer : List Env) (s : Shared) (H : Hp) (E : XK), Room k (A.deeper (envOfC qual (defScope st) s.heap.objs.size f cdv)) → PSsf (cxOf CX0 P w K mg base N qual (defScope st) f cdv A outer s H E).nox T (defBody st) fb) :
    FnOk P w K mg base CX0 (k + 1) f fd ps (spI T ps.length (fnI fb N.length)) := by
  refine F.ok S (fun vs H Q E h => h.1) fun cdv A outer s H vs Q E hr h => ?_
  obtain ⟨hl, G, pre, o, post, vpre, v, vpost, fp, r, o', rfl, eg, r1, r2, ro, hn, hf, q⟩ := h
  refine ⟨_, (hb cdv A outer s H E hr).ps, ?_⟩
  have hpl : ps.length ≤ N.length := by have := congrArg List.length S.pre; rw [List.length_take] at this; omega
  have S0 := sta_startI (N := N) eg r1 r2 ro hn (by omega)
  unfold fnI at hf
  cases ho : fb (pre.map (fun d => some (.sh d)) ++ some (Slot.own false o) :: post.map (fun d => some (.sh d)) ++ List.replicate (N.length - (pre.length + 1 + post.length)) none) with
  | none => rw [ho] at hf; cases hf
  | some out =>
    rw [ho] at hf
    refine ⟨_, _, G, out, S0, ho, ?_⟩
    obtain ⟨ρ, hρ, q1, q2, hout⟩ := outI_inv hf
    have fin : ∀ {σ' H' G' w}, Sta T ⟨H, G, fp⟩ ρ σ' H' G' → RetOk T G' H H' r w → Q w H' := fun {σ' H' G' w} S' rw' => by
      obtain ⟨ow, hw⟩ := S'.own
      obtain ⟨v', fp', e1, e2, e3⟩ := hw pre.length false o' hρ
      have sub : ∀ b ∈ fp', b ∈ fp := fun b hb => (e3 b hb).2.2
      have ev := one_same q1 q2 ro e2 sub
      subst ev
      refine q w H' G' fp' (fun b u hb e => S'.h0 b u hb e) (fun b u e t => ?_) S'.g0 S'.gh S'.fr e2 sub rw'
      by_cases z : b ∈ fp
      · exact S'.io b z
      · exact ⟨u, S'.h0 b u z e, t⟩
    rcases hout with rfl | ⟨rfl, rfl⟩
    · cases r with
      | sh d => exact fun v σ' H' G' S' e' rv => fin S' rv
      | own g o2 => exact fun v σ' H' G' S' e' => fin S'.pop S'.last
    · exact fun σ' H' G' S' e' => fin S' .non
end

/-! ### calls -/
@[simp] def shO : Slot → Option D
  | .sh d => some d
  | _ => none
@[simp] def owO : Slot → Option O
  | .own true o => some o
  | _ => none
@[simp] def fCall (F : List D → Option Slot) (dd : List D) (a : FA) : FE := fun ρ => (a ρ).bind fun x => (F (x.1 ++ dd)).bind fun s => (shO s).map fun d => (d, x.2)
@[simp] def fCallO (F : List D → Option Slot) (dd : List D) (a : FA) : FO := fun ρ => (a ρ).bind fun x => (F (x.1 ++ dd)).bind fun s => (owO s).map fun d => (d, x.2)
section
variable {X : Cx} {T : Tab} {pu pa pb : Bool} {k : Nat} {f : Addr} {fd : FuncData} {ps : List Str} {e : Expr} {es : List Expr} {x : Str} {p pos : Pos} {fs : FA} {m : Nat} {F : List D → Option Slot}
/-- a def of the program as a call wants it -/
structure Cal (X : Cx) (T : Tab) (x : Str) (sp : Sp) (dvs : List V) : Prop where
  ex : ∃ (k : Nat) (f : Addr) (fd : FuncData) (ps : List Str) (ds : List Value), FnOk X.prog X.w X.K X.mg X.base CX0 k f fd ps sp ∧ Room k X.A ∧ X.mg x = some (.ref f) ∧ PySem.W.keepIn X.K (.ref f) = true ∧ Binds X.K fd ps ds ∧ Vals dvs ds
theorem RetOk.own_push {C : C0} {ρ : Fenv} {σ : L2.St} {H1 G1 H2 G2 : Hp} {o : O} {v : V} {g : Bool} (S : Sta T C ρ σ H1 G1) (st : Stp H1 G1 H2 G2) (r : RetOk T G2 H1 H2 (.own g o) v) : Sta T C (ρ ++ [some (.own true o)]) (σ ++ [some v]) H2 G2 := by
  obtain ⟨fp, r1, r2⟩ := r
  refine (S.stp st).push r1 fun b hb => ⟨(r2 b hb).1, S.freeH0 (r2 b hb).2, fun i f o' v' fp' q1 q2 q3 hb' => ?_⟩
  obtain ⟨ow, q⟩ := S.own
  obtain ⟨w, fp2, e1, e2, e3⟩ := q i f o' q1
  rw [q2] at e1
  cases e1
  rw [q3.fpEq (e2.mono st.gg fun a _ u hu => st.hh a u hu)] at hb'
  obtain ⟨u, eu, _⟩ := e2.there b hb'
  rw [(r2 b hb).2] at eu
  cases eu
theorem call_same {dd : List D} (h : Same1 pa fs) : Same1 pa (fCall F dd fs) := fun hp ρ z ρ' hh => by
  obtain ⟨⟨dx, ρ1⟩, e1, hh⟩ := Option.bind_eq_some_iff.mp hh
  obtain ⟨s, e2, hh⟩ := Option.bind_eq_some_iff.mp hh
  obtain ⟨z', e3, hh⟩ := Option.map_eq_some_iff.mp hh
  cases hh
  exact h hp _ _ _ e1
theorem callO_same {dd : List D} (h : Same1 pa fs) : Same1 pa (fCallO F dd fs) := fun hp ρ z ρ' hh => by
  obtain ⟨⟨dx, ρ1⟩, e1, hh⟩ := Option.bind_eq_some_iff.mp hh
  obtain ⟨s, e2, hh⟩ := Option.bind_eq_some_iff.mp hh
  obtain ⟨z', e3, hh⟩ := Option.map_eq_some_iff.mp hh
  cases hh
  exact h hp _ _ _ e1
theorem call_sem {dd : List D} {dvs : List V} {sp : Sp} (hc : Cal X T x sp dvs) {t : TA} (ha : PA X (e :: es) t) (hg : Gl X x := by rfl) (hdb : (x == ("__debug__" : Str)) = false := by decide)
    (he : starEach (e :: es) X.env = (false, eval e X.env) :: starEach es X.env := by rfl) (hpl : (backTo pos (starEach es X.env)).any (·.1) = false := by rfl) : PE X (.Call (.Name x p) (e :: es) [] pos) (tCall sp dvs E0 t) := by
  obtain ⟨k, f, fd, ps, ds, F, hr, hm, hk, hb, hd⟩ := hc.ex
  exact pe_call F hr hg hm hk hb hd pass0 ha hdb he hpl
theorem pef_call (dd : List D) {dvs : List V} (hc : Cal X T x (spD T m F) dvs) (ha : PAf X T pa (e :: es) fs) (hdd : ∀ G, Reps T G dd dvs := by exact fun _ => .nil) (hm : ∀ ρ ds ρ', fs ρ = some (ds, ρ') → (ds ++ dd).length = m) (hg : Gl X x := by rfl) (hdb : (x == ("__debug__" : Str)) = false := by decide)
    (he : starEach (e :: es) X.env = (false, eval e X.env) :: starEach es X.env := by rfl) (hpl : (backTo pos (starEach es X.env)).any (·.1) = false := by rfl) : PEf X T pa (.Call (.Name x p) (e :: es) [] pos) (fCall F dd fs) where
  pe := (call_sem (dd := dd) hc ha.pa hg hdb he hpl).imp fun σ H Q ⟨C, ρ, G, d, ρ', S, hh, kk⟩ => by
    obtain ⟨⟨dx, ρ1⟩, e1, hh⟩ := Option.bind_eq_some_iff.mp hh
    obtain ⟨s, e2, hh⟩ := Option.bind_eq_some_iff.mp hh
    obtain ⟨z', e3, hh⟩ := Option.map_eq_some_iff.mp hh
    cases hh
    refine ⟨C, ρ, G, dx, ρ1, S, e1, fun xs H1 G1 n1 r1 => ?_⟩
    have rr := r1.append (hdd G1)
    refine ⟨by rw [← rr.length]; exact hm ρ _ _ e1, G1, _, s, n1.st.gh, rr, e2, fun v H' G' st ro => ?_⟩
    cases s with
    | sh d => cases e3; exact kk v H' G' (n1.stp st) ro
    | own _ _ => cases e3
  same := call_same ha.same
theorem peo_call (dd : List D) {dvs : List V} (hc : Cal X T x (spD T m F) dvs) (ha : PAf X T pa (e :: es) fs) (hdd : ∀ G, Reps T G dd dvs := by exact fun _ => .nil) (hm : ∀ ρ ds ρ', fs ρ = some (ds, ρ') → (ds ++ dd).length = m) (hg : Gl X x := by rfl) (hdb : (x == ("__debug__" : Str)) = false := by decide)
    (he : starEach (e :: es) X.env = (false, eval e X.env) :: starEach es X.env := by rfl) (hpl : (backTo pos (starEach es X.env)).any (·.1) = false := by rfl) : PEo X T pa (.Call (.Name x p) (e :: es) [] pos) (fCallO F dd fs) where
  pe := (call_sem (dd := dd) hc ha.pa hg hdb he hpl).imp fun σ H Q ⟨C, ρ, G, d, ρ', S, hh, kk⟩ => by
    obtain ⟨⟨dx, ρ1⟩, e1, hh⟩ := Option.bind_eq_some_iff.mp hh
    obtain ⟨s, e2, hh⟩ := Option.bind_eq_some_iff.mp hh
    obtain ⟨z', e3, hh⟩ := Option.map_eq_some_iff.mp hh
    cases hh
    refine ⟨C, ρ, G, dx, ρ1, S, e1, fun xs H1 G1 n1 r1 => ?_⟩
    have rr := r1.append (hdd G1)
    refine ⟨by rw [← rr.length]; exact hm ρ _ _ e1, G1, _, s, n1.st.gh, rr, e2, fun v H' G' st ro => ?_⟩
    cases s with
    | sh d => cases e3
    | own g o =>
      cases g with
      | true => cases e3; exact kk v H' G' ⟨RetOk.own_push n1.st st ro, n1.ex.trans st.gg, fun hp => (n1.pu hp).trans st.hh⟩
      | false => cases e3
  same := callO_same ha.same
/-- lengths of argument readings -/
def LenA (fs : FA) (m : Nat) : Prop := ∀ ρ ds ρ', fs ρ = some (ds, ρ') → ds.length = m
theorem len_nil : LenA fNil 0 := fun ρ ds ρ' h => by cases h; rfl
theorem len_cons {a : FE} (h : LenA fs m) : LenA (fCons a fs) (m + 1) := fun ρ ds ρ' hh => by
  obtain ⟨⟨dx, ρ1⟩, e1, hh⟩ := Option.bind_eq_some_iff.mp hh
  obtain ⟨⟨dy, ρ2⟩, e2, hh⟩ := Option.bind_eq_some_iff.mp hh
  cases hh
  simp [h _ _ _ e2]

/-! ### .. that change an argument -/
abbrev FAI := Fenv → Option ((List D × List D) × Fenv)
def tAI (T : Tab) (pu : Bool) (i : Nat) (f : FAI) : TA := fun σ H Q => ∃ C ρ G ds ρ', Sta T C ρ σ H G ∧ f ρ = some (ds, ρ') ∧ ∀ vpre v vpost H' G', Nxt T C ρ' σ pu H G H' G' → Reps T G' ds.1 vpre → σ[i]? = some (some v) → Reps T G' ds.2 vpost → Q (vpre ++ v :: vpost) H'
structure PAI (X : Cx) (T : Tab) (pu : Bool) (i : Nat) (es : List Expr) (f : FAI) : Prop where
  pa : PA X es (tAI T pu i f)
@[simp] def fHere (i : Nat) (fs : FA) : FAI := fun ρ => match ρ[i]? with
  | some (some (.own _ _)) => (fs ρ).bind fun x => some (([], x.1), x.2)
  | _ => none
@[simp] def fConsI (a : FE) (fs : FAI) : FAI := fun ρ => (a ρ).bind fun x => (fs x.2).bind fun y => some ((x.1 :: y.1.1, y.1.2), y.2)
theorem pai_here {i : Nat} {y : Str} {np : Pos} (ha : PAf X T pa es fs) (hN : X.N[i]? = some y := by rfl) (hv : Vis X.env.scope y := by first | exact Or.inl rfl | exact Or.inr (Or.inl rfl) | exact Or.inr (Or.inr rfl)) (hd : (y == ("__debug__" : Str)) = false := by decide) (hcd : (y == ("__classdict__" : Str)) = false := by decide)
    (hs : starEach (.Name y np :: es) X.env = (false, eval (.Name y np) X.env) :: starEach es X.env := by rfl) : PAI X T pa i (.Name y np :: es) (fHere i fs) where
  pa := (pa_cons (pe_var hN hv hd hcd) ha.pa hs).imp fun σ H Q ⟨C, ρ, G, d, ρ', S, hh, kk⟩ => by
    unfold fHere at hh
    split at hh
    · rename_i g o hi
      obtain ⟨⟨dx, ρ1⟩, e1, hh⟩ := Option.bind_eq_some_iff.mp hh
      cases hh
      obtain ⟨ow, h⟩ := S.own
      obtain ⟨v, fp, q1, q2, q3⟩ := h i g o hi
      exact ⟨v, q1, C, ρ, G, dx, ρ1, S, e1, fun vs H1 G1 n1 r1 => kk [] v vs H1 G1 n1 .nil q1 r1⟩
    · cases hh
theorem pai_cons {i : Nat} {a : Expr} {fa : FE} {fi : FAI} (ha : PEf X T pa a fa) (hr : PAI X T pb i es fi) (hs : starEach (a :: es) X.env = (false, eval a X.env) :: starEach es X.env := by rfl) : PAI X T (pa && pb) i (a :: es) (fConsI fa fi) where
  pa := (pa_cons ha.pe hr.pa hs).imp fun σ H Q ⟨C, ρ, G, d, ρ', S, hh, kk⟩ => by
    obtain ⟨⟨dx, ρ1⟩, e1, hh⟩ := Option.bind_eq_some_iff.mp hh
    obtain ⟨⟨dy, ρ2⟩, e2, hh⟩ := Option.bind_eq_some_iff.mp hh
    cases hh
    refine ⟨C, ρ, G, dx, ρ1, S, e1, fun x H1 G1 n1 r1 => ⟨C, ρ1, G1, dy, ρ2, n1.st, e2, fun vpre v vpost H2 G2 n2 rp ev rq => ?_⟩⟩
    exact kk (x :: vpre) v vpost H2 G2 (n1.trans n2) (.cons (r1.mono n2.ex) rp) ev rq
theorem Sta.callI {C : C0} {ρ : Fenv} {σ : L2.St} {H G H' G' : Hp} {i : Nat} {g : Bool} {o o' : O} {v : V} {fp fp' : List Addr} (S : Sta T C ρ σ H G) (h1 : ρ[i]? = some (some (.own g o))) (hi : σ[i]? = some (some v)) (old : OwnOk T G H o v fp)
    (ch : ∀ b u, b ∉ fp → H b = some u → H' b = some u) (th : ∀ b u, H b = some u → (∀ xs, u ≠ .tup xs) → ∃ u', H' b = some u' ∧ ∀ xs, u' ≠ .tup xs) (gg : Ex G G') (gh : Ex G' H') (fr : ∀ a u, H a = some u → (∀ xs, u ≠ .tup xs) → G a = none → G' a = none)
    (new : OwnOk T G' H' o' v fp') (sub : ∀ b ∈ fp', b ∈ fp) : Sta T C (ρ.set i (some (.own g o'))) σ H' G' := by
  obtain ⟨ow, h⟩ := S.own
  obtain ⟨w, fp2, q1, q2, q3⟩ := h i g o h1
  rw [hi] at q1; cases q1
  have hfp : fp = fp2 := old.fpEq q2
  subst hfp
  have hi' : i < ρ.length := (List.getElem?_eq_some_iff.mp h1).1
  refine ⟨gh, S.g0.trans gg, fun a u hn e => ?_, fun a u e t g0 => ?_, fun a ha => let ⟨u, e, t⟩ := S.io a ha; th a u e t, by simp [S.len], fun j d e => ?_, ?_⟩
  · refine ch a u (fun z => ?_) (S.h0 a u hn e)
    rcases C0.mine_or (q3 a z).2.2 with y | y
    · rw [y] at e; cases e
    · exact hn y
  · by_cases z : a ∈ C.io
    · obtain ⟨u', e', t'⟩ := S.io a z
      exact fr a u' e' t' (S.fr a u e t g0)
    · exact fr a u (S.h0 a u z e) t (S.fr a u e t g0)
  · by_cases q : i = j
    · subst q
      rw [List.getElem?_set_self hi'] at e
      cases e
    · rw [List.getElem?_set_ne q] at e
      obtain ⟨v', e1, r⟩ := S.sh j d e
      exact ⟨v', e1, r.mono gg⟩
  · refine ⟨ow, fun j f o2 e => ?_⟩
    by_cases q : i = j
    · subst q
      rw [List.getElem?_set_self hi'] at e
      cases e
      refine ⟨v, fp', hi, new, fun b hb => ?_⟩
      obtain ⟨u, eu, tu⟩ := old.there b (sub b hb)
      exact ⟨(q3 b (sub b hb)).1, fr b u eu tu (q3 b (sub b hb)).2.1, (q3 b (sub b hb)).2.2⟩
    · rw [List.getElem?_set_ne q] at e
      obtain ⟨w2, fp2, e1, e2, e3⟩ := h j f o2 e
      have nb : ∀ b ∈ fp2, b ∉ fp := fun b hb z => by
        have y1 := (e3 b hb).1
        rw [(q3 b z).1] at y1
        exact q (Option.some.inj y1)
      refine ⟨w2, fp2, e1, e2.mono gg fun b hb u hu => ch b u (nb b hb) hu, fun b hb => ?_⟩
      obtain ⟨u, eu, tu⟩ := e2.there b hb
      exact ⟨(e3 b hb).1, fr b u eu tu (e3 b hb).2.1, (e3 b hb).2.2⟩
@[simp] def fCallI (i : Nat) (F : FI) (a : FAI) : FE := fun ρ => (a ρ).bind fun x => match x.2[i]? with
  | some (some (.own g o)) => (F x.1.1 o x.1.2).bind fun r => (shO r.1).map fun d => (d, x.2.set i (some (.own g r.2)))
  | _ => none
@[simp] def fCallIO (i : Nat) (F : FI) (a : FAI) : FO := fun ρ => (a ρ).bind fun x => match x.2[i]? with
  | some (some (.own g o)) => (F x.1.1 o x.1.2).bind fun r => (owO r.1).map fun d => (d, x.2.set i (some (.own g r.2)))
  | _ => none
def LenI (fs : FAI) (m : Nat) : Prop := ∀ ρ ds ρ', fs ρ = some (ds, ρ') → ds.1.length + 1 + ds.2.length = m
theorem len_here {i : Nat} (h : LenA fs m) : LenI (fHere i fs) (m + 1) := fun ρ ds ρ' hh => by
  unfold fHere at hh
  split at hh
  · obtain ⟨⟨dx, ρ1⟩, e1, hh⟩ := Option.bind_eq_some_iff.mp hh
    cases hh
    have := h _ _ _ e1
    simp [this]; omega
  · cases hh
theorem len_consI {a : FE} {fi : FAI} (h : LenI fi m) : LenI (fConsI a fi) (m + 1) := fun ρ ds ρ' hh => by
  obtain ⟨⟨dx, ρ1⟩, e1, hh⟩ := Option.bind_eq_some_iff.mp hh
  obtain ⟨⟨dy, ρ2⟩, e2, hh⟩ := Option.bind_eq_some_iff.mp hh
  cases hh
  have := h _ _ _ e2
  simp; omega
theorem pef_callI {i : Nat} {FF : FI} {fi : FAI} (hc : Cal X T x (spI T m FF) []) (ha : PAI X T pa i (e :: es) fi) (hm : LenI fi m) (hg : Gl X x := by rfl) (hdb : (x == ("__debug__" : Str)) = false := by decide)
    (he : starEach (e :: es) X.env = (false, eval e X.env) :: starEach es X.env := by rfl) (hpl : (backTo pos (starEach es X.env)).any (·.1) = false := by rfl) : PEf X T false (.Call (.Name x p) (e :: es) [] pos) (fCallI i FF fi) where
  pe := (call_sem (dd := []) hc ha.pa hg hdb he hpl).imp fun σ H Q ⟨C, ρ, G, d, ρ', S, hh, kk⟩ => by
    obtain ⟨⟨ds, ρ1⟩, e1, hh⟩ := Option.bind_eq_some_iff.mp hh
    dsimp only at hh
    split at hh
    · rename_i g o hi
      obtain ⟨⟨s, o'⟩, e2, hh⟩ := Option.bind_eq_some_iff.mp hh
      obtain ⟨z', e3, hh⟩ := Option.map_eq_some_iff.mp hh
      cases hh
      refine ⟨C, ρ, G, ds, ρ1, S, e1, fun vpre v vpost H1 G1 n1 rp ev rq => ?_⟩
      obtain ⟨ow, h⟩ := n1.st.own
      obtain ⟨v2, fp, q1, q2, q3⟩ := h i g o hi
      rw [ev] at q1; cases q1
      refine ⟨?_, G1, ds.1, o, ds.2, vpre, v, vpost, fp, s, o', by simp, n1.st.gh, rp, rq, q2, fun b hb => (q3 b hb).2.1, e2, fun w H' G' fp' ch th gg gh fr new sub ro => ?_⟩
      · have := hm _ _ _ e1
        simp [← rp.length, ← rq.length]; omega
      · cases s with
        | sh d => cases e3; exact kk w H' G' ⟨n1.st.callI hi ev q2 ch th gg gh fr new sub, n1.ex.trans gg, fun hp => nomatch hp⟩ ro
        | own _ _ => cases e3
    · cases hh
  same := fun h => nomatch h
theorem peo_callI {i : Nat} {FF : FI} {fi : FAI} (hc : Cal X T x (spI T m FF) []) (ha : PAI X T pa i (e :: es) fi) (hm : LenI fi m) (hg : Gl X x := by rfl) (hdb : (x == ("__debug__" : Str)) = false := by decide)
    (he : starEach (e :: es) X.env = (false, eval e X.env) :: starEach es X.env := by rfl) (hpl : (backTo pos (starEach es X.env)).any (·.1) = false := by rfl) : PEo X T false (.Call (.Name x p) (e :: es) [] pos) (fCallIO i FF fi) where
  pe := (call_sem (dd := []) hc ha.pa hg hdb he hpl).imp fun σ H Q ⟨C, ρ, G, d, ρ', S, hh, kk⟩ => by
    obtain ⟨⟨ds, ρ1⟩, e1, hh⟩ := Option.bind_eq_some_iff.mp hh
    dsimp only at hh
    split at hh
    · rename_i g o hi
      obtain ⟨⟨s, o'⟩, e2, hh⟩ := Option.bind_eq_some_iff.mp hh
      obtain ⟨z', e3, hh⟩ := Option.map_eq_some_iff.mp hh
      cases hh
      refine ⟨C, ρ, G, ds, ρ1, S, e1, fun vpre v vpost H1 G1 n1 rp ev rq => ?_⟩
      obtain ⟨ow, h⟩ := n1.st.own
      obtain ⟨v2, fp, q1, q2, q3⟩ := h i g o hi
      rw [ev] at q1; cases q1
      refine ⟨?_, G1, ds.1, o, ds.2, vpre, v, vpost, fp, s, o', by simp, n1.st.gh, rp, rq, q2, fun b hb => (q3 b hb).2.1, e2, fun w H' G' fp' ch th gg gh fr new sub ro => ?_⟩
      · have := hm _ _ _ e1
        simp [← rp.length, ← rq.length]; omega
      · cases s with
        | sh d => cases e3
        | own g2 o2 =>
          cases g2 with
          | false => cases e3
          | true =>
            cases e3
            have S1 := n1.st.callI hi ev q2 ch th gg gh fr new sub
            obtain ⟨fpr, t1, t2⟩ := ro
            refine kk w H' G' ⟨S1.push t1 fun b hb => ⟨(t2 b hb).1, n1.st.freeH0 (t2 b hb).2, fun j f o3 v' fp3 y1 y2 y3 hb' => ?_⟩, n1.ex.trans gg, fun hp => nomatch hp⟩
            have hH1 := (t2 b hb).2
            by_cases z : i = j
            · subst z
              rw [List.getElem?_set_self (List.getElem?_eq_some_iff.mp hi).1] at y1
              cases y1
              rw [ev] at y2
              cases y2
              rw [y3.fpEq new] at hb'
              obtain ⟨u, eu, _⟩ := q2.there b (sub b hb')
              rw [hH1] at eu
              cases eu
            · rw [List.getElem?_set_ne z] at y1
              obtain ⟨w2, fp4, x1, x2, x3⟩ := h j f o3 y1
              rw [y2] at x1
              cases x1
              have nb : ∀ b ∈ fp4, b ∉ fp := fun b hb z' => by
                have y1 := (x3 b hb).1
                rw [(q3 b z').1] at y1
                exact z (Option.some.inj y1)
              rw [y3.fpEq (x2.mono gg fun a ha u hu => ch a u (nb a ha) hu)] at hb'
              obtain ⟨u, eu, _⟩ := x2.there b hb'
              rw [hH1] at eu
              cases eu
    · cases hh
  same := fun h => nomatch h
end
end Fl
end

section
set_option Elab.async false
set_option linter.all false
set_option autoImplicit false
set_option maxRecDepth 100000
set_option maxHeartbeats 2000000

namespace HT
open PySem PySem.W PySem.Calls PyProof.Rows PyProof.V PySem.Spec
section
variable {prog : Program} {w : World} {A : Around} {E : Value → Shared → Prop} {s : Shared}
theorem fl_adjust (n : Nat) : Builtin.Slice.sliceAdjust none none (-1) (n : Int) = ((n : Int) - 1, -1) := by
  unfold Builtin.Slice.sliceAdjust
  simp
theorem fl_places (n : Nat) : Builtin.Slice.slicePlaces ((n : Int) - 1) (-1) (-1) = n := by
  unfold Builtin.Slice.slicePlaces
  simp
  omega
theorem fl_fm {α β : Type} {f g : α → Option β} : ∀ {l : List α}, (∀ a ∈ l, f a = g a) → l.filterMap f = l.filterMap g
  | [], _ => rfl
  | a :: l, h => by rw [List.filterMap_cons, List.filterMap_cons, h a (by simp), fl_fm fun b hb => h b (by simp [hb])]
theorem fl_pick (xs : Array Value) : ((List.range xs.size).filterMap fun (m : Nat) => xs[((xs.size : Int) - 1 + (m : Int) * (-1)).toNat]?).toArray = xs.toList.reverse.toArray := by
  have e : (List.range xs.size).filterMap (fun (m : Nat) => xs[((xs.size : Int) - 1 + (m : Int) * (-1)).toNat]?) = ((List.range xs.size).map fun k => xs.size - 1 - k).filterMap (xs[·]?) := by
    rw [List.filterMap_map]
    refine fl_fm fun k hk => ?_
    have := List.mem_range.mp hk
    show xs[((xs.size : Int) - 1 + (k : Int) * (-1)).toNat]? = xs[xs.size - 1 - k]?
    rw [show ((xs.size : Int) - 1 + (k : Int) * (-1)).toNat = xs.size - 1 - k by omega]
  rw [e, PySem.W.krv_range, List.filterMap_reverse, PySem.W.krv_all]
theorem fl_applied {sl : Addr} {vl vu vs : Value} {n : Nat} {Q : Int × Int × Nat → Shared → Prop} (hs : s.heap.IsSliceOf sl vl vu vs) (pl : IsPart vl none) (pu : IsPart vu none) (ps : IsPart vs (some (-1)))
    (h : Q ((n : Int) - 1, -1, n) s) : wpAny (model prog w) A (Builtin.Slice.sliceApplied (.ref sl) (pure (n : Int))) Q E s := by
  obtain ⟨os, hos, hcs, hds⟩ := id hs
  unfold Builtin.Slice.sliceApplied Builtin.Slice.sliceFields
  refine wpAny_bind (wpAny_bind (wpAny_field hos hds (x := vl) rfl (wpAny_bind (wpAny_field hos hds (x := vu) rfl (wpAny_bind (wpAny_field hos hds (x := vs) rfl (wpAny_pure ?_)))))))
  refine wpAny_bind (slicePart_ ps ?_)
  show wpAny _ _ (if ((-1 : Int) == 0) = true then _ else _) _ _ s
  rw [if_neg (by decide)]
  refine wpAny_bind (slicePart_ pl (wpAny_bind (slicePart_ pu (wpAny_bind (wpAny_pure ?_)))))
  show wpAny _ _ (match Builtin.Slice.sliceAdjust none none (-1) (n : Int) with | (lo, hi) => pure (lo, (-1 : Int), Builtin.Slice.slicePlaces lo hi (-1))) _ _ s
  rw [fl_adjust n]
  show wpAny _ _ (pure ((n : Int) - 1, (-1 : Int), Builtin.Slice.slicePlaces ((n : Int) - 1) (-1) (-1))) _ _ s
  rw [fl_places]
  exact wpAny_pure h
theorem fl_tuple_rev {t sl : Addr} {items : Array Value} {vl vu vs : Value} {Q : Value → Shared → Prop} (ht : IsTup s.heap t items) (hs : s.heap.IsSliceOf sl vl vu vs) (pl : IsPart vl none) (pu : IsPart vu none) (ps : IsPart vs (some (-1)))
    (h : Q (.ref s.heap.objs.size) { s with heap := s.heap.push { cls := .type "tuple", data := .seq items.toList.reverse.toArray } })
    (hsz : items.size ≤ sizeLine) : wpAny (model prog w) A (getItem (.ref t) (.ref sl)) Q E s := by
  have htake : sizeOk (.seq items.toList.reverse.toArray) := by
    show items.toList.reverse.toArray.size ≤ sizeLine
    rw [List.size_toArray, List.length_reverse, Array.length_toList]
    exact hsz
  obtain ⟨os, hos, hcs, hds⟩ := id hs
  have hTs : s.TypeIs (.ref sl) "slice" := ⟨os, hos, hcs⟩
  unfold getItem
  try with_reducible refine wpAny_holding ?_
  first | refine wpAny_bind (wpAny_pure ?_) | skip
  refine wpAny_bind (wpAny_sequenceKey ht.typeIs (by decide) ?_)
  refine wpAny_bind (wpAny_callSpecial?_slot (name := Str.ofString "__getitem__") ht.typeIs PyProof.Rows.slot_tuple_getitem
    (wpAny_call_entry PyProof.Rows.slot_tuple_getitem ht.typeIs entry_tuple_getitem ?_ (args_tuple_getitem _ _)))
  show wpAny _ _ (Builtin.Tuple.tupleItemsOf (.ref t) >>= _) _ _ s
  refine wpAny_bind (tupleItemsOf_ ht ?_)
  refine wpAny_bind (wpAny_typeOf hTs ?_)
  rw [if_pos (by decide)]
  refine wpAny_bind (fl_applied hs pl pu ps ?_)
  show wpAny _ _ (if ((((items.size : Nat) : Int) - 1) == 0 && (-1 : Int) == 1 && items.size == items.size) = true then _ else _) _ _ s
  rw [if_neg (by simp), fl_pick]
  first
    | exact wpAny_bind (m := Builtin.Tuple.tupleExact _) (wpAny_newObj_type (wpAny_pure ⟨_, rfl, wpAny_pure h⟩) htake)
    | exact wpAny_bind (m := Builtin.Tuple.tupleExact _) (wpAny_newObj_type (wpAny_bind (wpAny_pure (wpAny_pure ⟨_, rfl, wpAny_pure h⟩))) htake)
    | exact wpAny_bind (wpAny_bind (m := Builtin.Tuple.tupleExact _) (wpAny_newObj_type (wpAny_pure (wpAny_pure ⟨_, rfl, wpAny_pure h⟩)) htake))
    | exact wpAny_bind (wpAny_bind (m := Builtin.Tuple.tupleExact _) (wpAny_newObj_type (wpAny_pure ⟨_, rfl, wpAny_pure h⟩) htake))
end
end HT

namespace Fl
open PySem PySem.Spec PyProof.Rows L2

/-! ### t[::-1] -/
def tRevT (K : PySem.W.Frag) (te : TE) : TE := fun σ H Q => te σ H fun x H1 => ∃ a xs, x = .ref a ∧ SqT K H1 a xs ∧ ∀ p, H1 p = none → Q (.ref p) (upd H1 p (.tup xs.reverse))
theorem pe_revT {X : Cx} {e : Expr} {te : TE} {k : Nat} {p1 p2 p3 pos : Pos} (he : PE X e te) : PE X (.Subscript e (.Slice none none (some (.UnaryOp .USub (.Constant (.int 1) k p1) p2)) p3) pos) (tRevT X.K te) := by
  refine ⟨fun pins s σ H Q I h => ?_⟩
  refine Subscript_ (thn (he.run pins s σ H _ I h) fun v s1 ⟨x, H1, I1, r1, q1⟩ => ?_)
  obtain ⟨a, xs, ex, hx, q⟩ := q1
  subst ex
  cases r1
  have hst : PO X (some (.UnaryOp .USub (.Constant (.int 1) k p1) p2)) (tPart (tUn (rU fun i => .int (-i)) (tC (.int 1)))) := po_some (pe_un un_neg pe_int)
  refine wpAny_Slice (thn (po_none.run pins s1 σ H1 (fun o H2 => o = none ∧ H2 = H1) I1 ⟨rfl, rfl⟩) fun vl s2 ⟨l, H2, I2, pl, el, e2⟩ => ?_)
  subst el e2
  refine thn (po_none.run pins s2 σ H2 (fun o H3 => o = none ∧ H3 = H2) I2 ⟨rfl, rfl⟩) fun vu s3 ⟨u, H3, I3, pu, eu, e3⟩ => ?_
  subst eu e3
  refine thn (hst.run pins s3 σ H3 (fun o H4 => o = some (-1) ∧ H4 = H3) I3 ⟨1, rfl, -1, rfl, rfl, rfl⟩) fun vs s4 ⟨o, H4, I4, ps, eo, e4⟩ => ?_
  subst eo e4
  have I5 : Inv X pins σ H4 { s4 with heap := s4.heap.push { cls := .type "slice", data := .fields #[vl, vu, vs] } } := I4.kept (t' := s4.toks) fun b ob q => Heap.get?_push_of_some _ q
  obtain ⟨its, r, ht, hz⟩ := I5.tuple hx
  have hlen := r.length
  show wpAny (model X.prog X.w) X.A (subscriptTail e (.Slice none none (some (.UnaryOp .USub (.Constant (.int 1) k p1) p2)) p3) (.ref a) (.ref s4.heap.objs.size)) (EP X pins σ Q) X.xe { s4 with heap := s4.heap.push { cls := .type "slice", data := .fields #[vl, vu, vs] } }
  refine tail_any (ops := [.ref a, .ref s4.heap.objs.size]) ht.typeIs PyProof.Rows.slot_tuple_getitem.lookup ?_ (by with_unfolding_all rfl)
  refine HT.fl_tuple_rev ht (Heap.IsSliceOf.new _ vl vu vs) pl pu ps ?_ (by rw [List.size_toArray]; omega)
  refine ⟨.ref _, _, I5.laid (t' := s4.toks) (o := .tup xs.reverse) (fun b ob q => Heap.get?_push_of_some _ q) (Nat.le_refl _) ?_, rfl, q _ (I5.hok.fresh (Nat.le_refl _))⟩
  exact ⟨by rw [List.length_reverse]; exact hz, its.reverse, r.reverse, ⟨_, Heap.get?_push_size _ rfl, rfl, _, rfl⟩⟩
section
variable {X : Cx} {T : Tab} {pu pa pb pc : Bool} {a b c e : Expr} {es : List Expr} {fa fb : FE} {ft : FT} {p p1 p2 p3 pos : Pos}
@[simp] def dRevT : D → Option D
  | .tup l => some (.tup l.reverse)
  | _ => none
@[simp] def dRevL : D → Option (List D)
  | .lst l => some l.reverse
  | _ => none
theorem pef_revT {k : Nat} (h : PEf X T pa e fa) : PEf X T pa (.Subscript e (.Slice none none (some (.UnaryOp .USub (.Constant (.int 1) k p1) p2)) p3) pos) (fUn dRevT fa) where
  pe := (pe_revT h.pe).imp fun σ H Q ⟨C, ρ, G, d, ρ', S, hh, kk⟩ => by
    obtain ⟨⟨dx, ρ1⟩, e1, hh⟩ := Option.bind_eq_some_iff.mp hh
    obtain ⟨z', e3, hh⟩ := Option.map_eq_some_iff.mp hh
    cases hh
    refine ⟨C, ρ, G, dx, ρ1, S, e1, fun x H1 G1 n1 r1 => ?_⟩
    cases r1 with
    | tup hg rr =>
      cases e3
      exact ⟨_, _, rfl, .inl (.inl (n1.st.gh _ _ hg)), fun q hq => kk _ _ _ (n1.stp (Stp.new n1.st.gh hq)) (.tup upd_same (rr.reverse.mono (Ex.new (n1.st.gh.free hq))))⟩
    | _ => cases e3
  same := un_same h.same
theorem peo_revL {k : Nat} (h : PEf X T pa e fa) : PEo X T pa (.Subscript e (.Slice none none (some (.UnaryOp .USub (.Constant (.int 1) k p1) p2)) p3) pos) (fLst (fUn dRevL fa)) where
  pe := (pe_revL h.pe).imp fun σ H Q ⟨C, ρ, G, d, ρ', S, hh, kk⟩ => by
    obtain ⟨⟨l', ρ2⟩, h2, e0⟩ := Option.bind_eq_some_iff.mp hh
    cases e0
    obtain ⟨⟨dx, ρ1⟩, e1, h2⟩ := Option.bind_eq_some_iff.mp h2
    obtain ⟨z', e3, h2⟩ := Option.map_eq_some_iff.mp h2
    cases h2
    refine ⟨C, ρ, G, dx, ρ1, S, e1, fun x H1 G1 n1 r1 => ?_⟩
    cases r1 with
    | lst hg rr =>
      cases e3
      exact ⟨_, _, rfl, .inl (.inl (n1.st.gh _ _ hg)), fun q hq => kk _ _ _ (n1.push hq rr.reverse)⟩
    | _ => cases e3
  same := fun hp ρ z ρ' hh => by
    obtain ⟨⟨l', ρ2⟩, h2, e0⟩ := Option.bind_eq_some_iff.mp hh
    cases e0
    exact un_same h.same hp _ _ _ h2

/-! ### truth -/
@[simp] def dTruth : D → Option Bool
  | .non => some false
  | .bl b => some b
  | .int i => some (i != 0)
  | .lst l => some (!l.isEmpty)
  | .tup l => some (!l.isEmpty)
  | _ => none
theorem reps_empty {G : Hp} {l : List D} {xs : List V} (r : Reps T G l xs) : l.isEmpty = xs.isEmpty := by
  cases r <;> rfl
theorem tru_of {K : PySem.W.Frag} {G H : Hp} {d : D} {x : V} {t : Bool} (e : Ex G H) (r : Rep T G d x) (h : dTruth d = some t) : TruV K x H t := by
  cases r with
  | non => cases h; rfl
  | bl b => cases h; rfl
  | int i => cases h; rfl
  | lst hg rr => cases h; rw [reps_empty rr]; exact .inl ⟨_, .inl (.inl (e _ _ hg)), rfl⟩
  | tup hg rr => cases h; rw [reps_empty rr]; exact .inr (.inl ⟨_, .inl (.inl (e _ _ hg)), rfl⟩)
  | _ => cases h
theorem l_truth {K : PySem.W.Frag} : LiftT T (fun x H Q => ∃ k, TruV K x H k ∧ Q k H) dTruth := fun H G dx x b e r h Q q => ⟨b, tru_of e r h, q⟩
/-- if e: by truth -/
theorem ptf_tru (h : PEf X T pa e fa) (he : ∀ whole, isTrue e X.env whole = (do let v ← whole; standAt e.pos; holding [v] (truthy v)) := by intro _; rfl) : PTf X T pa e (fUn dTruth fa) := ptf_truth l_truth h he
@[simp] def dNotT (d : D) : Option D := (dTruth d).map fun b => .bl (!b)
theorem pef_notT (h : PEf X T pa a fa) : PEf X T pa (.UnaryOp .Not a pos) (fUn dNotT fa) where
  pe := (pe_notT h.pe).imp fun σ H Q ⟨C, ρ, G, d, ρ', S, hh, kk⟩ => by
    obtain ⟨⟨dx, ρ1⟩, e1, hh⟩ := Option.bind_eq_some_iff.mp hh
    obtain ⟨z', e3, hh⟩ := Option.map_eq_some_iff.mp hh
    cases hh
    refine ⟨C, ρ, G, dx, ρ1, S, e1, fun x H1 G1 n1 r1 => ?_⟩
    obtain ⟨b, e4, e5⟩ := Option.map_eq_some_iff.mp e3
    subst e5
    exact ⟨b, tru_of n1.st.gh r1 e4, kk _ H1 G1 n1 (.bl _)⟩
  same := un_same h.same

/-! ### a, b = e -/
theorem psf_tgt {tg : Expr} {js : List Nat} {g : FG} (he : PEf X T pa e fa) (hg : PGf X T tg js g) (hs : swapsWithSole [tg] e pos.line X.env = pure false := by rfl) (hw : swappedStores [tg] e X.env = pure none := by rfl)
    (h1 : (assignEach [tg] X.env).map (·.2) = [assign tg X.env] := by rfl) : PSf X T (.Assign [tg] e pos) (fTo g fa) := psf_to (ps := ps_asg he.pe hg.pg hs hw h1)

/-! ### lists of lists that the def owns -/
@[simp] def fLc0 (it : FA) (g : FG) (vs : List Nat) : FO := fun ρ => (it ρ).bind fun x => if x.1.length < many && noOwn x.2 vs && x.1.all (fun d => (g d (wipeF x.2 vs)).isSome) then some (.ll (x.1.map fun _ => []), x.2) else none
theorem lls_new {G H : Hp} {n : Nat} {as : List Addr} (hl : as.length = n) (h : ∀ a ∈ as, H a = some (.lst [])) : LLs T G H (List.replicate n []) as := by
  induction as generalizing n with
  | nil => subst hl; exact .nil
  | cons a as ih =>
    subst hl
    exact .cons ⟨[], h a (by simp), .nil⟩ (ih rfl fun b hb => h b (by simp [hb]))
theorem lc0_run {σ : L2.St} {H : Hp} {Q : VK} {fi : FA} {g : FG} {js vs : List Nat} (hs : ∀ j ∈ js, j ∈ vs) (hg : Keeps js g) (h : tOw T pa (fLc0 fi g vs) σ H Q) : tLc (tIt T pa fi) (tG T js g) tYes (tLst tNil) vs σ H Q := by
  obtain ⟨C, ρ, G, o, ρ', S, hh, k⟩ := h
  obtain ⟨⟨ds, ρ1⟩, e1, hh⟩ := Option.bind_eq_some_iff.mp hh
  dsimp only at hh
  split at hh
  case isFalse => cases hh
  rename_i hc
  cases hh
  rw [Bool.and_eq_true, Bool.and_eq_true] at hc
  obtain ⟨⟨hlen, hno⟩, hall⟩ := hc
  have hlen := of_decide_eq_true hlen
  refine ⟨C, ρ, G, ds, _, S, e1, fun J H1 G1 n1 ⟨Y, W, wy⟩ D hD => ?_⟩
  have gD : G1 D = none := n1.st.gh.free hD
  refine ⟨fun i m H' => m = ds.length - i ∧ i ≤ ds.length ∧ ∃ (G2 : Hp) (as : List Addr), Stp H1 G1 H' G2 ∧ H' D = some (.lst (as.map .ref)) ∧ G2 D = none ∧ as.length = i ∧ (∀ a ∈ as, H1 a = none ∧ H' a = some (.lst []) ∧ G2 a = none ∧ a ≠ D) ∧ as.Nodup,
    ⟨_, rfl, Nat.zero_le _, G1, [], Stp.grow n1.st.gh hD, upd_same, gD, rfl, by simp, List.nodup_nil⟩, ?_⟩
  rintro i m H2 ⟨rfl, hi, G2, as, st, hDs, gD2, hal, has, hnd⟩
  by_cases hlt : i < ds.length
  · refine .inr ⟨W.goes i H2 hlt (st.gg.trans st.gh), fun H' => ∃ (G2 : Hp) (as : List Addr), Stp H1 G1 H' G2 ∧ H' D = some (.lst (as.map .ref)) ∧ G2 D = none ∧ as.length = i + 1 ∧ (∀ a ∈ as, H1 a = none ∧ H' a = some (.lst []) ∧ G2 a = none ∧ a ≠ D) ∧ as.Nodup, fun H' q => ⟨ds.length - (i + 1), by omega, rfl, hlt, q⟩, fun x H' y => ?_⟩
    have yy := W.yields i H2 x H' hlt (st.gg.trans st.gh) y
    obtain ⟨d, G3, hd, st3, rd⟩ := wy i H2 x H' G2 st.gg st.gh yy
    have hd' : d ∈ ds := List.mem_of_getElem? hd
    have hso := List.all_eq_true.mp hall d hd'
    obtain ⟨ρ3, e3⟩ := Option.isSome_iff_exists.mp hso
    have st13 := st.trans st3
    have S3 := (n1.st.stp st13).wiped vs
    refine ⟨C, _, G3, d, ρ3, S3, rd, e3, fun σ2 S4 hl3 k3 => ⟨wipe_eq (by rw [hl3, wipe_length]) hs k3, ?_⟩⟩
    unfold tYes; dsimp only
    rw [if_pos rfl]
    refine ⟨Nat.zero_le _, fun q hq => ?_⟩
    have hDs3 := st3.hh _ _ hDs
    have qD : q ≠ D := fun z => by rw [z, hDs3] at hq; cases hq
    have gq : G3 q = none := st3.gh.free hq
    have gD3 : G3 D = none := st3.fr D _ hDs (fun _ z => nomatch z) gD2
    refine ⟨as.map .ref, by rw [upd_ne (Ne.symm qD)]; exact hDs3, Nat.lt_of_lt_of_le (by simp; omega) many_le, G3, as ++ [q], ⟨?_, st13.gg, ?_, fun a u ha t ga => st13.fr a u ha t ga⟩, by rw [upd_same]; simp, gD3, by simp [hal], fun a ha => ?_, List.nodup_append.mpr ⟨hnd, List.nodup_cons.mpr ⟨by simp, List.nodup_nil⟩, fun a ha b hb z => ?_⟩⟩
    · intro a u ha
      have n1' : a ≠ q := fun z => by rw [z, st13.hh.free hq] at ha; cases ha
      have n2' : a ≠ D := fun z => by rw [z, hD] at ha; cases ha
      rw [upd_ne n2', upd_ne n1']
      exact st13.hh a u ha
    · intro a u ha
      have n1' : a ≠ q := fun z => by rw [z, gq] at ha; cases ha
      have n2' : a ≠ D := fun z => by rw [z, gD3] at ha; cases ha
      rw [upd_ne n2', upd_ne n1']
      exact st13.gh a u ha
    · rcases List.mem_append.mp ha with ha | ha
      · obtain ⟨h1, h2, h3, h4⟩ := has a ha
        have h2' := st3.hh _ _ h2
        have n1' : a ≠ q := fun z => by rw [z, hq] at h2'; cases h2'
        exact ⟨h1, by rw [upd_ne h4, upd_ne n1']; exact h2', st3.fr a _ h2 (fun _ z => nomatch z) h3, h4⟩
      · have ha : a = q := by simpa using ha
        subst ha
        exact ⟨st13.hh.free hq, by rw [upd_ne qD, upd_same], gq, qD⟩
    · have hb : b = q := by simpa using hb
      have h2 := st3.hh _ _ (has a ha).2.1
      rw [z, hb, hq] at h2
      cases h2
  · have e : i = ds.length := by omega
    subst e
    refine .inl ⟨W.stops H2 (st.gg.trans st.gh), k _ H2 G2 ⟨?_, n1.ex.trans st.gg, fun hp => (n1.pu hp).trans st.hh⟩⟩
    refine (n1.st.stp st).push (fp := D :: as) ⟨D, as, rfl, rfl, hDs, ?_, List.nodup_cons.mpr ⟨fun z => (has D z).2.2.2 rfl, hnd⟩⟩ fun b hb => ?_
    · have e4 : (ds.map fun _ => ([] : List Fl.D)) = List.replicate ds.length [] := List.map_const'
      rw [e4]
      exact lls_new hal fun a ha => (has a ha).2.1
    · have hb1 : H1 b = none ∧ G2 b = none := by
        rcases List.mem_cons.mp hb with z | z
        · subst z; exact ⟨hD, gD2⟩
        · exact ⟨(has b z).1, (has b z).2.2.1⟩
      refine ⟨hb1.2, n1.st.freeH0 hb1.1, fun j f o' v' fp' q1 q2 q3 hb' => ?_⟩
      obtain ⟨ow, q⟩ := n1.st.own
      obtain ⟨w, fp2, y1, y2, y3⟩ := q j f o' q1
      rw [q2] at y1
      cases y1
      rw [q3.fpEq (y2.mono st.gg fun a _ u hu => st.hh a u hu)] at hb'
      obtain ⟨u, eu, _⟩ := y2.there b hb'
      rw [hb1.1] at eu
      cases eu
theorem lc0_same {fi : FA} {g : FG} {vs : List Nat} (h : Same1 pa fi) : Same1 pa (fLc0 fi g vs) := fun hp ρ z ρ' hh => by
  obtain ⟨⟨ds, ρ1⟩, e1, hh⟩ := Option.bind_eq_some_iff.mp hh
  dsimp only at hh
  split at hh
  · cases hh; exact h hp _ _ _ e1
  · cases hh
theorem peo_lc0 {tg iter : Expr} {fi : FA} {g : FG} {js : List Nat} {scope : Scope} {own : List (Str × Nat)} {pl : Pos} (hc : X.calm = true) (hN : X.N.Nodup) (ok : BlkOk X.N X.env.scope scope own) (hi : PIf X T pa tg iter fi)
    (hg : ∀ (s : Shared) (H : Hp) (C : Addr) (cl : List (Str × Addr)) (fp : List Addr), PGf (X.blk s H scope (compEnvC scope cl C X.env) fp) T tg js g) (hsub : ∀ j ∈ js, j ∈ own.map (·.2) := by decide) (hs : ∀ x, foldedSetIterable iter X.env x = pure x := by intro _; rfl) :
    PEo X T pa (.ListComp (.List [] pl) [⟨tg, iter, [], 0⟩] scope pos) (fLc0 fi g (own.map (·.2))) where
  pe := (pe_lc hc hN hi.pi ok (fun s H C cl fp => (hg s H C cl fp).pg) (fun s H C cl fp => pts_nil) (fun s H C cl fp => pe_lst pa_nil) hs).imp fun σ H Q h => lc0_run hsub (hg X.s_0 (fun _ => none) 0 [] []).keep h
  same := lc0_same hi.same
theorem psf_setLc0 {i : Nat} {y : Str} {py : Pos} {tg iter : Expr} {fi : FA} {g : FG} {js : List Nat} {scope : Scope} {own : List (Str × Nat)} {pl spos : Pos} (hc : X.calm = true) (hN : X.N.Nodup) (ok : BlkOk X.N X.env.scope scope own) (hi : PIf X T pa tg iter fi)
    (hg : ∀ (s : Shared) (H : Hp) (C : Addr) (cl : List (Str × Addr)) (fp : List Addr), PGf (X.blk s H scope (compEnvC scope cl C X.env) fp) T tg js g) (hsub : ∀ j ∈ js, j ∈ own.map (·.2) := by decide) (hs : ∀ x, foldedSetIterable iter X.env x = pure x := by intro _; rfl)
    (hy : X.N[i]? = some y := by rfl) (hyl : X.env.scope.names.lookup y = some .local := by rfl) (hsw : swapsWith (.ListComp (.List [] pl) [⟨tg, iter, [], 0⟩] scope pos) (some (.Name y py)) spos.line X.env = pure true := by exact sw_true rfl rfl rfl rfl) :
    PSf X T (.Assign [.Name y py] (.ListComp (.List [] pl) [⟨tg, iter, [], 0⟩] scope pos) spos) (fSetO i (fLc0 fi g (own.map (·.2)))) :=
  ⟨(ps_setLc hc hN hy hyl hsw hi.pi ok (fun s H C cl fp => (hg s H C cl fp).pg) (fun s H C cl fp => pts_nil) (fun s H C cl fp => pe_lst pa_nil) hs).imp fun D σ H ⟨C, ρ, G, out, S, hh, k⟩ => by
    obtain ⟨⟨d, ρ1⟩, e1, hh⟩ := Option.bind_eq_some_iff.mp hh
    cases hh
    exact lc0_run hsub (hg X.s_0 (fun _ => none) 0 [] []).keep ⟨C, ρ, G, d, ρ1, S, e1, fun v H1 G1 n1 => k _ H1 G1 n1.st.assignOwn n1.ex⟩⟩
end
end Fl
end

section
set_option Elab.async false
set_option linter.all false
set_option autoImplicit false
set_option maxRecDepth 100000
set_option maxHeartbeats 2000000
namespace Fl
open PySem PySem.Spec PyProof.Rows L2

/-! ### x[n].append(e), x a list of lists that the def owns -/
theorem LLs.get {T : Tab} {G H : Hp} {dss : List (List D)} {as : List Addr} {k : Nat} {ds : List D} (r : LLs T G H dss as) (h : dss[k]? = some ds) : ∃ b xs, as[k]? = some b ∧ H b = some (.lst xs) ∧ Reps T G ds xs := by
  unfold LLs at r
  induction r generalizing k with
  | nil => simp at h
  | cons r1 r2 ih =>
    cases k with
    | zero => simp at h; subst h; obtain ⟨xs, e1, e2⟩ := r1; exact ⟨_, xs, rfl, e1, e2⟩
    | succ k => simp at h; obtain ⟨b, xs, e, q⟩ := ih h; exact ⟨b, xs, by simpa using e, q⟩
theorem LLs.length {T : Tab} {G H : Hp} {dss : List (List D)} {as : List Addr} (r : LLs T G H dss as) : dss.length = as.length := Paired.length r
theorem LLs.set {T : Tab} {G H : Hp} {dss : List (List D)} {as : List Addr} {k : Nat} {b : Addr} {es : List D} {ys : List V} (r : LLs T G H dss as) (h : as[k]? = some b) (nd : as.Nodup) (q : Reps T G es ys) : LLs T G (upd H b (.lst ys)) (dss.set k es) as := by
  unfold LLs at *
  induction r generalizing k with
  | nil => simp at h
  | @cons d1 a1 l1 l2 r1 r2 ih =>
    have nd' := List.nodup_cons.mp nd
    cases k with
    | zero =>
      simp at h
      subst h
      refine .cons ⟨ys, upd_same, q⟩ ?_
      clear ih nd
      have : ∀ (l1 : List (List D)) (l2 : List Addr), a1 ∉ l2 → Paired (fun (ds : List D) (a : Addr) => ∃ xs, H a = some (.lst xs) ∧ Reps T G ds xs) l1 l2 → Paired (fun (ds : List D) (a : Addr) => ∃ xs, upd H a1 (.lst ys) a = some (.lst xs) ∧ Reps T G ds xs) l1 l2 := by
        intro l1 l2 hn r
        induction r with
        | nil => exact .nil
        | cons r1 r2 ih =>
          obtain ⟨xs, e1, e2⟩ := r1
          exact .cons ⟨xs, by rw [upd_ne (by intro z; exact hn (by simp [z]))]; exact e1, e2⟩ (ih fun z => hn (by simp [z]))
      exact this l1 l2 nd'.1 r2
    | succ k =>
      simp at h
      obtain ⟨xs, e1, e2⟩ := r1
      have : a1 ≠ b := fun z => nd'.1 (by rw [z]; exact List.mem_of_getElem? h)
      exact .cons ⟨xs, by rw [upd_ne this]; exact e1, e2⟩ (ih h nd'.2)
section
variable {X : Cx} {T : Tab} {pu pa pb : Bool} {a b c e : Expr} {es : List Expr} {f fa fb fc : FE} {fs : FA} {p pos pos' : Pos}
@[simp] def fAppL (i : Nat) (fn f : FE) : FS := fun ρ => (fn ρ).bind fun n => (f n.2).bind fun x => match ρ[i]?, n.1 with
  | some (some (.own g (.ll l))), .int j => match ixN l.length j with
    | some k => match l[k]? with
      | some ds => if ds.length < many then some (.nx (ρ.set i (some (.own g (.ll (l.set k (ds ++ [x.1]))))))) else none
      | none => none
    | none => none
  | _, _ => none
theorem ixN_atI {α : Type} {l : List α} {j : Int} {k : Nat} (h : ixN l.length j = some k) : atI l j = l[k]? := by
  unfold atI
  rw [h]
  rfl
theorem psf_appL {i : Nat} {x : Str} {apos cpos np sp : Pos} (hn : PEf X T true a fa) (he : PEf X T true e f) (hN : X.N[i]? = some x := by rfl) (hv : Vis X.env.scope x := by first | exact Or.inl rfl | exact Or.inr (Or.inl rfl) | exact Or.inr (Or.inr rfl)) (hd : (x == ("__debug__" : Str)) = false := by decide) (hcd : (x == ("__classdict__" : Str)) = false := by decide)
    (hpx : PlainIx a := by exact fun _ _ => rfl)
    (hpl : ∀ {ta tb : TE}, PE X (.Subscript (.Name x np) a sp) ta → PE X e tb → PE X (.Call (.Attribute (.Subscript (.Name x np) a sp) "append" apos) [e] [] cpos) (tBM X.K "list" rAppend ta (tCons tb tNil)) := by
      exact fun h1 h2 => pe_bm PySem.F.plainAttrs_list PySem.F.slot_list_append PySem.F.type_list_append mt_append h1 (pa_cons h2 pa_nil))
    (hs : swapsWith (.Call (.Attribute (.Subscript (.Name x np) a sp) "append" apos) [e] [] cpos) none pos.line X.env = pure false := by rfl) :
    PSf X T (.Expr (.Call (.Attribute (.Subscript (.Name x np) a sp) "append" apos) [e] [] cpos) pos) (fAppL i fa f) :=
  ⟨(ps_expr (hpl (pe_ix ix_list (pe_var hN hv hd hcd) hn.pe hpx) he.pe) hs).imp fun D σ H ⟨C, ρ, G, out, S, hh, k⟩ => by
    obtain ⟨⟨dn, ρ1⟩, e1, hh⟩ := Option.bind_eq_some_iff.mp hh
    obtain ⟨⟨dx, ρ2⟩, e2, hh⟩ := Option.bind_eq_some_iff.mp hh
    have q1 : ρ1 = ρ := hn.same rfl _ _ _ e1
    subst q1
    have q2 : ρ2 = ρ1 := he.same rfl _ _ _ e2
    subst q2
    dsimp only at hh
    split at hh
    · rename_i g l j hi _
      split at hh
      · rename_i kk hk
        split at hh
        · rename_i ds hds
          split at hh
          · rename_i hl
            cases hh
            obtain ⟨ow, hw⟩ := S.own
            obtain ⟨v, fp, y1, ⟨a0, as, rfl, rfl, h1, h2, nd⟩, y3⟩ := hw i g _ hi
            obtain ⟨b0, xs, hb1, hb2, hb3⟩ := h2.get hds
            refine ⟨.ref a0, y1, C, _, G, _, _, S, e1, fun z H1 G1 n1 r1 => ?_⟩
            cases r1
            have hA := n1.pu rfl _ _ h1
            have hB := n1.pu rfl _ _ hb2
            have hat : atI (as.map V.ref) j = some (.ref b0) := by
              have hk' : ixN (as.map V.ref).length j = some kk := by rw [List.length_map, ← h2.length]; exact hk
              rw [ixN_atI hk', List.getElem?_map, hb1]
              rfl
            refine ⟨a0, as.map .ref, j, .ref b0, rfl, rfl, SqL.of hA, hat, .inl ⟨rfl, xs, SqL.of hB⟩, C, _, G1, dx, _, n1.st, e2, fun y H2 G2 n2 r2 => ?_⟩
            have hA2 := n2.pu rfl _ _ hA
            have hB2 := n2.pu rfl _ _ hB
            refine ⟨b0, xs, y, rfl, rfl, hB2, Nat.lt_of_lt_of_le (by rw [← hb3.length]; exact hl) many_le, ?_⟩
            have x12 := n1.ex.trans n2.ex
            have nab : a0 ≠ b0 := fun z => (List.nodup_cons.mp nd).1 (by rw [z]; exact List.mem_of_getElem? hb1)
            have old : OwnOk T G2 H2 (.ll l) (.ref a0) (a0 :: as) := OwnOk.mono (o := .ll l) x12 (fun b _ u hu => n2.pu rfl _ _ (n1.pu rfl _ _ hu)) ⟨a0, as, rfl, rfl, h1, h2, nd⟩
            obtain ⟨a9, as9, z1, z2, o1, o2, o3⟩ := id old
            cases z1
            have z2 := (List.cons.inj z2).2
            subst z2
            refine k _ _ G2 (n2.st.updOwn hi (fun b u hb hu => ?_) (fun b u hb tb => ?_) y1 old (fp' := a0 :: as) ⟨a0, as, rfl, rfl, by rw [upd_ne nab]; exact hA2, o2.set hb1 (List.nodup_cons.mp nd).2 ((hb3.mono x12).append (.cons r2 .nil)), nd⟩ fun b hb => .inl hb) x12
            · rw [upd_ne (by intro z; exact hb (by rw [z]; exact List.mem_cons_of_mem _ (List.mem_of_getElem? hb1)))]
              exact hu
            · by_cases z : b = b0
              · subst z; exact ⟨_, upd_same, fun _ w => nomatch w⟩
              · exact ⟨u, by rw [upd_ne z]; exact hb, tb⟩
          · cases hh
        · cases hh
      · cases hh
    · cases hh⟩

/-! ### classes of the program -/
structure ClsOk (K : PySem.W.Frag) (C : Addr) : Prop where
  cls : Cls K C
  ha : PySem.W.findIn K (.ref C) "__class__" = some (some (.builtin "object.__class__"))
  hn : PySem.W.specialIn K (.builtin "object.__class__") "__get__" = some (some (.builtin "getset_descriptor.__get__"))
  htk : PySem.W.takesIn K (.builtin "object.__class__") = some true
  hm : PySem.W.mroIn K C (.type "object") = some true
  n1 : PySem.W.kitOne K (.type "NoneType") (.ref C) = some false
  n2 : PySem.W.kitOne K (.type "bool") (.ref C) = some false
  n3 : PySem.W.kitOne K (.type "int") (.ref C) = some false
  n4 : PySem.W.kitOne K (.type "str") (.ref C) = some false
  n5 : PySem.W.kitOne K (.type "tuple") (.ref C) = some false
  n6 : PySem.W.kitOne K (.type "list") (.ref C) = some false
theorem upd_upd {H : Hp} {x : Addr} {a b : HO} : upd (upd H x a) x b = upd H x b := by
  funext c
  by_cases h : c = x
  · subst h; rw [upd_same, upd_same]
  · rw [upd_ne h, upd_ne h, upd_ne h]
/-- what __init__ does that stores its arguments -/
def spMk (C : Addr) (ns : List Str) : Sp := fun vs H Q _ => vs.length = ns.length + 1 ∧ ∃ x dx us, vs = .ref x :: us ∧ H x = some (.ins C dx []) ∧ Q .non (upd H x (.ins C dx (ns.zip us)))
@[simp] def dMake (c n : Nat) : List D → Option D := fun ds => if ds.length = n then some (.obj c ds) else none
structure MkC (X : Cx) (T : Tab) (x : Str) (c : Nat) (ns : List Str) : Prop where
  ex : ∃ (C : Addr) (k : Nat) (f : Addr) (fd : FuncData) (ps : List Str), Mk X.K C f ∧ FnOk X.prog X.w X.K X.mg X.base CX0 k f fd ps (spMk C ns) ∧ Room (k + 1) X.A ∧ X.mg x = some (.ref C) ∧ Binds X.K fd ps [] ∧ T.cls c = some (C, ns)
theorem pef_make {x : Str} {c : Nat} {ns : List Str} (M : MkC X T x c ns) (ha : PAf X T pa (e :: es) fs) (hg : Gl X x := by rfl) (hdb : (x == ("__debug__" : Str)) = false := by decide)
    (he : starEach (e :: es) X.env = (false, eval e X.env) :: starEach es X.env := by rfl) (hpl : (backTo pos (starEach es X.env)).any (·.1) = false := by rfl) : PEf X T pa (.Call (.Name x p) (e :: es) [] pos) (fArgs (dMake c ns.length) fs) := by
  obtain ⟨C, k, f, fd, ps, mk, F, hr, hm, hb, ht⟩ := M.ex
  refine ⟨(pe_make mk F hr hg hm hb .nil pass0 ha.pa hdb he hpl).imp fun σ H Q ⟨C0, ρ, G, d, ρ', S, hh, kk⟩ => ?_, args_same ha.same⟩
  obtain ⟨⟨dx, ρ1⟩, e1, hh⟩ := Option.bind_eq_some_iff.mp hh
  obtain ⟨z', e3, hh⟩ := Option.map_eq_some_iff.mp hh
  cases hh
  refine ⟨C0, ρ, G, dx, ρ1, S, e1, fun xs H1 G1 n1 r1 => fun q dq hq hdq nq => ?_⟩
  simp only [dMake] at e3
  split at e3
  · rename_i hl
    cases e3
    have hq' : upd H1 dq (.own q) q = none := by rw [upd_ne (Ne.symm nq)]; exact hq
    have st1 : Stp H1 G1 (upd H1 dq (.own q)) (upd G1 dq (.own q)) := Stp.new n1.st.gh hdq
    refine ⟨by rw [List.length_cons, List.length_append, ← r1.length]; simp [hl], q, dq, xs, by simp, upd_same, rfl, ?_⟩
    rw [upd_upd]
    have st2 := st1.trans (Stp.new (o := .ins C dq (ns.zip xs)) st1.gh hq')
    refine kk _ _ _ (n1.stp st2) (.obj ht upd_same (by rw [← r1.length]; exact hl.symm) (r1.mono st2.gg))
  · cases e3
theorem lookup_zip {ns : List Str} {xs : List V} {i : Nat} {n : Str} {v : V} (nd : ns.Nodup) (h1 : ns[i]? = some n) (h2 : xs[i]? = some v) : (ns.zip xs).lookup n = some v := by
  induction ns generalizing xs i with
  | nil => simp at h1
  | cons m ns ih =>
    cases xs with
    | nil => simp at h2
    | cons w xs =>
      cases i with
      | zero => simp at h1 h2; subst h1 h2; simp [List.lookup]
      | succ i =>
        simp at h1 h2
        have hn : n ≠ m := fun z => (List.nodup_cons.mp nd).1 (by rw [← z]; exact List.mem_of_getElem? h1)
        rw [List.zip_cons_cons, List.lookup_cons, show (n == m) = false by simpa using hn]
        exact ih (List.nodup_cons.mp nd).2 h1 h2
@[simp] def dFld (c i : Nat) : D → Option D
  | .obj c' l => if c' = c then l[i]? else none
  | _ => none
structure FldC (K : PySem.W.Frag) (T : Tab) (c i : Nat) (at_ : Str) : Prop where
  ex : ∃ C ns, T.cls c = some (C, ns) ∧ ns.Nodup ∧ ns[i]? = some at_ ∧ Cls K C ∧ NoAttr K C at_
theorem pef_fld {c i : Nat} {at_ : Str} (F : FldC X.K T c i at_) (h : PEf X T pa e fa) (hb : attributeBase e at_ X.env (eval e X.env) = eval e X.env := by rfl) : PEf X T pa (.Attribute e at_ pos) (fUn (dFld c i) fa) where
  pe := (pe_fld h.pe hb).imp fun σ H Q ⟨C0, ρ, G, d, ρ', S, hh, kk⟩ => by
    obtain ⟨⟨dx, ρ1⟩, e1, hh⟩ := Option.bind_eq_some_iff.mp hh
    obtain ⟨z', e3, hh⟩ := Option.map_eq_some_iff.mp hh
    cases hh
    refine ⟨C0, ρ, G, dx, ρ1, S, e1, fun x H1 G1 n1 r1 => ?_⟩
    obtain ⟨C, ns, t1, t2, t3, t4, t5⟩ := F.ex
    cases r1 with
    | obj ht hg hl rr =>
      simp only [dFld] at e3
      split at e3
      · rename_i hc
        subst hc
        rw [t1] at ht
        cases ht
        obtain ⟨v, ev, rv⟩ := rr.get e3
        exact ⟨_, C, _, _, v, rfl, n1.st.gh _ _ hg, t4, t5, lookup_zip t2 t3 ev, kk v H1 G1 n1 rv⟩
      · cases e3
    | _ => cases e3
  same := un_same h.same
@[simp] def dIsiC (c : Nat) : D → Option D
  | .obj c' _ => if c' = c then some (.bl true) else none
  | _ => some (.bl false)
theorem kit_self {K : PySem.W.Frag} {C : Addr} : PySem.W.kitOne K (.ref C) (.ref C) = some true := by
  unfold PySem.W.kitOne
  rw [if_pos (by simp)]
structure IsiC (X : Cx) (T : Tab) (x : Str) (c : Nat) : Prop where
  ex : ∃ C ns, T.cls c = some (C, ns) ∧ X.mg x = some (.ref C) ∧ ClsOk X.K C
theorem pef_isiC {x : Str} {c : Nat} {np : Pos} (I : IsiC X T x c) (hm : X.mg "isinstance" = none) (ha : PEf X T pa a fa) (hg : Gl X "isinstance" := by rfl) (hgx : Gl X x := by rfl) (hdx : (x == ("__debug__" : Str)) = false := by decide)
    (he : starEach [a, .Name x np] X.env = (false, eval a X.env) :: starEach [.Name x np] X.env := by rfl) (he2 : starEach [.Name x np] X.env = (false, eval (.Name x np) X.env) :: starEach [] X.env := by rfl)
    (hpl : (backTo pos (starEach [.Name x np] X.env)).any (·.1) = false := by rfl) : PEf X T pa (.Call (.Name "isinstance" p) [a, .Name x np] [] pos) (fUn (dIsiC c) fa) := by
  obtain ⟨C, ns, t1, t2, t3⟩ := I.ex
  have hb : PE X (.Name x np) (tC (.ref C)) := pe_glob hgx t2 rfl hdx
  refine ⟨(pe_callB (call_isi (X := X)) hg hm (by decide +kernel) (pa_cons ha.pe (pa_cons hb pa_nil he2) he) (by decide) (by decide) he hpl).imp fun σ H Q ⟨C0, ρ, G, d, ρ', S, hh, k⟩ => ?_, un_same ha.same⟩
  obtain ⟨⟨dx, ρ1⟩, e1, hh⟩ := Option.bind_eq_some_iff.mp hh
  obtain ⟨z', e3, hh⟩ := Option.map_eq_some_iff.mp hh
  cases hh
  refine ⟨C0, ρ, G, dx, ρ1, S, e1, fun x H1 G1 n1 r1 => ?_⟩
  have fin : ∀ {n : String}, TyX X.K H1 x (.type n) → PySem.W.kitOne X.K (.type n) (.ref C) = some false → some (D.bl false) = some d → rIsi X.K (x :: V.ref C :: []) H1 Q := fun {n} ty hk hd => by
    cases hd
    exact ⟨x, .ref C, _, _, false, rfl, .own C, ty, hk, k _ H1 G1 n1 (.bl _)⟩
  cases r1 with
  | non => exact fin (.base .non) t3.n1 e3
  | bl b => exact fin (.base (.bl b)) t3.n2 e3
  | int i => exact fin (.base (.int i)) t3.n3 e3
  | str i => exact fin (.base (.str i)) t3.n4 e3
  | tup q _ => exact fin (.base (.tup (n1.st.gh _ _ q))) t3.n5 e3
  | lst q _ =>
    exact fin (.base (.lst (n1.st.gh _ _ q))) t3.n6 e3
  | obj ht hg hl rr =>
    simp only [dIsiC] at e3
    split at e3
    · rename_i hc
      subst hc
      rw [t1] at ht
      cases ht
      cases e3
      exact ⟨_, .ref C, _, _, true, rfl, .own C, .base (.ins (n1.st.gh _ _ hg) t3.cls t3.ha t3.hn t3.htk t3.hm), kit_self, k _ H1 G1 n1 (.bl _)⟩
    · cases e3

/-! ### defs with defaults -/
theorem ok_DD {K : PySem.W.Frag} {P : Program} {w : World} {mg : Str → Option Value} {base : Heap} {x qual : Str} {st : Stmt} {f : Addr} {fd : FuncData} {N ps : List Str} {k : Nat} {fb : FS} {dvs : List V} {kws : List (Str × V)} (F : FunD K x qual (defArgs st) (defBody st) (defScope st) dvs kws f fd) (S : FnScope N ps (defScope st))
    (hb : ∀ (cdv : Value) (A : Around) (outer : List Env) (s : Shared) (H : Hp) (E : XK), Room k (A.deeper (envOfC qual (defScope st) s.heap.objs.size f cdv)) → PSsf (cxOf CX0 P w K mg base N qual (defScope st) f cdv A outer s H E).nox T (defBody st) fb) :
    FnOk P w K mg base CX0 (k + 1) f fd ps (spD T ps.length (fnD fb N.length)) := by
  refine F.ok S (fun vs H Q E h => h.1) fun cdv A outer s H vs Q E hr h => ?_
  obtain ⟨hl, G, ds, r, eg, rd, hf, q⟩ := h
  refine ⟨_, (hb cdv A outer s H E hr).ps.nox, ?_⟩
  have hpl : ps.length ≤ N.length := by have := congrArg List.length S.pre; rw [List.length_take] at this; omega
  have S0 := sta_start (N := N) eg rd (by omega)
  unfold fnD at hf
  cases ho : fb (ds.map (fun d => some (.sh d)) ++ List.replicate (N.length - ds.length) none) with
  | none => rw [ho] at hf; cases hf
  | some out =>
    rw [ho] at hf
    refine ⟨_, _, G, out, S0, ho, ?_⟩
    cases out with
    | nx ρ => cases hf; exact fun σ' H' G' S' e' => q .non H' G' S'.toStp .non
    | rt s ρ =>
      cases hf
      cases r with
      | sh d => exact fun v σ' H' G' S' e' rv => q v H' G' S'.toStp rv
      | own g o => exact fun v σ' H' G' S' e' => q v H' G' S'.pop.toStp S'.last
    | bk ρ => cases hf
    | ct ρ => cases hf
end
end Fl
end

section
set_option Elab.async false
set_option linter.all false
set_option autoImplicit false
set_option maxRecDepth 100000
set_option maxHeartbeats 2000000
namespace Fl
open PySem PySem.Spec PyProof.Rows L2

/-! ### x in t, t a list or a tuple of data -/
def rInA (K : PySem.W.Frag) (no : Bool) : R2 := fun x y H Q => ∃ d ds, Dp K H x d ∧ (Dp K H y (.list ds) ∨ Dp K H y (.tuple ds)) ∧ SeqAt.shaped d = true ∧ SeqAt.shaped (.list ds) = true ∧ Q (.bl (xor no (ds.any fun z => PyData.eqv z d))) H
theorem op_inA {X : Cx} (hu : X.A.units + 65 < cLine) : OpR X (compareOp .In) (rInA X.K false) := by
  intro pins s σ H x y v u Q I rx ry h
  obtain ⟨d, ds, hd, he, sd, se, q⟩ := h
  rw [Bool.false_xor] at q
  obtain ⟨as, r1⟩ := Dp.reads I d x v hd rx
  rcases he with he | he
  · obtain ⟨bs, r2⟩ := Dp.reads I (.list ds) y u he ry
    exact SeqAt.in_list_reads r2 r1 (SeqAt.canLay_of_shaped se) (SeqAt.canLay_of_shaped sd) (room_in_shaped sd hu) ⟨.bl _, H, I, rfl, q⟩
  · obtain ⟨bs, r2⟩ := Dp.reads I (.tuple ds) y u he ry
    exact SeqAt.in_tuple_reads r2 r1 (SeqAt.canLay_of_shaped se) (SeqAt.canLay_of_shaped sd) (room_in_shaped sd hu) ⟨.bl _, H, I, rfl, q⟩
theorem op_notInA {X : Cx} (hu : X.A.units + 65 < cLine) : OpR X (compareOp .NotIn) (rInA X.K true) := by
  intro pins s σ H x y v u Q I rx ry h
  obtain ⟨d, ds, hd, he, sd, se, q⟩ := h
  rw [Bool.true_xor] at q
  obtain ⟨as, r1⟩ := Dp.reads I d x v hd rx
  rcases he with he | he
  · obtain ⟨bs, r2⟩ := Dp.reads I (.list ds) y u he ry
    exact SeqAt.notIn_list_reads r2 r1 (SeqAt.canLay_of_shaped se) (SeqAt.canLay_of_shaped sd) (room_in_shaped sd hu) ⟨.bl _, H, I, rfl, q⟩
  · obtain ⟨bs, r2⟩ := Dp.reads I (.tuple ds) y u he ry
    exact SeqAt.notIn_tuple_reads r2 r1 (SeqAt.canLay_of_shaped se) (SeqAt.canLay_of_shaped sd) (room_in_shaped sd hu) ⟨.bl _, H, I, rfl, q⟩
@[simp] def dInS (no : Bool) (d : D) (c : D) : Option D := (dSeq c).bind fun l => if fit 8 d && fits 7 l then some (.bl (xor no (l.any fun z => eqD z d))) else none
theorem fit_lst {l : List D} (h : fits 7 l = true) : fit 8 (.lst l) = true := by simpa [fit] using h
theorem l_inA {T : Tab} {K : PySem.W.Frag} {no : Bool} : Lift2 T (rInA K no) (dInS no) := by
  intro H G dx dy x y dz e rx ry h Q k
  obtain ⟨l, el, h⟩ := Option.bind_eq_some_iff.mp h
  split at h
  · rename_i hf
    rw [Bool.and_eq_true] at hf
    cases h
    have hn := fit_no 8 dx hf.1
    have hns := fits_no 7 l hf.2
    have hsh := fit_shaped (fit_lst hf.2)
    refine ⟨dx.py, D.pys l, rx.dp e hn, ?_, fit_shaped hf.1, hsh, ?_⟩
    · cases dy with
      | lst l' => cases el; exact .inl (ry.dp e (by simpa [noObj] using hns))
      | tup l' => cases el; exact .inr (ry.dp e (by simpa [noObj] using hns))
      | _ => cases el
    · rw [any_py dx hn l hns]
      exact k _ H G (stp0 e) (.bl _)
  · cases h
theorem c_in {X : Cx} {T : Tab} {k : Nat} (hr : Room k X.A) : Cmp X T .In (dInS false) := ⟨_, op_inA (Nat.lt_of_le_of_lt (by omega) hr.un), l_inA⟩
theorem c_notin {X : Cx} {T : Tab} {k : Nat} (hr : Room k X.A) : Cmp X T .NotIn (dInS true) := ⟨_, op_notInA (Nat.lt_of_le_of_lt (by omega) hr.un), l_inA⟩

/-! ### = [..] on one line, frozen -/
section
variable {X : Cx} {T : Tab} {pu pa pb pc : Bool} {tg iter elt : Expr} {ifs : List Expr} {fi : FA} {g : FG} {tt : FT} {te : FE} {js vs : List Nat}
theorem psf_setLcF {i : Nat} {y : Str} {py : Pos} {scope : Scope} {own : List (Str × Nat)} {pos spos : Pos} (hc : X.calm = true) (hN : X.N.Nodup) (ok : BlkOk X.N X.env.scope scope own) (hi : PIf X T pa tg iter fi)
    (hg : ∀ (s : Shared) (H : Hp) (C : Addr) (cl : List (Str × Addr)) (fp : List Addr), PGf (X.blk s H scope (compEnvC scope cl C X.env) fp) T tg js g) (ht : ∀ (s : Shared) (H : Hp) (C : Addr) (cl : List (Str × Addr)) (fp : List Addr), PTsf (X.blk s H scope (compEnvC scope cl C X.env) fp) T pb ifs tt)
    (he : ∀ (s : Shared) (H : Hp) (C : Addr) (cl : List (Str × Addr)) (fp : List Addr), PEf (X.blk s H scope (compEnvC scope cl C X.env) fp) T pc elt te) (hsub : ∀ j ∈ js, j ∈ own.map (·.2) := by decide) (hs : ∀ x, foldedSetIterable iter X.env x = pure x := by intro _; rfl)
    (hy : X.N[i]? = some y := by rfl) (hyl : X.env.scope.names.lookup y = some .local := by rfl) (hsw : swapsWith (.ListComp elt [⟨tg, iter, ifs, 0⟩] scope pos) (some (.Name y py)) spos.line X.env = pure true := by exact sw_true rfl rfl rfl rfl) :
    PSf X T (.Assign [.Name y py] (.ListComp elt [⟨tg, iter, ifs, 0⟩] scope pos) spos) (fSet i (fFrz (fLst (fLc fi g tt te (own.map (·.2)))))) :=
  ⟨(ps_setLc hc hN hy hyl hsw hi.pi ok (fun s H C cl fp => (hg s H C cl fp).pg) (fun s H C cl fp => (ht s H C cl fp).pt) (fun s H C cl fp => (he s H C cl fp).pe) hs).imp fun D σ H ⟨C, ρ, G, out, S, hh, k⟩ => by
    obtain ⟨⟨d, ρ1⟩, e1, hh⟩ := Option.bind_eq_some_iff.mp hh
    cases hh
    obtain ⟨⟨o, ρ2⟩, e2, e1⟩ := Option.bind_eq_some_iff.mp e1
    dsimp only at e1
    split at e1
    · rename_i hf
      cases e1
      refine lc_run hsub (hg X.s_0 (fun _ => none) 0 [] []).keep ⟨C, ρ, G, o, _, S, e2, fun v H1 G1 n1 => ?_⟩
      obtain ⟨G2, S2, e3, r2⟩ := n1.st.freezeLast hf
      exact k _ H1 G2 (S2.assignSh r2) (n1.ex.trans e3)
    · cases e1⟩
theorem len_dd {fs : FA} {n m : Nat} {dd : List D} (h : LenA fs n) (e : n + dd.length = m := by rfl) : ∀ ρ ds ρ', fs ρ = some (ds, ρ') → (ds ++ dd).length = m := fun ρ ds ρ' q => by
  rw [List.length_append, h _ _ _ q]
  exact e
end

/-! ### a program's defs -/
structure Df (P : Program) (w : World) (K : PySem.W.Frag) (mg : Str → Option Value) (base : Heap) (T : Tab) (x : Str) (k : Nat) (sp : Sp) (dvs : List V) : Prop where
  ex : ∃ (f : Addr) (fd : FuncData) (ps : List Str) (ds : List Value), FnOk P w K mg base CX0 k f fd ps sp ∧ mg x = some (.ref f) ∧ PySem.W.keepIn K (.ref f) = true ∧ Binds K fd ps ds ∧ Vals dvs ds
theorem Df.cal {X : Cx} {T : Tab} {x : Str} {k k' : Nat} {sp : Sp} {dvs : List V} (h : Df X.prog X.w X.K X.mg X.base T x k sp dvs) (hr : Room k' X.A) (hk : k ≤ k' := by decide) : Cal X T x sp dvs := by
  obtain ⟨f, fd, ps, ds, F, hm, hkp, hb, hd⟩ := h.ex
  exact ⟨k, f, fd, ps, ds, F, hr.mono hk, hm, hkp, hb, hd⟩
/-- a def as the top has left it -/
def Lies (K : PySem.W.Frag) (mg : Str → Option Value) (x : Str) (st : Stmt) : Prop := ∃ f fd, Fun K x x st f fd ∧ mg x = some (.ref f)
section
variable {P : Program} {w : World} {K : PySem.W.Frag} {mg : Str → Option Value} {base : Heap} {T : Tab}
abbrev Body (P : Program) (w : World) (K : PySem.W.Frag) (mg : Str → Option Value) (base : Heap) (T : Tab) (x : Str) (st : Stmt) (N : List Str) (k : Nat) (fb : FS) : Prop :=
  ∀ (f : Addr) (cdv : Value) (A : Around) (outer : List Env) (s : Shared) (H : Hp) (E : XK), Room k (A.deeper (envOfC x (defScope st) s.heap.objs.size f cdv)) → PSsf (cxOf CX0 P w K mg base N x (defScope st) f cdv A outer s H E).nox T (defBody st) fb
theorem Df.mkD {x : Str} {st : Stmt} {N ps : List Str} {k : Nat} {fb : FS} (h : Lies K mg x st) (S : FnScope N ps (defScope st)) (hb : Body P w K mg base T x st N k fb)
    (hbind : ∀ (kV doc pm : Value) (an : Option Addr) (cdv ct : Value) (us : List Value), us.length = ps.length → bindArgs (PySem.W.fnOf x x (defArgs st) (defBody st) (defScope st) .none kV doc pm an cdv ct) ⟨us, []⟩ = pure (ps.zip us)) :
    Df P w K mg base T x (k + 1) (spD T ps.length (fnD fb N.length)) [] := by
  obtain ⟨f, fd, F, hm⟩ := h
  exact ⟨f, fd, ps, [], ok_D F S (fun cdv A outer s H E hr => hb f cdv A outer s H E hr), hm, F.kp, F.binds hbind, .nil⟩
theorem Df.mkI {x : Str} {st : Stmt} {N ps : List Str} {k : Nat} {fb : FS} (h : Lies K mg x st) (S : FnScope N ps (defScope st)) (hb : Body P w K mg base T x st N k fb)
    (hbind : ∀ (kV doc pm : Value) (an : Option Addr) (cdv ct : Value) (us : List Value), us.length = ps.length → bindArgs (PySem.W.fnOf x x (defArgs st) (defBody st) (defScope st) .none kV doc pm an cdv ct) ⟨us, []⟩ = pure (ps.zip us)) :
    Df P w K mg base T x (k + 1) (spI T ps.length (fnI fb N.length)) [] := by
  obtain ⟨f, fd, F, hm⟩ := h
  exact ⟨f, fd, ps, [], ok_I F S (fun cdv A outer s H E hr => hb f cdv A outer s H E hr), hm, F.kp, F.binds hbind, .nil⟩
/-- with defaults -/
def LiesD (K : PySem.W.Frag) (mg : Str → Option Value) (x : Str) (st : Stmt) (dvs : List V) : Prop := ∃ f fd, FunD K x x (defArgs st) (defBody st) (defScope st) dvs [] f fd ∧ mg x = some (.ref f)
theorem Df.mkDD {x : Str} {st : Stmt} {N ps : List Str} {k n j : Nat} {fb : FS} {dvs dd : List V} (h : LiesD K mg x st dvs) (S : FnScope N ps (defScope st)) (hb : Body P w K mg base T x st N k fb) (hd : dvs ≠ []) (hn : n + (dvs.length - j) = ps.length) (hdd : dvs.drop j = dd)
    (hbind : ∀ (T : Addr) (kV doc pm : Value) (an : Option Addr) (cdv ct : Value) (us its : List Value), us.length = n → its.length = dvs.length →
      ∃ k, bindArgs (PySem.W.fnOf x x (defArgs st) (defBody st) (defScope st) (.ref T) kV doc pm an cdv ct) ⟨us, []⟩ = seqItems? (.ref T) >>= k ∧ k (some its.toArray) = pure (ps.zip (us ++ its.drop j))) :
    Df P w K mg base T x (k + 1) (spD T ps.length (fnD fb N.length)) dd := by
  obtain ⟨f, fd, F, hm⟩ := h
  obtain ⟨ds, r, b⟩ := F.binds1 n j hd hn hbind
  subst hdd
  exact ⟨f, fd, ps, ds, ok_DD F S (fun cdv A outer s H E hr => hb f cdv A outer s H E hr), hm, F.kp, b, r⟩
/-- a class of the program -/
def LiesC (K : PySem.W.Frag) (mg : Str → Option Value) (T : Tab) (x : Str) (c : Nat) (ns : List Str) (qual : Str) (st : Stmt) : Prop :=
  ∃ C f fd, mg x = some (.ref C) ∧ ClsOk K C ∧ T.cls c = some (C, ns) ∧ (∀ n ∈ ns, NoAttr K C n) ∧ Mk K C f ∧ Fun K "__init__" qual st f fd
theorem LiesC.fld {x : Str} {c i : Nat} {ns : List Str} {n qual : Str} {st : Stmt} (h : LiesC K mg T x c ns qual st) (hi : ns[i]? = some n) (nd : ns.Nodup := by decide) : FldC K T c i n := by
  obtain ⟨C, f, fd, h1, h2, h3, h4, h5, h6⟩ := h
  exact ⟨C, ns, h3, nd, hi, h2.cls, h4 n (List.mem_of_getElem? hi)⟩
theorem LiesC.isi {X : Cx} {x : Str} {c : Nat} {ns : List Str} {qual : Str} {st : Stmt} (h : LiesC X.K X.mg T x c ns qual st) : IsiC X T x c := by
  obtain ⟨C, f, fd, h1, h2, h3, h4, h5, h6⟩ := h
  exact ⟨C, ns, h3, h1, h2⟩
/-- __init__ stores the arguments in their order -/
def InitOk (st : Stmt) (qual : Str) (ns : List Str) : Prop := ∀ (P : Program) (w : World) (K : PySem.W.Frag) (mg : Str → Option Value) (base : Heap) (C f : Addr) (fd : FuncData), Cls K C → (∀ n ∈ ns, NoAttr K C n) → Fun K "__init__" qual st f fd →
  ∃ ps, FnOk P w K mg base CX0 1 f fd ps (spMk C ns) ∧ Binds K fd ps []
theorem LiesC.mk {X : Cx} {x : Str} {c k : Nat} {ns : List Str} {qual : Str} {st : Stmt} (h : LiesC X.K X.mg T x c ns qual st) (hi : InitOk st qual ns) (hr : Room k X.A) (hk : 2 ≤ k := by decide) : MkC X T x c ns := by
  obtain ⟨C, f, fd, h1, h2, h3, h4, h5, h6⟩ := h
  obtain ⟨ps, F, b⟩ := hi X.prog X.w X.K X.mg X.base C f fd h2.cls h4 h6
  exact ⟨C, 1, f, fd, ps, h5, F, hr.mono hk, h1, b, h3⟩
end
end Fl
end

section
set_option Elab.async false
set_option linter.all false
set_option autoImplicit false
set_option maxRecDepth 100000
set_option maxHeartbeats 2000000
namespace Fl
open PySem PySem.Spec PyProof.Rows L2
section
variable {X : Cx} {T : Tab} {pu pa pb pc : Bool} {a b c e : Expr} {es : List Expr} {fa fb : FE} {pos : Pos}
@[simp] def dCatL : D → D → Option (List D)
  | .lst l, .lst m => if l.length + m.length ≤ many then some (l ++ m) else none
  | _, _ => none
theorem l_catL {T : Tab} : Lift2O T rCat dCatL := by
  intro H G dx dy x y l e rx ry h Q k
  cases rx with
  | lst h1 r1 =>
    cases ry with
    | lst h2 r2 =>
      simp only [dCatL] at h
      split at h
      · rename_i hl
        cases h
        exact ⟨_, _, _, _, rfl, rfl, e _ _ h1, e _ _ h2, Nat.le_trans (by rw [← r1.length, ← r2.length]; exact hl) many_le, fun p hp => k p _ hp (r1.append r2)⟩
      · cases h
    | _ => cases h
  | _ => cases h
theorem peo_addL (ha : PEf X T pa a fa) (hb : PEf X T pb b fb) : PEo X T (pa && pb) (.BinOp a .Add b pos) (fLst (fBin dCatL fa fb)) := peo_bin (fun h1 h2 => pe_op op_cat h1 h2) l_catL ha hb
theorem pef_globE {x : Str} {i : Int} (h : ∃ t, X.mg x = some (.int i t)) (hg : Gl X x := by rfl) (hd : (x == ("__debug__" : Str)) = false := by decide) : PEf X T true (.Name x pos) (fC (.int i)) := by
  obtain ⟨t, h⟩ := h
  exact pef_globI hg h hd
end
end Fl
end

section
set_option Elab.async false
set_option linter.all false
set_option autoImplicit false
set_option maxRecDepth 100000
set_option maxHeartbeats 2000000
namespace Fl
open PySem PySem.Spec PyProof.Rows L2

/-! ### the law's hand -/
def handTot : Int → Nat → List Int → Int
  | t, _, [] => t
  | t, k, c :: r => handTot ((t * 31 + c * ((k : Nat) + 7)) % 2147483629) (k + 1) r
def absI (i : Int) : Int := if i < 0 then -i else i
def spHand (K : PySem.W.Frag) : Sp := fun vs H Q _ => ∃ (a : Addr) (ns : List Int), vs = [.ref a] ∧ SqL K H a (ns.map V.int) ∧ ns.length ≤ 1000 ∧
  ∀ H' p q, Same H H' → H p = none → H q = none → p ≠ q → H' q = some (.lst (ns.map fun n => .int (absI n))) → H' p = some (.lst [.ref q, .int 0, .int 0, .int (handTot 0 0 ns)]) → Q (.ref p) H'
/-- the hand as the law's defs see it -/
def handO (ns : List Int) : O := .lst [.lst (ns.map fun n => .int (absI n)), .int 0, .int 0, .int (handTot 0 0 ns)]
theorem reps_abs {T : Tab} {G : Hp} : ∀ ns : List Int, Reps T G (ns.map fun n => .int (absI n)) (ns.map fun n => .int (absI n))
  | [] => .nil
  | n :: r => .cons (.int _) (reps_abs r)
theorem sta_hand {T : Tab} {H H' : Hp} {σ : L2.St} {p q : Addr} {ns : List Int} {n : Nat} {x0 : Option V} (hS : Same H H') (hp : H p = none) (hq : H q = none) (ne : p ≠ q) (h1 : H' q = some (.lst (ns.map fun n => .int (absI n)))) (h2 : H' p = some (.lst [.ref q, .int 0, .int 0, .int (handTot 0 0 ns)]))
    (hσ : σ = x0 :: some (.ref p) :: List.replicate n none) :
    Sta T ⟨H, fun _ => none, []⟩ (none :: some (.own true (handO ns)) :: List.replicate n none) σ H' (fun b => if b = q then H' q else none) := by
  subst hσ
  refine ⟨fun a o e => ?_, fun a o e => (nomatch e), fun a o _ e => hS a o e, fun a u e t g => ?_, fun a h => (List.not_mem_nil h).elim, (by simp only [List.length_cons, List.length_replicate]), fun i d e => ?_, fun _ => some 1, fun i f o e => ?_⟩
  · split at e
    · rename_i z; subst z; exact e
    · cases e
  · rw [if_neg fun z => by rw [z] at e; rw [show H q = some u from e] at hq; cases hq]
  · match i with
    | 0 => simp at e
    | 1 => simp at e
    | i + 2 =>
      rw [List.getElem?_cons_succ, List.getElem?_cons_succ, List.getElem?_replicate] at e
      split at e <;> cases e
  · match i with
    | 0 => simp at e
    | 1 =>
      simp at e
      obtain ⟨rfl, rfl⟩ := e
      refine ⟨.ref p, [p], rfl, ⟨p, _, rfl, rfl, h2, .cons (.lst (by rw [if_pos rfl]; exact h1) (reps_abs ns)) (.cons (.int _) (.cons (.int _) (.cons (.int _) .nil)))⟩, fun b hb => ?_⟩
      have : b = p := by simpa using hb
      subst this
      exact ⟨rfl, by rw [if_neg ne], hp⟩
    | i + 2 =>
      rw [List.getElem?_cons_succ, List.getElem?_cons_succ, List.getElem?_replicate] at e
      split at e <;> cases e
/-- what the law promises -/
def spLaw (K : PySem.W.Frag) : Sp := fun vs H Q _ => ∃ (a : Addr) (ns : List Int), vs = [.ref a] ∧ SqL K H a (ns.map V.int) ∧ ns.length ≤ 63 ∧ ∀ H', Q (.bl true) H'
/-- .. and what is to be shown of its reading -/
def LawTrue (f : FS) (n : Nat) : Prop := ∀ ns : List Int, ns.length ≤ 63 → ∃ ρ, f (none :: some (.own true (handO ns)) :: List.replicate n none) = some (.rt (.sh (.bl true)) ρ)
theorem law_run {T : Tab} {H H' : Hp} {D : Ends} {σ : L2.St} {p q : Addr} {ns : List Int} {n : Nat} {x0 : Option V} {f : FS} (hf : LawTrue f n) (hl : ns.length ≤ 63) (hS : Same H H') (hp : H p = none) (hq : H q = none) (ne : p ≠ q) (h1 : H' q = some (.lst (ns.map fun n => .int (absI n)))) (h2 : H' p = some (.lst [.ref q, .int 0, .int 0, .int (handTot 0 0 ns)]))
    (hσ : σ = x0 :: some (.ref p) :: List.replicate n none) (hQ : ∀ H', D.rt (.bl true) H') : tS T f D σ H' := by
  obtain ⟨ρ, e⟩ := hf ns hl
  exact ⟨_, _, _, _, sta_hand hS hp hq ne h1 h2 hσ, e, fun v σ' H2 G2 S ex r => by cases r; exact hQ H2⟩

/-! ### facts, from what the top left -/
section
variable {K : PySem.W.Frag} {h : Heap} {mg : Str → Option Value} {T : Tab}
theorem lies_mk {x : Str} {st : Stmt} {f : Addr} {oc : Value} {od an : Option Addr} {osl : Array (Option Value)} {kV doc pm cdv ct : Value} (X : K.In h) (G : h.Ns mainGlobals mg) (a : PySem.W.nsIn K mainGlobals x = some (some (.ref f)))
    (l : K.lookup f = some ⟨oc, od, .func (PySem.W.fnOf x x (defArgs st) (defBody st) (defScope st) .none kV doc pm an cdv ct), osl⟩) (c : PySem.W.codeIn K cdv x = true) (k : PySem.W.keepIn K (.ref f) = true) : Lies K mg x st :=
  ⟨f, _, fun_mk l c k, PySem.W.mg_of X G a⟩
theorem liesD_mk {x : Str} {st : Stmt} {f Ta : Addr} {oc : Value} {od an : Option Addr} {osl : Array (Option Value)} {kV doc pm cdv ct : Value} {o : Obj} {its : List Value} {n : Nat} {dvs : List V} (X : K.In h) (G : h.Ns mainGlobals mg) (a : PySem.W.nsIn K mainGlobals x = some (some (.ref f)))
    (l : K.lookup f = some ⟨oc, od, .func (PySem.W.fnOf x x (defArgs st) (defBody st) (defScope st) (.ref Ta) kV doc pm an cdv ct), osl⟩) (c : PySem.W.codeIn K cdv x = true) (k : PySem.W.keepIn K (.ref f) = true) (lT : K.lookup Ta = some o) (oT : o.data = .seq its.toArray n) (r : Vals dvs its) (hd : dvs ≠ []) : LiesD K mg x st dvs :=
  ⟨f, _, ⟨⟨oc, od, .ref Ta, kV, doc, pm, an, cdv, ct, osl, rfl, l, c, .inr ⟨hd, Ta, o, its, n, rfl, lT, oT, r⟩, .inl rfl⟩, k⟩, PySem.W.mg_of X G a⟩
theorem const_mk {x : Str} {i : Int} {t : Tok} (X : K.In h) (G : h.Ns mainGlobals mg) (a : PySem.W.nsIn K mainGlobals x = some (some (.int i t))) : ∃ t, mg x = some (.int i t) := ⟨t, PySem.W.mg_of X G a⟩
theorem liesC_mk {x qual : Str} {c : Nat} {ns : List Str} {st : Stmt} {C f : Addr} {oc : Value} {od an : Option Addr} {osl : Array (Option Value)} {kV doc pm cdv ct : Value} (X : K.In h) (G : h.Ns mainGlobals mg) (a : PySem.W.nsIn K mainGlobals x = some (some (.ref C))) (ok : ClsOk K C) (ht : T.cls c = some (C, ns)) (na : ∀ n ∈ ns, NoAttr K C n)
    (m1 : PySem.W.makesIn K C = true) (m2 : PySem.W.findIn K (.ref C) "__init__" = some (some (.ref f))) (m3 : PySem.W.isFn K (.ref f) = true) (m4 : PySem.W.keepIn K (.ref C) = true)
    (l : K.lookup f = some ⟨oc, od, .func (PySem.W.fnOf "__init__" qual (defArgs st) (defBody st) (defScope st) .none kV doc pm an cdv ct), osl⟩) (cc : PySem.W.codeIn K cdv qual = true) (k : PySem.W.keepIn K (.ref f) = true) : LiesC K mg T x c ns qual st :=
  ⟨C, f, _, PySem.W.mg_of X G a, ok, ht, na, ⟨m1, m2, m3, m4⟩, fun_mk l cc k⟩
end
end Fl
namespace Fl
open PySem PySem.Spec PyProof.Rows L2
theorem kit_no {K : PySem.W.Frag} {C : Addr} {T : String} (ic : PySem.W.isClsIn K C = true) (ty : PySem.W.typeIn K (.ref C) = some (.type "type")) (hT : ((PySem.fastBuiltinMro T).map fun l => l.contains (Value.ref C)) = some false) : PySem.W.kitOne K (.type T) (.ref C) = some false := by
  unfold PySem.W.kitOne
  rw [if_neg (by simp)]
  unfold PySem.W.kitCls
  have h1 : (PySem.W.clsIn K C).isSome = true := by
    unfold PySem.W.isClsIn at ic
    exact ic
  dsimp only
  rw [h1, ty, if_pos (by decide)]
  exact hT
theorem clsOk_mk {K : PySem.W.Frag} {C : Addr} (c : Cls K C) (ha : PySem.W.findIn K (.ref C) "__class__" = some (some (.builtin "object.__class__"))) (hn : PySem.W.specialIn K (.builtin "object.__class__") "__get__" = some (some (.builtin "getset_descriptor.__get__")))
    (ht : PySem.W.takesIn K (.builtin "object.__class__") = some true) (hm : PySem.W.mroIn K C (.type "object") = some true) (ic : PySem.W.isClsIn K C = true) (ty : PySem.W.typeIn K (.ref C) = some (.type "type")) : ClsOk K C :=
  ⟨c, ha, hn, ht, hm, kit_no ic ty (by with_unfolding_all rfl), kit_no ic ty (by with_unfolding_all rfl), kit_no ic ty (by with_unfolding_all rfl), kit_no ic ty (by with_unfolding_all rfl), kit_no ic ty (by with_unfolding_all rfl), kit_no ic ty (by with_unfolding_all rfl)⟩
end Fl
end

section
set_option linter.all false
set_option autoImplicit false
set_option maxRecDepth 100000
set_option maxHeartbeats 1000000
namespace Fl
open PySem

/-! ### whole numbers as data -/
def leI (a b : Int) : Bool := decide (a ≤ b)
def sortI (l : List Int) : List Int := isort leI l
theorem leI_trans (x y z : Int) : leI x y = true → leI y z = true → leI x z = true := by simp only [leI, decide_eq_true_eq]; omega
theorem leI_total (x y : Int) : (leI x y || leI y x) = true := by simp only [leI, Bool.or_eq_true, decide_eq_true_eq]; omega
theorem sortI_perm (l : List Int) : (sortI l).Perm l := isort_perm leI l
theorem sortI_len (l : List Int) : (sortI l).length = l.length := (sortI_perm l).length_eq
theorem sortI_sorted (l : List Int) : (sortI l).Pairwise (· ≤ ·) := by
  have := isort_sorted leI_trans leI_total l
  exact this.imp fun h => by simpa [leI] using h
theorem sorted_uniq : ∀ {l m : List Int}, l.Pairwise (· ≤ ·) → m.Pairwise (· ≤ ·) → l.Perm m → l = m
  | [], m, _, _, p => (List.nil_perm.mp p).symm
  | x :: l, [], _, _, p => by have := p.length_eq; simp at this
  | x :: l, y :: m, hl, hm, p => by
    have h1 := List.pairwise_cons.mp hl
    have h2 := List.pairwise_cons.mp hm
    have e : x = y := by
      have a : y ∈ x :: l := p.mem_iff.mpr (by simp)
      have b : x ∈ y :: m := p.mem_iff.mp (by simp)
      rcases List.mem_cons.mp a with a | a
      · exact a.symm
      · rcases List.mem_cons.mp b with b | b
        · exact b
        · have := h1.1 y a
          have := h2.1 x b
          omega
    subst e
    rw [sorted_uniq h1.2 h2.2 ((List.perm_cons x).mp p)]
theorem sortI_congr {l m : List Int} (p : l.Perm m) : sortI l = sortI m := sorted_uniq (sortI_sorted l) (sortI_sorted m) ((sortI_perm l).trans (p.trans (sortI_perm m).symm))
theorem sortI_id {l : List Int} (h : l.Pairwise (· ≤ ·)) : sortI l = l := sorted_uniq (sortI_sorted l) h (sortI_perm l)
theorem sortI_mem {l : List Int} {x : Int} : x ∈ sortI l ↔ x ∈ l := (sortI_perm l).mem_iff
theorem fits_ints (n : Nat) : ∀ l : List Int, fits n (l.map .int) = true
  | [] => rfl
  | x :: l => by simp [fits, fit, fits_ints n l]
theorem likeAll_ints (l : List Int) : likeAll (l.map .int) = true := by
  simp [likeAll, likeD]
theorem canSort_ints (l : List Int) (h : l.length ≤ 1000000) : canSort (l.map .int) = true := by
  unfold canSort
  rw [fits_ints, likeAll_ints]
  simp [noTup, many]
  exact h
theorem leD_int (a b : Int) : leD (.int a) (.int b) = leI a b := by
  unfold leD ltD leI
  by_cases h : a ≤ b
  · simp [h, show ¬ b < a by omega]
  · simp [h, show b < a by omega]
theorem isort_ints (l : List Int) : isort leD (l.map .int) = (sortI l).map .int := isort_map D.int leD_int l
theorem dSort_lst (l : List Int) (h : l.length ≤ 1000000) : dSort (.lst (l.map .int)) = some ((sortI l).map .int) := by
  simp [canSort_ints l h, isort_ints]
theorem dSort_tup (l : List Int) (h : l.length ≤ 1000000) : dSort (.tup (l.map .int)) = some ((sortI l).map .int) := by
  simp [canSort_ints l h, isort_ints]
@[simp] theorem eqD_int (i j : Int) : eqD (.int i) (.int j) = (i == j) := by rw [eqD]
@[simp] theorem eqD_nn : eqD .non .non = true := by rw [eqD]
@[simp] theorem eqD_bl (a b : Bool) : eqD (.bl a) (.bl b) = (a == b) := by rw [eqD]
@[simp] theorem eqD_lst (l m : List D) : eqD (.lst l) (.lst m) = eqDs l m := by rw [eqD]
@[simp] theorem eqD_tup (l m : List D) : eqD (.tup l) (.tup m) = eqDs l m := by rw [eqD]
@[simp] theorem eqDs_nn : eqDs [] [] = true := by rw [eqDs]
@[simp] theorem eqDs_nc (d : D) (l : List D) : eqDs [] (d :: l) = false := by rw [eqDs] <;> simp
@[simp] theorem eqDs_cn (d : D) (l : List D) : eqDs (d :: l) [] = false := by rw [eqDs] <;> simp
@[simp] theorem eqDs_cc (d e : D) (l m : List D) : eqDs (d :: l) (e :: m) = (eqD d e && eqDs l m) := by rw [eqDs]
@[simp] theorem fit_int (n : Nat) (i : Int) : fit n (.int i) = true := by cases n <;> rfl
@[simp] theorem fit_non (n : Nat) : fit n .non = true := by cases n <;> rfl
@[simp] theorem fit_bl (n : Nat) (b : Bool) : fit n (.bl b) = true := by cases n <;> rfl
@[simp] theorem fit_lst' (n : Nat) (l : List D) : fit (n + 1) (.lst l) = fits n l := by rw [fit]
@[simp] theorem fit_tup' (n : Nat) (l : List D) : fit (n + 1) (.tup l) = fits n l := by rw [fit]
@[simp] theorem fits_nil (n : Nat) : fits n [] = true := by rw [fits]
@[simp] theorem fits_cons (n : Nat) (d : D) (l : List D) : fits n (d :: l) = (fit n d && fits n l) := by rw [fits]
@[simp] theorem noL_int (i : Int) : noL (.int i) = true := by rw [noL] <;> simp
@[simp] theorem noL_bl (i : Bool) : noL (.bl i) = true := by rw [noL] <;> simp
@[simp] theorem noL_non : noL .non = true := by rw [noL] <;> simp
@[simp] theorem noL_tup' (l : List D) : noL (.tup l) = noLs l := by rw [noL]
theorem eqDs_ints : ∀ l m : List Int, eqDs (l.map .int) (m.map .int) = decide (l = m)
  | [], [] => by simp
  | [], _ :: _ => by simp
  | _ :: _, [] => by simp
  | a :: l, b :: m => by
    have := eqDs_ints l m
    by_cases h : a = b <;> simp [h, this]
theorem small_nat (n : Nat) (h : n ≤ 1000000) : small (n : Int) = true := by
  unfold small
  exact decide_eq_true (by omega)
theorem dRng1_nat (n : Nat) (h : n ≤ 1000000) : dRng1 [.int (n : Int)] = some (rngL 0 n) := by
  show (if small (n : Int) = true then some (rngL 0 (n : Int).toNat) else none) = _
  rw [if_pos (small_nat n h)]
  rfl
end Fl
end

section
set_option linter.all false
set_option autoImplicit false
set_option maxRecDepth 100000
set_option maxHeartbeats 1000000
namespace Fl
open PySem

/-! ### serving pools: each coin at most the room of the coins before it -/
def okL (p : Int) : Int → List Int → Prop
  | _, [] => True
  | r, c :: cs => 1 ≤ c ∧ c ≤ r / (p - 1) + 1 ∧ okL p (r + c) cs
theorem room_mono {p r s : Int} (hp : 2 ≤ p) (h : r ≤ s) : r / (p - 1) + 1 ≤ s / (p - 1) + 1 := by
  have := Int.ediv_le_ediv (show (0 : Int) < p - 1 by omega) h
  omega
theorem okL_mono {p : Int} (hp : 2 ≤ p) : ∀ {l : List Int} {r s : Int}, r ≤ s → okL p r l → okL p s l
  | [], _, _, _, _ => True.intro
  | c :: cs, r, s, h, ⟨h1, h2, h3⟩ => ⟨h1, by have := room_mono hp h; omega, okL_mono hp (by omega) h3⟩
theorem okL_ins {p : Int} (hp : 2 ≤ p) {c : Int} (hc : 1 ≤ c) : ∀ {l : List Int} {r : Int}, okL p r l → c ≤ (r + l.sum) / (p - 1) + 1 → okL p r (ins leI c l)
  | [], r, _, h => ⟨hc, by simpa using h, True.intro⟩
  | y :: ys, r, ⟨h1, h2, h3⟩, h => by
    unfold ins
    split
    · rename_i hle
      have hle : c ≤ y := by simpa [leI] using hle
      refine ⟨hc, by omega, h1, ?_, okL_mono hp (by omega) h3⟩
      have := room_mono hp (show r ≤ r + c by omega)
      omega
    · refine ⟨h1, h2, okL_ins hp hc h3 ?_⟩
      rw [List.sum_cons] at h
      rw [Int.add_assoc]
      exact h
theorem okL_pos {p : Int} : ∀ {l : List Int} {r : Int}, okL p r l → ∀ c ∈ l, 1 ≤ c
  | [], _, _, c, h => by simp at h
  | y :: ys, r, ⟨h1, h2, h3⟩, c, h => by
    rcases List.mem_cons.mp h with h | h
    · omega
    · exact okL_pos h3 c h
theorem sum_nonneg : ∀ {l : List Int}, (∀ c ∈ l, 1 ≤ c) → 0 ≤ l.sum
  | [], _ => by simp
  | y :: ys, h => by
    have := h y (by simp)
    have := sum_nonneg (l := ys) fun c hc => h c (by simp [hc])
    rw [List.sum_cons]
    omega
theorem le_sum : ∀ {l : List Int}, (∀ c ∈ l, 1 ≤ c) → ∀ c ∈ l, c ≤ l.sum
  | [], _, c, h => by simp at h
  | y :: ys, h, c, hc => by
    have h1 := h y (by simp)
    have h2 := sum_nonneg (l := ys) fun c hc => h c (by simp [hc])
    rw [List.sum_cons]
    rcases List.mem_cons.mp hc with e | hc
    · omega
    · have := le_sum (l := ys) (fun c hc => h c (by simp [hc])) c hc
      omega
theorem room_le {p r : Int} (hp : 2 ≤ p) (hr : 0 ≤ r) : r / (p - 1) + 1 ≤ r + 1 := by
  have : r / (p - 1) ≤ r := Int.ediv_le_self _ hr
  omega
theorem okL_sum {p : Int} (hp : 2 ≤ p) : ∀ {l : List Int} {r : Int}, 0 ≤ r → okL p r l → r + l.sum + 1 ≤ (r + 1) * 2 ^ l.length
  | [], r, _, _ => by simp
  | c :: cs, r, hr, ⟨h1, h2, h3⟩ => by
    have := okL_sum hp (show 0 ≤ r + c by omega) h3
    have h4 := room_le hp hr
    have h5 : r + c + 1 ≤ (r + 1) * 2 := by omega
    have h6 : (r + c + 1) * 2 ^ cs.length ≤ (r + 1) * 2 * 2 ^ cs.length := Int.mul_le_mul_of_nonneg_right h5 (Int.le_of_lt (Int.pow_pos (by decide)))
    rw [List.sum_cons, List.length_cons, Int.pow_succ, Int.mul_comm (2 ^ cs.length) 2, ← Int.mul_assoc]
    omega
theorem sum_perm {l m : List Int} (h : l.Perm m) : l.sum = m.sum := by
  induction h with
  | nil => rfl
  | cons x _ ih => rw [List.sum_cons, List.sum_cons, ih]
  | swap x y l => simp only [List.sum_cons]; omega
  | trans _ _ h1 h2 => exact h1.trans h2
theorem sortI_sum (l : List Int) : (sortI l).sum = l.sum := sum_perm (sortI_perm l)
theorem sortI_cons (c : Int) (l : List Int) : sortI (c :: l) = ins leI c (sortI l) := rfl
/-- a pool in any order that serves -/
def Good (p : Int) (cs : List Int) : Prop := okL p 0 (sortI cs)
theorem Good.perm {p : Int} {cs ds : List Int} (h : Good p cs) (q : cs.Perm ds) : Good p ds := by unfold Good; rw [← sortI_congr q]; exact h
theorem Good.put {p c : Int} {cs : List Int} (hp : 2 ≤ p) (h : Good p cs) (h1 : 1 ≤ c) (h2 : c ≤ cs.sum / (p - 1) + 1) : Good p (c :: cs) := by
  unfold Good
  rw [sortI_cons]
  exact okL_ins hp h1 h (by rw [sortI_sum]; simpa using h2)
theorem Good.pos {p : Int} {cs : List Int} (h : Good p cs) : ∀ c ∈ cs, 1 ≤ c := fun c hc => okL_pos h c (sortI_mem.mpr hc)
theorem Good.sum {p : Int} {cs : List Int} (hp : 2 ≤ p) (h : Good p cs) (n : Nat) (hl : cs.length ≤ n) : cs.sum + 1 ≤ 2 ^ n := by
  have := okL_sum hp (Int.le_refl 0) h
  rw [sortI_sum, sortI_len] at this
  have h2 : (2 : Int) ^ cs.length ≤ 2 ^ n := by
    have : (2 : Nat) ^ cs.length ≤ 2 ^ n := Nat.pow_le_pow_right (by decide) hl
    exact_mod_cast this
  omega
end Fl
end

section
set_option Elab.async false
set_option linter.all false
set_option autoImplicit false
set_option maxRecDepth 100000
set_option maxHeartbeats 4000000
namespace K76
open PySem PySem.Spec PyProof.Rows L2 Fl
def topS (i : Nat) : Stmt := PySem.Challenge.pw_anyworths_k76_whole_next_coins_and_one_m.main.body.getD i (.Pass ⟨0, 0, 0, 0⟩)
abbrev s__law_hand : Stmt := topS 47
abbrev s_is_sequence : Stmt := topS 13
abbrev s_is_whole : Stmt := topS 12
abbrev s_check_pool : Stmt := topS 14
abbrev s_check_people : Stmt := topS 15
abbrev s_next_room : Stmt := topS 18
abbrev s_fitting_range : Stmt := topS 20
abbrev s_fitting_coins : Stmt := topS 21
abbrev s_next_coin : Stmt := topS 22
abbrev s__law_mix : Stmt := topS 46
abbrev s__law_draw : Stmt := topS 48
abbrev s_running_sums : Stmt := topS 41
abbrev s_parted_up : Stmt := topS 39
abbrev s_failing_places : Stmt := topS 42
abbrev s_parted_evenly : Stmt := topS 40
abbrev s_serves : Stmt := topS 43
abbrev s__law_is_whole : Stmt := topS 49
abbrev s__law_next : Stmt := topS 51
abbrev s__law_put : Stmt := topS 56
abbrev s__law_robbed : Stmt := topS 53
abbrev s__law_pool : Stmt := topS 52
abbrev s_whole_within : Stmt := topS 17
abbrev s_may_put : Stmt := topS 23
abbrev s__law_any_right : Stmt := topS 59
abbrev s__law_wish : Stmt := topS 54
abbrev s_checked_amounts : Stmt := topS 25
abbrev s_check_wish : Stmt := topS 26
abbrev s_checked_couple : Stmt := topS 28
abbrev s_put_sorted : Stmt := topS 31
abbrev s_next_entries : Stmt := topS 32
abbrev s_layers_of : Stmt := topS 33
abbrev s_earlier_entry : Stmt := topS 34
abbrev s_chained_entries : Stmt := topS 35
abbrev s_any_split : Stmt := topS 36
abbrev s__law_is_coins : Stmt := topS 50
abbrev s__law_is_split : Stmt := topS 55
abbrev s__law_wishes_right : Stmt := topS 57
abbrev s__law_far_right : Stmt := topS 58
abbrev s_law : Stmt := topS 60
abbrev s_NoSplit : Stmt := inClass (topS 37) 0
abbrev s_Unserved : Stmt := inClass (topS 44) 0
theorem sc__law_hand : FnScope ["_law_script", "_law_total", "_law_k", "_law_cell"] ["_law_script"] (defScope s__law_hand) := ⟨rfl, rfl, rfl, by decide +kernel, rfl, by decide +kernel, by decide +kernel⟩
theorem sc_is_sequence : FnScope ["thing", "low", "high"] ["thing", "low", "high"] (defScope s_is_sequence) := ⟨rfl, rfl, rfl, by decide +kernel, rfl, by decide +kernel, by decide +kernel⟩
theorem sc_is_whole : FnScope ["thing", "low", "high"] ["thing", "low", "high"] (defScope s_is_whole) := ⟨rfl, rfl, rfl, by decide +kernel, rfl, by decide +kernel, by decide +kernel⟩
theorem sc_check_pool : FnScope ["coins", "at", "coin"] ["coins"] (defScope s_check_pool) := ⟨rfl, rfl, rfl, by decide +kernel, rfl, by decide +kernel, by decide +kernel⟩
theorem sc_check_people : FnScope ["people", "low"] ["people", "low"] (defScope s_check_people) := ⟨rfl, rfl, rfl, by decide +kernel, rfl, by decide +kernel, by decide +kernel⟩
theorem sc_next_room : FnScope ["total", "people"] ["total", "people"] (defScope s_next_room) := ⟨rfl, rfl, rfl, by decide +kernel, rfl, by decide +kernel, by decide +kernel⟩
theorem sc_fitting_range : FnScope ["coins", "people", "reached", "low", "high", "coin"] ["coins", "people"] (defScope s_fitting_range) := ⟨rfl, rfl, rfl, by decide +kernel, rfl, by decide +kernel, by decide +kernel⟩
theorem sc_fitting_coins : FnScope ["pool", "people", "coins"] ["pool", "people"] (defScope s_fitting_coins) := ⟨rfl, rfl, rfl, by decide +kernel, rfl, by decide +kernel, by decide +kernel⟩
theorem sc_next_coin : FnScope ["pool", "people", "stretch"] ["pool", "people"] (defScope s_next_coin) := ⟨rfl, rfl, rfl, by decide +kernel, rfl, by decide +kernel, by decide +kernel⟩
theorem sc__law_mix : FnScope ["_law_number", "_law_turn", "_law_once", "_law_twice"] ["_law_number", "_law_turn"] (defScope s__law_mix) := ⟨rfl, rfl, rfl, by decide +kernel, rfl, by decide +kernel, by decide +kernel⟩
theorem sc__law_draw : FnScope ["_law_hand_here", "_law_many", "_law_cell", "_law_rest"] ["_law_hand_here", "_law_many"] (defScope s__law_draw) := ⟨rfl, rfl, rfl, by decide +kernel, rfl, by decide +kernel, by decide +kernel⟩
theorem sc_running_sums : FnScope ["coins", "sums", "total", "coin"] ["coins"] (defScope s_running_sums) := ⟨rfl, rfl, rfl, by decide +kernel, rfl, by decide +kernel, by decide +kernel⟩
theorem sc_parted_up : FnScope ["amount", "people"] ["amount", "people"] (defScope s_parted_up) := ⟨rfl, rfl, rfl, by decide +kernel, rfl, by decide +kernel, by decide +kernel⟩
theorem sc_failing_places : FnScope ["pool", "people", "coins", "sums", "place", "coin"] ["pool", "people"] (defScope s_failing_places) := ⟨rfl, rfl, rfl, by decide +kernel, rfl, by decide +kernel, by decide +kernel⟩
theorem sc_parted_evenly : FnScope ["amount", "people", "each", "more", "person"] ["amount", "people"] (defScope s_parted_evenly) := ⟨rfl, rfl, rfl, by decide +kernel, rfl, by decide +kernel, by decide +kernel⟩
theorem sc_serves : FnScope ["pool", "people", "coins", "failing", "place", "total", "first", "wish"] ["pool", "people"] (defScope s_serves) := ⟨rfl, rfl, rfl, by decide +kernel, rfl, by decide +kernel, by decide +kernel⟩
theorem sc__law_is_whole : FnScope ["_law_thing"] ["_law_thing"] (defScope s__law_is_whole) := ⟨rfl, rfl, rfl, by decide +kernel, rfl, by decide +kernel, by decide +kernel⟩
theorem sc__law_next : FnScope ["_law_total", "_law_people"] ["_law_total", "_law_people"] (defScope s__law_next) := ⟨rfl, rfl, rfl, by decide +kernel, rfl, by decide +kernel, by decide +kernel⟩
theorem sc__law_put : FnScope ["_law_hand_here", "_law_people", "_law_many", "_law_coins", "_law_k", "_law_top", "_law_coin"] ["_law_hand_here", "_law_people", "_law_many"] (defScope s__law_put) := ⟨rfl, rfl, rfl, by decide +kernel, rfl, by decide +kernel, by decide +kernel⟩
theorem sc__law_robbed : FnScope ["_law_hand_here", "_law_pool_here", "_law_place"] ["_law_hand_here", "_law_pool_here"] (defScope s__law_robbed) := ⟨rfl, rfl, rfl, by decide +kernel, rfl, by decide +kernel, by decide +kernel⟩
theorem sc__law_pool : FnScope ["_law_hand_here", "_law_people", "_law_most", "_law_many", "_law_turn", "_law_coins", "_law_k", "_law_coin", "_law_place", "_law_times"] ["_law_hand_here", "_law_people", "_law_most"] (defScope s__law_pool) := ⟨rfl, rfl, rfl, by decide +kernel, rfl, by decide +kernel, by decide +kernel⟩
theorem sc_whole_within : FnScope ["thing", "low", "high"] ["thing", "low", "high"] (defScope s_whole_within) := ⟨rfl, rfl, rfl, by decide +kernel, rfl, by decide +kernel, by decide +kernel⟩
theorem sc_may_put : FnScope ["pool", "coin", "people", "coins", "stretch"] ["pool", "coin", "people"] (defScope s_may_put) := ⟨rfl, rfl, rfl, by decide +kernel, rfl, by decide +kernel, by decide +kernel⟩
theorem sc__law_any_right : FnScope ["_law_hand_here", "_law_people", "_law_pool_here", "_law_told", "_law_tried", "_law_coin", "_law_due"] ["_law_hand_here", "_law_people"] (defScope s__law_any_right) := ⟨rfl, rfl, rfl, by decide +kernel, rfl, by decide +kernel, by decide +kernel⟩
theorem sc__law_wish : FnScope ["_law_hand_here", "_law_total", "_law_people", "_law_wish_here", "_law_k"] ["_law_hand_here", "_law_total", "_law_people"] (defScope s__law_wish) := ⟨rfl, rfl, rfl, by decide +kernel, rfl, by decide +kernel, by decide +kernel⟩
theorem sc_checked_amounts : FnScope ["wish", "place", "amount"] ["wish"] (defScope s_checked_amounts) := ⟨rfl, rfl, rfl, by decide +kernel, rfl, by decide +kernel, by decide +kernel⟩
theorem sc_check_wish : FnScope ["wish", "total", "amounts"] ["wish", "total"] (defScope s_check_wish) := ⟨rfl, rfl, rfl, by decide +kernel, rfl, by decide +kernel, by decide +kernel⟩
theorem sc_checked_couple : FnScope ["pool", "wish", "coins"] ["pool", "wish"] (defScope s_checked_couple) := ⟨rfl, rfl, rfl, by decide +kernel, rfl, by decide +kernel, by decide +kernel⟩
theorem sc_put_sorted : FnScope ["entry", "place", "worth"] ["entry", "place", "worth"] (defScope s_put_sorted) := ⟨rfl, rfl, rfl, by decide +kernel, rfl, by decide +kernel, by decide +kernel⟩
theorem sc_next_entries : FnScope ["layer", "coin", "found", "entry", "place", "lack"] ["layer", "coin"] (defScope s_next_entries) := ⟨rfl, rfl, rfl, by decide +kernel, rfl, by decide +kernel, by decide +kernel⟩
theorem sc_layers_of : FnScope ["pool", "wish", "coins", "amounts", "layers", "coin", "layer"] ["pool", "wish"] (defScope s_layers_of) := ⟨rfl, rfl, rfl, by decide +kernel, rfl, by decide +kernel, by decide +kernel⟩
theorem sc_earlier_entry : FnScope ["layer", "entry", "coin", "found", "place", "lack", "earlier"] ["layer", "entry", "coin"] (defScope s_earlier_entry) := ⟨rfl, rfl, rfl, by decide +kernel, rfl, by decide +kernel, by decide +kernel⟩
theorem sc_chained_entries : FnScope ["coins", "layers", "entry", "chain", "place"] ["coins", "layers"] (defScope s_chained_entries) := ⟨rfl, rfl, rfl, by decide +kernel, rfl, by decide +kernel, by decide +kernel⟩
theorem sc_any_split : FnScope ["pool", "wish", "coins", "amounts", "layers", "lacks", "given", "amount", "coin", "entry", "person", "purse"] ["pool", "wish"] (defScope s_any_split) := ⟨rfl, rfl, rfl, by decide +kernel, rfl, by decide +kernel, by decide +kernel⟩
theorem sc__law_is_coins : FnScope ["_law_thing", "_law_coin"] ["_law_thing"] (defScope s__law_is_coins) := ⟨rfl, rfl, rfl, by decide +kernel, rfl, by decide +kernel, by decide +kernel⟩
theorem sc__law_is_split : FnScope ["_law_split", "_law_pool_here", "_law_wish_here", "_law_coins", "_law_k"] ["_law_split", "_law_pool_here", "_law_wish_here"] (defScope s__law_is_split) := ⟨rfl, rfl, rfl, by decide +kernel, rfl, by decide +kernel, by decide +kernel⟩
theorem sc__law_wishes_right : FnScope ["_law_hand_here", "_law_coins", "_law_people", "_law_top", "_law_good", "_law_turn", "_law_wish_here", "_law_bad", "_law_told"] ["_law_hand_here", "_law_coins", "_law_people"] (defScope s__law_wishes_right) := ⟨rfl, rfl, rfl, by decide +kernel, rfl, by decide +kernel, by decide +kernel⟩
theorem sc__law_far_right : FnScope ["_law_coins", "_law_people", "_law_top"] ["_law_coins", "_law_people"] (defScope s__law_far_right) := ⟨rfl, rfl, rfl, by decide +kernel, rfl, by decide +kernel, by decide +kernel⟩
theorem sc_law : FnScope ["_law_script", "_law_hand_here", "_law_people", "_law_coins"] ["_law_script"] (defScope s_law) := ⟨rfl, rfl, rfl, by decide +kernel, rfl, by decide +kernel, by decide +kernel⟩
theorem si_NoSplit : FnScope ["self", "layers"] ["self", "layers"] (defScope s_NoSplit) := ⟨rfl, rfl, rfl, by decide +kernel, rfl, by decide +kernel, by decide +kernel⟩
theorem i_NoSplit : InitOk s_NoSplit "NoSplit.__init__" ["layers"] := fun P w K mg base C f fd cl na F => by
  refine ⟨["self", "layers"], F.ok si_NoSplit (fun vs H Q E h => h.1) (fun cdv A outer s H vs Q E hr h => ?_), F.binds fun _ _ _ _ _ _ us hl => match us, hl with | [_, _], _ => rfl⟩
  obtain ⟨hl, x, dx, us, rfl, hx, q⟩ := h
  match us, hl with
  | [u0], _ =>
    refine ⟨_, (pss_one (ps_fld (pv 0) (pv 1) (by rfl))), ?_⟩
    refine ⟨u0, rfl, .ref x, rfl, x, C, dx, _, rfl, hx, cl, na _ (by simp), by simp [putF], ?_⟩
    show Q .non (upd H x _)
    exact q
theorem si_Unserved : FnScope ["self", "place", "wish"] ["self", "place", "wish"] (defScope s_Unserved) := ⟨rfl, rfl, rfl, by decide +kernel, rfl, by decide +kernel, by decide +kernel⟩
theorem i_Unserved : InitOk s_Unserved "Unserved.__init__" ["place", "wish"] := fun P w K mg base C f fd cl na F => by
  refine ⟨["self", "place", "wish"], F.ok si_Unserved (fun vs H Q E h => h.1) (fun cdv A outer s H vs Q E hr h => ?_), F.binds fun _ _ _ _ _ _ us hl => match us, hl with | [_, _, _], _ => rfl⟩
  obtain ⟨hl, x, dx, us, rfl, hx, q⟩ := h
  match us, hl with
  | [u0, u1], _ =>
    refine ⟨_, (pss_cons (ps_fld (pv 0) (pv 1) (by rfl)) (pss_one (ps_fld (pv 0) (pv 2) (by rfl)))), ?_⟩
    refine ⟨u0, rfl, .ref x, rfl, x, C, dx, _, rfl, hx, cl, na _ (by simp), by simp [putF], ?_⟩
    refine ⟨u1, rfl, .ref x, rfl, x, C, dx, _, rfl, upd_same, cl, na _ (by simp), by simp [putF], ?_⟩
    show Q .non (upd (upd H x _) x _)
    rw [L2.upd_upd]
    exact q
/-- what the top has left -/
structure Txt (K : PySem.W.Frag) (mg : Str → Option Value) (T : Tab) : Prop where
  d__law_hand : Lies K mg "_law_hand" s__law_hand
  d_is_sequence : Lies K mg "is_sequence" s_is_sequence
  d_is_whole : Lies K mg "is_whole" s_is_whole
  d_check_pool : Lies K mg "check_pool" s_check_pool
  d_check_people : LiesD K mg "check_people" s_check_people [.int 1]
  d_next_room : Lies K mg "next_room" s_next_room
  d_fitting_range : Lies K mg "fitting_range" s_fitting_range
  d_fitting_coins : Lies K mg "fitting_coins" s_fitting_coins
  d_next_coin : Lies K mg "next_coin" s_next_coin
  d__law_mix : Lies K mg "_law_mix" s__law_mix
  d__law_draw : Lies K mg "_law_draw" s__law_draw
  d_running_sums : Lies K mg "running_sums" s_running_sums
  d_parted_up : Lies K mg "parted_up" s_parted_up
  d_failing_places : Lies K mg "failing_places" s_failing_places
  d_parted_evenly : Lies K mg "parted_evenly" s_parted_evenly
  d_serves : Lies K mg "serves" s_serves
  d__law_is_whole : Lies K mg "_law_is_whole" s__law_is_whole
  d__law_next : Lies K mg "_law_next" s__law_next
  d__law_put : Lies K mg "_law_put" s__law_put
  d__law_robbed : Lies K mg "_law_robbed" s__law_robbed
  d__law_pool : Lies K mg "_law_pool" s__law_pool
  d_whole_within : Lies K mg "whole_within" s_whole_within
  d_may_put : Lies K mg "may_put" s_may_put
  d__law_any_right : Lies K mg "_law_any_right" s__law_any_right
  d__law_wish : Lies K mg "_law_wish" s__law_wish
  d_checked_amounts : Lies K mg "checked_amounts" s_checked_amounts
  d_check_wish : Lies K mg "check_wish" s_check_wish
  d_checked_couple : Lies K mg "checked_couple" s_checked_couple
  d_put_sorted : Lies K mg "put_sorted" s_put_sorted
  d_next_entries : Lies K mg "next_entries" s_next_entries
  d_layers_of : Lies K mg "layers_of" s_layers_of
  d_earlier_entry : Lies K mg "earlier_entry" s_earlier_entry
  d_chained_entries : Lies K mg "chained_entries" s_chained_entries
  d_any_split : Lies K mg "any_split" s_any_split
  d__law_is_coins : Lies K mg "_law_is_coins" s__law_is_coins
  d__law_is_split : Lies K mg "_law_is_split" s__law_is_split
  d__law_wishes_right : Lies K mg "_law_wishes_right" s__law_wishes_right
  d__law_far_right : Lies K mg "_law_far_right" s__law_far_right
  d_law : Lies K mg "law" s_law
  c_NoSplit : LiesC K mg T "NoSplit" 0 ["layers"] "NoSplit.__init__" s_NoSplit
  c_Unserved : LiesC K mg T "Unserved" 1 ["place", "wish"] "Unserved.__init__" s_Unserved
  z_abs : mg "abs" = none
  z_bool : mg "bool" = none
  z_divmod : mg "divmod" = none
  z_enumerate : mg "enumerate" = none
  z_int : mg "int" = none
  z_isinstance : mg "isinstance" = none
  z_len : mg "len" = none
  z_list : mg "list" = none
  z_max : mg "max" = none
  z_range : mg "range" = none
  z_sorted : mg "sorted" = none
  z_sum : mg "sum" = none
  z_tuple : mg "tuple" = none
  z_zip : mg "zip" = none
  k_MOST_AMOUNT : ∃ t, mg "MOST_AMOUNT" = some (.int 12000000000 t)
  k_MOST_COINS : ∃ t, mg "MOST_COINS" = some (.int 12 t)
  k_MOST_ENTRIES : ∃ t, mg "MOST_ENTRIES" = some (.int 400 t)
  k_MOST_PEOPLE : ∃ t, mg "MOST_PEOPLE" = some (.int 5 t)
  k_MOST_WORTH : ∃ t, mg "MOST_WORTH" = some (.int 1000000000 t)
def f_is_sequence : FS := (fRet (fAndV (fUn (dIsi2 "list" "tuple") (fVar 0)) (fChain dLe dLe (fVar 1) (fArgs (d1 dLen) (fCons (fVar 0) fNil)) (fVar 2))))
def F_is_sequence : List D → Option Slot := fnD f_is_sequence 3
def f_is_whole : FS := (fRet (fAndV (fUn (dIsi "int") (fVar 0)) (fAndV (fUn dNotT (fUn (dIsi "bool") (fVar 0))) (fChain dLe dLe (fVar 1) (fVar 0) (fVar 2)))))
def F_is_whole : List D → Option Slot := fnD f_is_whole 3
def t_check_pool_0 : FG := (gTp 2 (gCn (gNm 1) (gCn (gNm 2) gNl)))
def b_check_pool_1 : FS := (fIfS (fNot (fUn dTruth (fCall F_is_whole [] (fCons (fVar 2) (fCons (fC (.int 1)) (fCons (fC (.int 1000000000)) fNil)))))) fStuck fSkip)
def f_check_pool : FS := (fSeq (fIfS (fNot (fUn dTruth (fCall F_is_sequence [] (fCons (fVar 0) (fCons (fC (.int 0)) (fCons (fC (.int 12)) fNil)))))) fStuck fSkip)
    (fSeq (fFor (fArgs dEnum (fCons (fVar 0) fNil)) t_check_pool_0 b_check_pool_1)
    (fRet (fArgs (d1 dTupOf) (fCons (fFrz (fLst (fArgs (d1 dSort) (fCons (fVar 0) fNil)))) fNil)))))
def F_check_pool : List D → Option Slot := fnD f_check_pool 3
def f_check_people : FS := (fSeq (fIfS (fNot (fUn dTruth (fCall F_is_whole [] (fCons (fVar 0) (fCons (fVar 1) (fCons (fC (.int 5)) fNil)))))) fStuck fSkip)
    (fRet (fVar 0)))
def F_check_people : List D → Option Slot := fnD f_check_people 2
def f_next_room : FS := (fRet (fBin dAdd (fBin dDiv (fVar 0) (fBin (dI fun i j => i - j) (fVar 1) (fC (.int 1)))) (fC (.int 1))))
def F_next_room : List D → Option Slot := fnD f_next_room 2
def t_fitting_range_0 : FG := (gNm 5)
def b_fitting_range_1 : FS := (fSeq (fIfS (fTest (fBin dGt (fVar 5) (fCall F_next_room [] (fCons (fVar 2) (fCons (fVar 1) fNil))))) (fSeq (fIfS (fTest (fBin dIsN (fVar 4) (fC .non))) (fSet 4 (fCall F_next_room [] (fCons (fVar 2) (fCons (fVar 1) fNil)))) fSkip)
    (fSet 3 (fArgs (d2 dMax2) (fCons (fVar 3) (fCons (fBin (dI fun i j => i - j) (fBin dMul (fBin (dI fun i j => i - j) (fVar 1) (fC (.int 1))) (fBin (dI fun i j => i - j) (fVar 5) (fC (.int 1)))) (fVar 2)) fNil))))) fSkip)
    (fSet 2 (fBin dAdd (fVar 2) (fVar 5))))
def f_fitting_range : FS := (fSeq (fSet 2 (fC (.int 0)))
    (fSeq (fSet 3 (fC (.int 1)))
    (fSeq (fSet 4 (fC .non))
    (fSeq (fFor (fUn dSeq (fVar 0)) t_fitting_range_0 b_fitting_range_1)
    (fSeq (fIfS (fTest (fBin dIsN (fVar 4) (fC .non))) (fSet 4 (fCall F_next_room [] (fCons (fVar 2) (fCons (fVar 1) fNil)))) fSkip)
    (fSeq (fIfS (fTest (fBin dGt (fVar 3) (fVar 4))) (fRet (fC .non)) fSkip)
    (fRet (fArgs dTup (fCons (fVar 3) (fCons (fVar 4) fNil))))))))))
def F_fitting_range : List D → Option Slot := fnD f_fitting_range 6
def f_fitting_coins : FS := (fSeq (fSet 2 (fCall F_check_pool [] (fCons (fVar 0) fNil)))
    (fSeq (fDrop (fCall F_check_people [] (fCons (fVar 1) (fCons (fC (.int 2)) fNil))))
    (fRet (fCall F_fitting_range [] (fCons (fVar 2) (fCons (fVar 1) fNil))))))
def F_fitting_coins : List D → Option Slot := fnD f_fitting_coins 3
def f_next_coin : FS := (fSeq (fSet 2 (fCall F_fitting_coins [] (fCons (fVar 0) (fCons (fVar 1) fNil))))
    (fSeq (fIfS (fTest (fBin dIsN (fVar 2) (fC .non))) (fRet (fC .non)) fSkip)
    (fRet (fBin dIx (fVar 2) (fC (.int 1))))))
def F_next_coin : List D → Option Slot := fnD f_next_coin 3
def f__law_mix : FS := (fSeq (fSet 2 (fBin dMod (fArgs (d1 dIntOf) (fCons (fBin dAdd (fBin dAdd (fBin dMul (fVar 0) (fC (.int 48271))) (fBin dMul (fVar 1) (fC (.int 16807)))) (fC (.int 11))) fNil)) (fC (.int 2147483647))))
    (fSeq (fSet 3 (fBin dMod (fArgs (d1 dIntOf) (fCons (fBin dAdd (fBin dAdd (fBin dMul (fVar 2) (fVar 2)) (fBin dMul (fBin dDiv (fVar 2) (fC (.int 127))) (fC (.int 40692)))) (fBin dMul (fVar 1) (fC (.int 69621)))) fNil)) (fC (.int 2147483399))))
    (fRet (fBin dDiv (fBin dMod (fArgs (d1 dIntOf) (fCons (fBin dAdd (fBin dDiv (fBin dMul (fVar 3) (fVar 3)) (fC (.int 1009))) (fVar 2)) fNil)) (fC (.int 2147483563))) (fC (.int 16))))))
def F__law_mix : List D → Option Slot := fnD f__law_mix 4
def f__law_draw : FS := (fSeq (fIfS (fAnd (fTest (fBin dEq (fLend 0 noL (fBin dIx (fVar 0) (fC (.int 2)))) (fC (.int 0)))) (fTest (fBin dLt (fLend 0 noL (fBin dIx (fVar 0) (fC (.int 1)))) (fLend 0 noL (fArgs (d1 dLen) (fCons (fBin dIx (fVar 0) (fC (.int 0))) fNil)))))) (fSeq (fSet 2 (fLend 0 noL (fBin dIx (fBin dIx (fVar 0) (fC (.int 0))) (fBin dIx (fVar 0) (fC (.int 1))))))
    (fSeq (fSetI 0 (fC (.int 1)) (fBin dAdd (fLend 0 noL (fBin dIx (fVar 0) (fC (.int 1)))) (fC (.int 1))))
    (fSeq (fIfS (fTest (fBin dLt (fVar 2) (fBin dPow (fC (.int 10)) (fC (.int 18))))) (fRet (fBin dMod (fArgs (d1 dIntOf) (fCons (fCall F__law_mix [] (fCons (fBin dMod (fArgs (d1 dIntOf) (fCons (fVar 2) fNil)) (fC (.int 2147483647))) (fCons (fLend 0 noL (fBin dIx (fVar 0) (fC (.int 1)))) fNil))) fNil)) (fVar 1))) fSkip)
    (fSetI 0 (fC (.int 2)) (fVar 2))))) fSkip)
    (fSeq (fIfS (fTest (fBin dGt (fLend 0 noL (fBin dIx (fVar 0) (fC (.int 2)))) (fC (.int 0)))) (fSeq (fSet 3 (fLend 0 noL (fBin dIx (fVar 0) (fC (.int 2)))))
    (fSeq (fSetI 0 (fC (.int 2)) (fBin dDiv (fVar 3) (fVar 1)))
    (fRet (fBin dMod (fArgs (d1 dIntOf) (fCons (fVar 3) fNil)) (fVar 1))))) fSkip)
    (fSeq (fSetI 0 (fC (.int 3)) (fBin dMod (fArgs (d1 dIntOf) (fCons (fBin dAdd (fLend 0 noL (fBin dIx (fVar 0) (fC (.int 3)))) (fC (.int 1))) fNil)) (fC (.int 2147483629))))
    (fRet (fBin dMod (fArgs (d1 dIntOf) (fCons (fCall F__law_mix [] (fCons (fLend 0 noL (fBin dIx (fVar 0) (fC (.int 3)))) (fCons (fLend 0 noL (fBin dIx (fVar 0) (fC (.int 1)))) fNil))) fNil)) (fVar 1))))))
def F__law_draw : FI := fnI f__law_draw 4
def t_running_sums_0 : FG := (gNm 3)
def b_running_sums_1 : FS := (fSeq (fAug 2 (dI fun i j => i + j) (fVar 3))
    (fApp 1 (fVar 2)))
def f_running_sums : FS := (fSeq (fSetO 1 (fLst (fArgs dLst fNil)))
    (fSeq (fSet 2 (fC (.int 0)))
    (fSeq (fFor (fUn dSeq (fVar 0)) t_running_sums_0 b_running_sums_1)
    (fRet (fLend 1 noL (fArgs (d1 dTupOf) (fCons (fVar 1) fNil)))))))
def F_running_sums : List D → Option Slot := fnD f_running_sums 4
def f_parted_up : FS := (fRet (fUn dNeg (fBin dDiv (fUn dNeg (fVar 0)) (fVar 1))))
def F_parted_up : List D → Option Slot := fnD f_parted_up 2
def t_failing_places_0 : FG := (gTp 2 (gCn (gNm 4) (gCn (gNm 5) gNl)))
def c_failing_places_1 : FT := (fTest (fBin dGt (fVar 5) (fCall F_parted_up [] (fCons (fBin dIx (fVar 3) (fVar 4)) (fCons (fVar 1) fNil)))))
def e_failing_places_2 : FE := (fVar 4)
def f_failing_places : FS := (fSeq (fSet 2 (fCall F_check_pool [] (fCons (fVar 0) fNil)))
    (fSeq (fDrop (fCall F_check_people [.int 1] (fCons (fVar 1) fNil)))
    (fSeq (fSet 3 (fCall F_running_sums [] (fCons (fVar 2) fNil)))
    (fRet (fArgs (d1 dTupOf) (fCons (fFrz (fLst (fLc (fArgs dEnum (fCons (fVar 2) fNil)) t_failing_places_0 c_failing_places_1 e_failing_places_2 [4, 5]))) fNil))))))
def F_failing_places : List D → Option Slot := fnD f_failing_places 6
def t_parted_evenly_0 : FG := (gNm 4)
def c_parted_evenly_1 : FT := fYes
def e_parted_evenly_2 : FE := (fIf (fTest (fBin dLt (fVar 4) (fVar 3))) (fBin dAdd (fVar 2) (fC (.int 1))) (fVar 2))
def f_parted_evenly : FS := (fSeq (fTo (gTp 2 (gCn (gNm 2) (gCn (gNm 3) gNl))) (fArgs (d2 dDivmod) (fCons (fVar 0) (fCons (fVar 1) fNil))))
    (fRet (fArgs (d1 dTupOf) (fCons (fFrz (fLst (fLc (fArgs dRng1 (fCons (fVar 1) fNil)) t_parted_evenly_0 c_parted_evenly_1 e_parted_evenly_2 [4]))) fNil))))
def F_parted_evenly : List D → Option Slot := fnD f_parted_evenly 5
def f_serves : FS := (fSeq (fSet 2 (fCall F_check_pool [] (fCons (fVar 0) fNil)))
    (fSeq (fSet 3 (fCall F_failing_places [] (fCons (fVar 2) (fCons (fVar 1) fNil))))
    (fSeq (fIfS (fNot (fUn dTruth (fVar 3))) (fRet (fC .non)) fSkip)
    (fSeq (fSet 4 (fBin dIx (fVar 3) (fC (.int 0))))
    (fSeq (fSet 5 (fArgs (d1 dSum) (fCons (fCut dCutT (fVar 2) fNone (fSome (fBin dAdd (fVar 4) (fC (.int 1))))) fNil)))
    (fSeq (fSet 6 (fCall F_parted_up [] (fCons (fVar 5) (fCons (fVar 1) fNil))))
    (fSeq (fSet 7 (fBin dAdd (fArgs dTup (fCons (fBin dAdd (fVar 6) (fArgs (d1 dSum) (fCons (fCut dCutT (fVar 2) (fSome (fBin dAdd (fVar 4) (fC (.int 1)))) fNone) fNil))) fNil)) (fCall F_parted_evenly [] (fCons (fBin (dI fun i j => i - j) (fVar 5) (fVar 6)) (fCons (fBin (dI fun i j => i - j) (fVar 1) (fC (.int 1))) fNil)))))
    (fRet (fArgs (dMake 1 2) (fCons (fVar 4) (fCons (fVar 7) fNil)))))))))))
def F_serves : List D → Option Slot := fnD f_serves 8
def f__law_is_whole : FS := (fRet (fAndV (fUn (dIsi "int") (fVar 0)) (fUn dNotT (fUn (dIsi "bool") (fVar 0)))))
def F__law_is_whole : List D → Option Slot := fnD f__law_is_whole 1
def f__law_next : FS := (fRet (fBin dAdd (fBin dDiv (fVar 0) (fBin (dI fun i j => i - j) (fVar 1) (fC (.int 1)))) (fC (.int 1))))
def F__law_next : List D → Option Slot := fnD f__law_next 2
def t__law_put_0 : FG := (gNm 4)
def b__law_put_1 : FS := (fSeq (fSet 5 (fCall F_next_coin [] (fCons (fFrz (fLend 3 okO (fLst (fArgs (d1 dItems) (fCons (fVar 3) fNil))))) (fCons (fVar 1) fNil))))
    (fSeq (fIfS (fOr (fNot (fUn dTruth (fCall F__law_is_whole [] (fCons (fVar 5) fNil)))) (fTest (fBin dNe (fVar 5) (fCall F__law_next [] (fCons (fLend 3 noL (fArgs (d1 dSum) (fCons (fVar 3) fNil))) (fCons (fVar 1) fNil)))))) (fRet (fC .non)) fSkip)
    (fSeq (fSet 6 (fIf (fTest (fBin dEq (fCallI 0 F__law_draw (fHere 0 (fCons (fC (.int 3)) fNil))) (fC (.int 0)))) (fVar 5) (fBin dAdd (fC (.int 1)) (fCallI 0 F__law_draw (fHere 0 (fCons (fVar 5) fNil))))))
    (fSeq (fIns 3 (fCallI 0 F__law_draw (fHere 0 (fCons (fBin dAdd (fVar 4) (fC (.int 1))) fNil))) (fVar 6))
    (fIfS (fTest (fBin dNotN (fCall F_serves [] (fCons (fFrz (fLend 3 okO (fLst (fArgs (d1 dItems) (fCons (fVar 3) fNil))))) (fCons (fVar 1) fNil))) (fC .non))) (fRet (fC .non)) fSkip)))))
def f__law_put : FS := (fSeq (fSetO 3 (fLst (fArgs dLst fNil)))
    (fSeq (fFor (fArgs dRng1 (fCons (fVar 2) fNil)) t__law_put_0 b__law_put_1)
    (fFreeze 3 (fRet (fVar 3)))))
def F__law_put : FI := fnI f__law_put 7
def f__law_robbed : FS := (fSeq (fIfS (fTest (fBin dEq (fVar 1) (fFrz (fLst (fArgs dLst fNil))))) (fRet (fVar 1)) fSkip)
    (fSeq (fSet 2 (fCallI 0 F__law_draw (fHere 0 (fCons (fArgs (d1 dLen) (fCons (fVar 1) fNil)) fNil))))
    (fRet (fFrz (fLst (fBin dCatL (fFrz (fLst (fCut dCutL (fVar 1) fNone (fSome (fVar 2))))) (fFrz (fLst (fCut dCutL (fVar 1) (fSome (fBin dAdd (fVar 2) (fC (.int 1)))) fNone)))))))))
def F__law_robbed : FI := fnI f__law_robbed 3
def t__law_pool_0 : FG := (gNm 6)
def b__law_pool_1 : FS := (fSeq (fSet 7 (fCall F__law_next [] (fCons (fLend 5 noL (fArgs (d1 dSum) (fCons (fVar 5) fNil))) (fCons (fVar 1) fNil))))
    (fSeq (fIfS (fAnd (fTest (fBin dNe (fVar 4) (fC (.int 3)))) (fTest (fBin dGt (fCallI 0 F__law_draw (fHere 0 (fCons (fC (.int 3)) fNil))) (fC (.int 0))))) (fSet 7 (fBin dAdd (fC (.int 1)) (fCallI 0 F__law_draw (fHere 0 (fCons (fVar 7) fNil))))) fSkip)
    (fIns 5 (fCallI 0 F__law_draw (fHere 0 (fCons (fBin dAdd (fLend 5 noL (fArgs (d1 dLen) (fCons (fVar 5) fNil))) (fC (.int 1))) fNil))) (fVar 7))))
def t__law_pool_2 : FG := (gNm 7)
def c__law_pool_3 : FT := fYes
def e__law_pool_4 : FE := (fBin dMul (fVar 7) (fVar 9))
def f__law_pool : FS := (fSeq (fSet 3 (fCallI 0 F__law_draw (fHere 0 (fCons (fBin dAdd (fVar 2) (fC (.int 1))) fNil))))
    (fSeq (fSet 4 (fCallI 0 F__law_draw (fHere 0 (fCons (fC (.int 6)) fNil))))
    (fSeq (fSetO 5 (fLst (fArgs dLst fNil)))
    (fSeq (fFor (fArgs dRng1 (fCons (fVar 3) fNil)) t__law_pool_0 b__law_pool_1)
    (fSeq (fIfS (fLend 5 (fun _ => true) (fTest (fBin dNe (fVar 5) (fFrz (fLst (fArgs dLst fNil)))))) (fSeq (fSet 8 (fCallI 0 F__law_draw (fHere 0 (fCons (fLend 5 noL (fArgs (d1 dLen) (fCons (fVar 5) fNil))) fNil))))
    (fSeq (fIfS (fTest (fBin dEq (fVar 4) (fC (.int 3)))) (fSetO 5 (fLst (fBin dCatL (fFrz (fLend 5 okO (fLst (fCut dCutL (fVar 5) fNone (fSome (fVar 8)))))) (fFrz (fLend 5 okO (fLst (fCut dCutL (fVar 5) (fSome (fBin dAdd (fVar 8) (fC (.int 1)))) fNone))))))) fSkip)
    (fIfS (fTest (fBin dGe (fVar 4) (fC (.int 4)))) (fSetI 5 (fVar 8) (fBin dAdd (fBin dAdd (fCall F__law_next [] (fCons (fLend 5 noL (fArgs (d1 dSum) (fCons (fVar 5) fNil))) (fCons (fVar 1) fNil))) (fC (.int 1))) (fCallI 0 F__law_draw (fHere 0 (fCons (fC (.int 3)) fNil))))) fSkip))) fSkip)
    (fSeq (fIfS (fTest (fBin dEq (fVar 4) (fC (.int 5)))) (fSeq (fSet 9 (fBin dAdd (fC (.int 1)) (fCallI 0 F__law_draw (fHere 0 (fCons (fBin dPow (fC (.int 10)) (fC (.int 5))) fNil)))))
    (fFreeze 5 (fSetO 5 (fLst (fLc (fUn dSeq (fVar 5)) t__law_pool_2 c__law_pool_3 e__law_pool_4 [7]))))) fSkip)
    (fFreeze 5 (fRet (fVar 5)))))))))
def F__law_pool : FI := fnI f__law_pool 10
def f_whole_within : FS := (fRet (fAndV (fUn (dIsi "int") (fVar 0)) (fAndV (fUn dNotT (fUn (dIsi "bool") (fVar 0))) (fChain dLe dLe (fVar 1) (fVar 0) (fVar 2)))))
def F_whole_within : List D → Option Slot := fnD f_whole_within 3
def f_may_put : FS := (fSeq (fSet 3 (fCall F_check_pool [] (fCons (fVar 0) fNil)))
    (fSeq (fIfS (fNot (fUn dTruth (fCall F_whole_within [] (fCons (fVar 1) (fCons (fC (.int 1)) (fCons (fBin dPow (fC (.int 10)) (fC (.int 9))) fNil)))))) fStuck fSkip)
    (fSeq (fDrop (fCall F_check_people [] (fCons (fVar 2) (fCons (fC (.int 2)) fNil))))
    (fSeq (fSet 4 (fCall F_fitting_range [] (fCons (fVar 3) (fCons (fVar 2) fNil))))
    (fRet (fAndV (fBin dNotN (fVar 4) (fC .non)) (fChain dLe dLe (fBin dIx (fVar 4) (fC (.int 0))) (fVar 1) (fBin dIx (fVar 4) (fC (.int 1))))))))))
def F_may_put : List D → Option Slot := fnD f_may_put 5
def t__law_any_right_0 : FG := (gNm 5)
def b__law_any_right_1 : FS := (fIfS (fTest (fBin dLe (fVar 5) (fBin dPow (fC (.int 10)) (fC (.int 9))))) (fSeq (fSet 6 (fBin dIsN (fCall F_serves [] (fCons (fFrz (fLst (fBin dCatL (fVar 2) (fFrz (fLst (fArgs dLst (fCons (fVar 5) fNil))))))) (fCons (fVar 1) fNil))) (fC .non)))
    (fIfS (fOr (fTest (fBin dNe (fVar 6) (fAndV (fBin dNotN (fVar 3) (fC .non)) (fChain dLe dLe (fBin dIx (fVar 3) (fC (.int 0))) (fVar 5) (fBin dIx (fVar 3) (fC (.int 1))))))) (fTest (fBin dNe (fCall F_may_put [] (fCons (fVar 2) (fCons (fVar 5) (fCons (fVar 1) fNil)))) (fVar 6)))) (fRet (fC (.bl false))) fSkip)) fSkip)
def f__law_any_right : FS := (fSeq (fSet 2 (fCallI 0 F__law_robbed (fHere 0 (fCons (fCallI 0 F__law_pool (fHere 0 (fCons (fVar 1) (fCons (fC (.int 7)) fNil)))) fNil))))
    (fSeq (fSet 3 (fCall F_fitting_coins [] (fCons (fVar 2) (fCons (fVar 1) fNil))))
    (fSeq (fSet 4 (fFrz (fLst (fArgs dLst (fCons (fC (.int 1)) (fCons (fBin dAdd (fC (.int 1)) (fCallI 0 F__law_draw (fHere 0 (fCons (fC (.int 9)) fNil)))) (fCons (fBin dAdd (fC (.int 1)) (fCallI 0 F__law_draw (fHere 0 (fCons (fBin dPow (fC (.int 10)) (fC (.int 9))) fNil)))) (fCons (fCall F__law_next [] (fCons (fArgs (d1 dSum) (fCons (fVar 2) fNil)) (fCons (fVar 1) fNil))) fNil))))))))
    (fSeq (fIfS (fTest (fBin dNotN (fVar 3) (fC .non))) (fSet 4 (fFrz (fLst (fBin dCatL (fVar 4) (fFrz (fLst (fArgs dLst (fCons (fBin dIx (fVar 3) (fC (.int 0))) (fCons (fBin dIx (fVar 3) (fC (.int 1))) (fCons (fArgs (d2 dMax2) (fCons (fC (.int 1)) (fCons (fBin (dI fun i j => i - j) (fBin dIx (fVar 3) (fC (.int 0))) (fC (.int 1))) fNil))) (fCons (fBin dAdd (fBin dIx (fVar 3) (fC (.int 1))) (fC (.int 1))) fNil))))))))))) fSkip)
    (fSeq (fFor (fUn dSeq (fVar 4)) t__law_any_right_0 b__law_any_right_1)
    (fRet (fC (.bl true))))))))
def F__law_any_right : FI := fnI f__law_any_right 7
def t__law_wish_0 : FG := (gNm 4)
def b__law_wish_1 : FS := (fApp 3 (fCallI 0 F__law_draw (fHere 0 (fCons (fBin dAdd (fBin (dI fun i j => i - j) (fVar 1) (fLend 3 noL (fArgs (d1 dSum) (fCons (fVar 3) fNil)))) (fC (.int 1))) fNil))))
def f__law_wish : FS := (fSeq (fSetO 3 (fLst (fArgs dLst fNil)))
    (fSeq (fFor (fArgs dRng1 (fCons (fBin (dI fun i j => i - j) (fVar 2) (fC (.int 1))) fNil)) t__law_wish_0 b__law_wish_1)
    (fSeq (fIns 3 (fCallI 0 F__law_draw (fHere 0 (fCons (fVar 2) fNil))) (fBin (dI fun i j => i - j) (fVar 1) (fLend 3 noL (fArgs (d1 dSum) (fCons (fVar 3) fNil)))))
    (fFreeze 3 (fRet (fVar 3))))))
def F__law_wish : FI := fnI f__law_wish 5
def t_checked_amounts_0 : FG := (gTp 2 (gCn (gNm 1) (gCn (gNm 2) gNl)))
def b_checked_amounts_1 : FS := (fIfS (fNot (fUn dTruth (fCall F_is_whole [] (fCons (fVar 2) (fCons (fC (.int 0)) (fCons (fC (.int 12000000000)) fNil)))))) fStuck fSkip)
def f_checked_amounts : FS := (fSeq (fIfS (fNot (fUn dTruth (fCall F_is_sequence [] (fCons (fVar 0) (fCons (fC (.int 1)) (fCons (fC (.int 5)) fNil)))))) fStuck fSkip)
    (fSeq (fFor (fArgs dEnum (fCons (fVar 0) fNil)) t_checked_amounts_0 b_checked_amounts_1)
    (fRet (fArgs (d1 dTupOf) (fCons (fVar 0) fNil)))))
def F_checked_amounts : List D → Option Slot := fnD f_checked_amounts 3
def f_check_wish : FS := (fSeq (fSet 2 (fCall F_checked_amounts [] (fCons (fVar 0) fNil)))
    (fSeq (fIfS (fTest (fBin dNe (fArgs (d1 dSum) (fCons (fVar 2) fNil)) (fVar 1))) fStuck fSkip)
    (fRet (fVar 2))))
def F_check_wish : List D → Option Slot := fnD f_check_wish 3
def f_checked_couple : FS := (fSeq (fSet 2 (fCall F_check_pool [] (fCons (fVar 0) fNil)))
    (fRet (fArgs dTup (fCons (fVar 2) (fCons (fCall F_check_wish [] (fCons (fVar 1) (fCons (fArgs (d1 dSum) (fCons (fVar 2) fNil)) fNil))) fNil)))))
def F_checked_couple : List D → Option Slot := fnD f_checked_couple 3
def f_put_sorted : FS := (fRet (fArgs (d1 dTupOf) (fCons (fFrz (fLst (fArgs (d1 dSort) (fCons (fBin dAdd (fBin dAdd (fCut dCutT (fVar 0) fNone (fSome (fVar 1))) (fArgs dTup (fCons (fVar 2) fNil))) (fCut dCutT (fVar 0) (fSome (fBin dAdd (fVar 1) (fC (.int 1)))) fNone)) fNil)))) fNil)))
def F_put_sorted : List D → Option Slot := fnD f_put_sorted 3
def t_next_entries_0 : FG := (gTp 2 (gCn (gNm 4) (gCn (gNm 5) gNl)))
def b_next_entries_1 : FS := (fIfS (fTest (fBin dGe (fVar 5) (fVar 1))) (fPutT 2 (fCall F_put_sorted [] (fCons (fVar 3) (fCons (fVar 4) (fCons (fBin (dI fun i j => i - j) (fVar 5) (fVar 1)) fNil)))) (fC (.bl true))) fSkip)
def t_next_entries_2 : FG := (gNm 3)
def b_next_entries_3 : FS := (fFor (fArgs dEnum (fCons (fVar 3) fNil)) t_next_entries_0 b_next_entries_1)
def f_next_entries : FS := (fSeq (fSetO 2 (fun ρ => some (.dT [], ρ)))
    (fSeq (fFor (fUn dSeq (fVar 0)) t_next_entries_2 b_next_entries_3)
    (fRet (fArgs (d1 dTupOf) (fCons (fFrz (fLst (fArgs (d1 dSort) (fCons (fFrz (fKeysT 2)) fNil)))) fNil)))))
def F_next_entries : List D → Option Slot := fnD f_next_entries 6
def t_layers_of_0 : FG := (gNm 5)
def b_layers_of_1 : FS := (fSeq (fSet 6 (fCall F_next_entries [] (fCons (fLend 4 noL (fBin dIx (fVar 4) (fUn dNeg (fC (.int 1))))) (fCons (fVar 5) fNil))))
    (fSeq (fIfS (fTest (fBin dGt (fArgs (d1 dLen) (fCons (fVar 6) fNil)) (fC (.int 400)))) fStuck fSkip)
    (fSeq (fApp 4 (fVar 6))
    (fIfS (fNot (fUn dTruth (fVar 6))) (fRet (fLend 4 noL (fArgs (d1 dTupOf) (fCons (fVar 4) fNil)))) fSkip))))
def f_layers_of : FS := (fSeq (fTo (gTp 2 (gCn (gNm 2) (gCn (gNm 3) gNl))) (fCall F_checked_couple [] (fCons (fVar 0) (fCons (fVar 1) fNil))))
    (fSeq (fSetO 4 (fLst (fArgs dLst (fCons (fArgs dTup (fCons (fArgs (d1 dTupOf) (fCons (fFrz (fLst (fArgs (d1 dSort) (fCons (fVar 3) fNil)))) fNil)) fNil)) fNil))))
    (fSeq (fFor (fUn dSeq (fUn dRevT (fVar 2))) t_layers_of_0 b_layers_of_1)
    (fRet (fLend 4 noL (fArgs (d1 dTupOf) (fCons (fVar 4) fNil)))))))
def F_layers_of : List D → Option Slot := fnD f_layers_of 7
def t_earlier_entry_0 : FG := (gTp 2 (gCn (gNm 4) (gCn (gNm 5) gNl)))
def c_earlier_entry_1 : FT := fYes
def e_earlier_entry_2 : FE := (fCall F_put_sorted [] (fCons (fVar 1) (fCons (fVar 4) (fCons (fBin dAdd (fVar 5) (fVar 2)) fNil))))
def t_earlier_entry_3 : FG := (gNm 6)
def c_earlier_entry_4 : FT := (fTest (fBin (dInS false) (fVar 6) (fVar 0)))
def e_earlier_entry_5 : FE := (fVar 6)
def f_earlier_entry : FS := (fSeq (fSet 3 (fFrz (fLst (fLc (fArgs dEnum (fCons (fVar 1) fNil)) t_earlier_entry_0 c_earlier_entry_1 e_earlier_entry_2 [4, 5]))))
    (fRet (fBin dIx (fFrz (fLst (fLc (fUn dSeq (fVar 3)) t_earlier_entry_3 c_earlier_entry_4 e_earlier_entry_5 [6]))) (fC (.int 0)))))
def F_earlier_entry : List D → Option Slot := fnD f_earlier_entry 7
def t_chained_entries_0 : FG := (gNm 4)
def b_chained_entries_1 : FS := (fSeq (fSet 2 (fCall F_earlier_entry [] (fCons (fBin dIx (fVar 1) (fBin (dI fun i j => i - j) (fArgs (d1 dLen) (fCons (fVar 0) fNil)) (fVar 4))) (fCons (fVar 2) (fCons (fBin dIx (fVar 0) (fBin (dI fun i j => i - j) (fVar 4) (fC (.int 1)))) fNil)))))
    (fApp 3 (fVar 2)))
def f_chained_entries : FS := (fSeq (fSet 2 (fBin dIx (fBin dIx (fVar 1) (fUn dNeg (fC (.int 1)))) (fC (.int 0))))
    (fSeq (fSetO 3 (fLst (fArgs dLst (fCons (fVar 2) fNil))))
    (fSeq (fFor (fArgs dRng2 (fCons (fC (.int 1)) (fCons (fArgs (d1 dLen) (fCons (fVar 0) fNil)) fNil))) t_chained_entries_0 b_chained_entries_1)
    (fRet (fFrz (fLend 3 okO (fLst (fUn dRevL (fVar 3)))))))))
def F_chained_entries : List D → Option Slot := fnD f_chained_entries 5
def t_any_split_0 : FG := (gNm 7)
def c_any_split_1 : FT := (fOr (fTest (fBin dLt (fLend 5 noL (fBin dIx (fVar 5) (fVar 10))) (fVar 8))) (fTest (fBin dNe (fCall F_put_sorted [] (fCons (fLend 5 noL (fArgs (d1 dTupOf) (fCons (fVar 5) fNil))) (fCons (fVar 10) (fCons (fBin (dI fun i j => i - j) (fLend 5 noL (fBin dIx (fVar 5) (fVar 10))) (fVar 8)) fNil)))) (fVar 9))))
def b_any_split_2 : FS := (fAug 10 (dI fun i j => i + j) (fC (.int 1)))
def t_any_split_3 : FG := (gTp 2 (gCn (gNm 8) (gCn (gNm 9) gNl)))
def b_any_split_4 : FS := (fSeq (fSet 10 (fC (.int 0)))
    (fSeq (fWhile c_any_split_1 b_any_split_2 64)
    (fSeq (fAugI 5 (dI fun i j => i - j) (fVar 10) (fVar 8))
    (fAppL 6 (fVar 10) (fVar 8)))))
def t_any_split_5 : FG := (gNm 11)
def c_any_split_6 : FT := fYes
def e_any_split_7 : FE := (fArgs (d1 dTupOf) (fCons (fFrz (fLst (fUn dRevL (fVar 11)))) fNil))
def f_any_split : FS := (fSeq (fTo (gTp 2 (gCn (gNm 2) (gCn (gNm 3) gNl))) (fCall F_checked_couple [] (fCons (fVar 0) (fCons (fVar 1) fNil))))
    (fSeq (fSet 4 (fCall F_layers_of [] (fCons (fVar 2) (fCons (fVar 3) fNil))))
    (fSeq (fIfS (fNot (fUn dTruth (fBin dIx (fVar 4) (fUn dNeg (fC (.int 1)))))) (fRet (fArgs (dMake 0 1) (fCons (fVar 4) fNil))) fSkip)
    (fSeq (fSetO 5 (fLst (fArgs (d1 dItems) (fCons (fVar 3) fNil))))
    (fSeq (fSetO 6 (fLc0 (fUn dSeq (fVar 3)) t_any_split_0 [7]))
    (fSeq (fFor (fArgs dZip (fCons (fUn dRevT (fVar 2)) (fCons (fCall F_chained_entries [] (fCons (fVar 2) (fCons (fVar 4) fNil))) fNil))) t_any_split_3 b_any_split_4)
    (fRet (fLend 6 noL (fArgs (d1 dTupOf) (fCons (fFrz (fLst (fLc (fUn dSeq (fVar 6)) t_any_split_5 c_any_split_6 e_any_split_7 [11]))) fNil))))))))))
def F_any_split : List D → Option Slot := fnD f_any_split 12
def t__law_is_coins_0 : FG := (gNm 1)
def c__law_is_coins_1 : FT := (fOr (fNot (fUn dTruth (fCall F__law_is_whole [] (fCons (fVar 1) fNil)))) (fTest (fBin dLt (fVar 1) (fC (.int 1)))))
def e__law_is_coins_2 : FE := (fVar 1)
def f__law_is_coins : FS := (fSeq (fIfS (fOr (fNot (fUn dTruth (fUn (dIsi "tuple") (fVar 0)))) (fTest (fBin dNe (fFrz (fLst (fLc (fUn dSeq (fVar 0)) t__law_is_coins_0 c__law_is_coins_1 e__law_is_coins_2 [1]))) (fFrz (fLst (fArgs dLst fNil)))))) (fRet (fC (.bl false))) fSkip)
    (fRet (fBin dEq (fFrz (fLst (fArgs (d1 dItems) (fCons (fVar 0) fNil)))) (fFrz (fLst (fArgs (d1 dSort) (fCons (fFrz (fLst (fArgs (d1 dItems) (fCons (fVar 0) fNil)))) fNil)))))))
def F__law_is_coins : List D → Option Slot := fnD f__law_is_coins 2
def t__law_is_split_0 : FG := (gNm 4)
def b__law_is_split_1 : FS := (fSeq (fIfS (fOr (fNot (fUn dTruth (fCall F__law_is_coins [] (fCons (fBin dIx (fVar 0) (fVar 4)) fNil)))) (fTest (fBin dNe (fArgs (d1 dSum) (fCons (fBin dIx (fVar 0) (fVar 4)) fNil)) (fBin dIx (fVar 2) (fVar 4))))) (fRet (fC (.bl false))) fSkip)
    (fSet 3 (fFrz (fLst (fBin dCatL (fVar 3) (fFrz (fLst (fArgs (d1 dItems) (fCons (fBin dIx (fVar 0) (fVar 4)) fNil)))))))))
def f__law_is_split : FS := (fSeq (fIfS (fOr (fNot (fUn dTruth (fUn (dIsi "tuple") (fVar 0)))) (fTest (fBin dNe (fArgs (d1 dLen) (fCons (fVar 0) fNil)) (fArgs (d1 dLen) (fCons (fVar 2) fNil))))) (fRet (fC (.bl false))) fSkip)
    (fSeq (fSet 3 (fFrz (fLst (fArgs dLst fNil))))
    (fSeq (fFor (fArgs dRng1 (fCons (fArgs (d1 dLen) (fCons (fVar 2) fNil)) fNil)) t__law_is_split_0 b__law_is_split_1)
    (fRet (fBin dEq (fFrz (fLst (fArgs (d1 dSort) (fCons (fVar 3) fNil)))) (fFrz (fLst (fArgs (d1 dSort) (fCons (fFrz (fLst (fArgs (d1 dItems) (fCons (fVar 1) fNil)))) fNil)))))))))
def F__law_is_split : List D → Option Slot := fnD f__law_is_split 5
def t__law_wishes_right_0 : FG := (gNm 5)
def b__law_wishes_right_1 : FS := (fSeq (fSet 6 (fCallI 0 F__law_wish (fHere 0 (fCons (fArgs (d1 dSum) (fCons (fVar 4) fNil)) (fCons (fVar 2) fNil)))))
    (fIfS (fNot (fUn dTruth (fCall F__law_is_split [] (fCons (fCall F_any_split [] (fCons (fVar 4) (fCons (fVar 6) fNil))) (fCons (fVar 4) (fCons (fVar 6) fNil)))))) (fRet (fC (.bl false))) fSkip))
def f__law_wishes_right : FS := (fSeq (fSet 3 (fCall F_next_coin [] (fCons (fVar 1) (fCons (fVar 2) fNil))))
    (fSeq (fIfS (fNot (fUn dTruth (fCall F__law_is_whole [] (fCons (fVar 3) fNil)))) (fRet (fC (.bl false))) fSkip)
    (fSeq (fSet 4 (fFrz (fLst (fBin dCatL (fVar 1) (fFrz (fLst (fArgs dLst (fCons (fVar 3) fNil))))))))
    (fSeq (fIfS (fOr (fTest (fBin dNotN (fCall F_serves [] (fCons (fVar 4) (fCons (fVar 2) fNil))) (fC .non))) (fTest (fBin dNe (fCall F_fitting_coins [] (fCons (fVar 1) (fCons (fVar 2) fNil))) (fArgs dTup (fCons (fC (.int 1)) (fCons (fVar 3) fNil)))))) (fRet (fC (.bl false))) fSkip)
    (fSeq (fFor (fArgs dRng1 (fCons (fC (.int 3)) fNil)) t__law_wishes_right_0 b__law_wishes_right_1)
    (fSeq (fSet 7 (fFrz (fLst (fBin dCatL (fVar 1) (fFrz (fLst (fArgs dLst (fCons (fBin dAdd (fVar 3) (fC (.int 1))) fNil))))))))
    (fSeq (fSet 8 (fCall F_serves [] (fCons (fVar 7) (fCons (fVar 2) fNil))))
    (fSeq (fIfS (fOr (fNot (fUn dTruth (fUn (dIsiC 1) (fVar 8)))) (fOr (fNot (fUn dTruth (fUn (dIsi "tuple") (fUn (dFld 1 1) (fVar 8))))) (fTest (fBin dNe (fArgs (d1 dSum) (fCons (fUn (dFld 1 1) (fVar 8)) fNil)) (fArgs (d1 dSum) (fCons (fVar 7) fNil)))))) (fRet (fC (.bl false))) fSkip)
    (fRet (fUn (dIsiC 0) (fCall F_any_split [] (fCons (fVar 7) (fCons (fUn (dFld 1 1) (fVar 8)) fNil)))))))))))))
def F__law_wishes_right : FI := fnI f__law_wishes_right 9
def f__law_far_right : FS := (fSeq (fSet 2 (fCall F_next_coin [] (fCons (fVar 0) (fCons (fVar 1) fNil))))
    (fSeq (fIfS (fOr (fNot (fUn dTruth (fCall F__law_is_whole [] (fCons (fVar 2) fNil)))) (fOr (fTest (fBin dNotN (fCall F_serves [] (fCons (fFrz (fLst (fBin dCatL (fVar 0) (fFrz (fLst (fArgs dLst (fCons (fVar 2) fNil))))))) (fCons (fVar 1) fNil))) (fC .non))) (fNot (fUn dTruth (fCall F_may_put [] (fCons (fVar 0) (fCons (fVar 2) (fCons (fVar 1) fNil)))))))) (fRet (fC (.bl false))) fSkip)
    (fSeq (fIfS (fNot (fUn dTruth (fUn (dIsiC 1) (fCall F_serves [] (fCons (fFrz (fLst (fBin dCatL (fVar 0) (fFrz (fLst (fArgs dLst (fCons (fBin dAdd (fVar 2) (fC (.int 1))) fNil))))))) (fCons (fVar 1) fNil)))))) (fRet (fC (.bl false))) fSkip)
    (fRet (fUn dNotT (fCall F_may_put [] (fCons (fVar 0) (fCons (fBin dAdd (fVar 2) (fC (.int 1))) (fCons (fVar 1) fNil)))))))))
def F__law_far_right : List D → Option Slot := fnD f__law_far_right 3
def f_law : FS := (fSeq (fSet 2 (fBin dAdd (fC (.int 2)) (fCallI 1 F__law_draw (fHere 1 (fCons (fC (.int 4)) fNil)))))
    (fSeq (fSet 3 (fCallI 1 F__law_put (fHere 1 (fCons (fVar 2) (fCons (fCallI 1 F__law_draw (fHere 1 (fCons (fBin dIx (fFrz (fLst (fArgs dLst (fCons (fC (.int 5)) (fCons (fC (.int 5)) (fCons (fC (.int 4)) (fCons (fC (.int 3)) fNil))))))) (fBin (dI fun i j => i - j) (fVar 2) (fC (.int 2)))) fNil))) fNil)))))
    (fSeq (fIfS (fOr (fTest (fBin dIsN (fVar 3) (fC .non))) (fNot (fUn dTruth (fCallI 1 F__law_wishes_right (fHere 1 (fCons (fVar 3) (fCons (fVar 2) fNil))))))) (fRet (fC (.bl false))) fSkip)
    (fSeq (fSet 3 (fCallI 1 F__law_put (fHere 1 (fCons (fVar 2) (fCons (fCallI 1 F__law_draw (fHere 1 (fCons (fC (.int 12)) fNil))) fNil)))))
    (fSeq (fIfS (fOr (fTest (fBin dIsN (fVar 3) (fC .non))) (fNot (fUn dTruth (fCall F__law_far_right [] (fCons (fVar 3) (fCons (fVar 2) fNil)))))) (fRet (fC (.bl false))) fSkip)
    (fRet (fAndV (fCallI 1 F__law_any_right (fHere 1 (fCons (fVar 2) fNil))) (fCallI 1 F__law_any_right (fHere 1 (fCons (fVar 2) fNil))))))))))
section
variable {P : Program} {w : World} {K : PySem.W.Frag} {mg : Str → Option Value} {base : Heap} {T : Tab}
theorem p_is_sequence (t : Txt K mg T)  : Body P w K mg base T "is_sequence" s_is_sequence ["thing", "low", "high"] 0 f_is_sequence := fun f cdv A outer s H E hr => by
  delta f_is_sequence
  exact (pssf_one (psf_ret (pef_and (pef_isi2 (t.z_isinstance) (pef_var (i := 0)) (pe_tyN (t.z_list)) (pe_tyN (t.z_tuple))) (pef_one (pef_ch c_le c_le (pef_var (i := 1)) (pef_bf b_len (t.z_len) (paf_cons (pef_var (i := 0)) paf_nil)) (pef_var (i := 2)))))))
theorem g_is_sequence_ (t : Txt K mg T) : Df P w K mg base T "is_sequence" 1 (spD T 3 F_is_sequence) [] := Df.mkD t.d_is_sequence sc_is_sequence (p_is_sequence t ) (fun _ _ _ _ _ _ us hl => match us, hl with | [_, _, _], _ => rfl)
theorem p_is_whole (t : Txt K mg T)  : Body P w K mg base T "is_whole" s_is_whole ["thing", "low", "high"] 0 f_is_whole := fun f cdv A outer s H E hr => by
  delta f_is_whole
  exact (pssf_one (psf_ret (pef_and (pef_isi (t.z_isinstance) (pef_var (i := 0)) (pe_tyN (t.z_int))) (pef_and (pef_notT (pef_isi (t.z_isinstance) (pef_var (i := 0)) (pe_tyN (t.z_bool)))) (pef_one (pef_ch c_le c_le (pef_var (i := 1)) (pef_var (i := 0)) (pef_var (i := 2))))))))
theorem g_is_whole_ (t : Txt K mg T) : Df P w K mg base T "is_whole" 1 (spD T 3 F_is_whole) [] := Df.mkD t.d_is_whole sc_is_whole (p_is_whole t ) (fun _ _ _ _ _ _ us hl => match us, hl with | [_, _, _], _ => rfl)
theorem p_check_pool (t : Txt K mg T) (g_is_sequence : Df P w K mg base T "is_sequence" 1 (spD T 3 F_is_sequence) []) (g_is_whole : Df P w K mg base T "is_whole" 1 (spD T 3 F_is_whole) []) : Body P w K mg base T "check_pool" s_check_pool ["coins", "at", "coin"] 2 f_check_pool := fun f cdv A outer s H E hr => by
  delta f_check_pool
  exact (pssf_cons (psf_if (ptf_not (ptf_tru (pef_call [] (g_is_sequence.cal hr) (paf_cons (pef_var (i := 0)) (paf_cons pef_int (paf_cons (pef_globE t.k_MOST_COINS) paf_nil))) (hm := len_dd (len_cons (len_cons (len_cons len_nil))))))) (pssf_one psf_never) pssf_nil)
      (pssf_cons (psf_for PassesOwn.never rfl (pif_enum (t.z_enumerate) (paf_cons (pef_var (i := 0)) paf_nil)) (pgf_tup rfl (pgsf_cons (pgf_name (i := 1) sc_check_pool.nd) (pgsf_cons (pgf_name (i := 2) sc_check_pool.nd) pgsf_nil))) (pssf_one (psf_if (ptf_not (ptf_tru (pef_call [] (g_is_whole.cal hr) (paf_cons (pef_var (i := 2)) (paf_cons pef_int (paf_cons (pef_globE t.k_MOST_WORTH) paf_nil))) (hm := len_dd (len_cons (len_cons (len_cons len_nil))))))) (pssf_one psf_never) pssf_nil)))
      (pssf_one (psf_ret (pef_bt b_tuple (t.z_tuple) (paf_cons (pef_frz (peo_bf (b_sorted hr) (t.z_sorted) (paf_cons (pef_var (i := 0)) paf_nil))) paf_nil))))))
theorem g_check_pool_ (t : Txt K mg T) : Df P w K mg base T "check_pool" 3 (spD T 1 F_check_pool) [] := Df.mkD t.d_check_pool sc_check_pool (p_check_pool t (g_is_sequence_ t) (g_is_whole_ t)) (fun _ _ _ _ _ _ us hl => match us, hl with | [_], _ => rfl)
theorem p_check_people (t : Txt K mg T) (g_is_whole : Df P w K mg base T "is_whole" 1 (spD T 3 F_is_whole) []) : Body P w K mg base T "check_people" s_check_people ["people", "low"] 2 f_check_people := fun f cdv A outer s H E hr => by
  delta f_check_people
  exact (pssf_cons (psf_if (ptf_not (ptf_tru (pef_call [] (g_is_whole.cal hr) (paf_cons (pef_var (i := 0)) (paf_cons (pef_var (i := 1)) (paf_cons (pef_globE t.k_MOST_PEOPLE) paf_nil))) (hm := len_dd (len_cons (len_cons (len_cons len_nil))))))) (pssf_one psf_never) pssf_nil)
      (pssf_one (psf_ret (pef_var (i := 0)))))
theorem g_check_people_0_ (t : Txt K mg T) : Df P w K mg base T "check_people" 3 (spD T 2 F_check_people) [] := Df.mkDD (n := 2) (j := 1) t.d_check_people sc_check_people (p_check_people t (g_is_whole_ t)) (by simp) rfl rfl (fun _ _ _ _ _ _ _ us its hl h2 => match us, hl, its, h2 with | [_, _], _, [_], _ => ⟨_, rfl, rfl⟩)
theorem g_check_people_1_ (t : Txt K mg T) : Df P w K mg base T "check_people" 3 (spD T 2 F_check_people) [.int 1] := Df.mkDD (n := 1) (j := 0) t.d_check_people sc_check_people (p_check_people t (g_is_whole_ t)) (by simp) rfl rfl (fun _ _ _ _ _ _ _ us its hl h2 => match us, hl, its, h2 with | [_], _, [_], _ => ⟨_, rfl, rfl⟩)
theorem p_next_room (t : Txt K mg T)  : Body P w K mg base T "next_room" s_next_room ["total", "people"] 0 f_next_room := fun f cdv A outer s H E hr => by
  delta f_next_room
  exact (pssf_one (psf_ret (pef_add (pef_div (pef_var (i := 0)) (pef_sub (pef_var (i := 1)) pef_int)) pef_int)))
theorem g_next_room_ (t : Txt K mg T) : Df P w K mg base T "next_room" 1 (spD T 2 F_next_room) [] := Df.mkD t.d_next_room sc_next_room (p_next_room t ) (fun _ _ _ _ _ _ us hl => match us, hl with | [_, _], _ => rfl)
theorem p_fitting_range (t : Txt K mg T) (g_next_room : Df P w K mg base T "next_room" 1 (spD T 2 F_next_room) []) : Body P w K mg base T "fitting_range" s_fitting_range ["coins", "people", "reached", "low", "high", "coin"] 1 f_fitting_range := fun f cdv A outer s H E hr => by
  delta f_fitting_range
  exact (pssf_cons (psf_set (i := 2) sc_fitting_range.nd pef_int)
      (pssf_cons (psf_set (i := 3) sc_fitting_range.nd pef_int)
      (pssf_cons (psf_set (i := 4) sc_fitting_range.nd pef_non)
      (pssf_cons (psf_for PassesOwn.never rfl (pif_seq (pef_var (i := 0))) (pgf_name (i := 5) sc_fitting_range.nd) (pssf_cons (psf_if (ptf_cp c_gt (pef_var (i := 5)) (pef_call [] (g_next_room.cal hr) (paf_cons (pef_var (i := 2)) (paf_cons (pef_var (i := 1)) paf_nil)) (hm := len_dd (len_cons (len_cons len_nil))))) (pssf_cons (psf_if (ptf_cp c_is (pef_var (i := 4)) pef_non) (pssf_one (psf_set (i := 4) sc_fitting_range.nd (pef_call [] (g_next_room.cal hr) (paf_cons (pef_var (i := 2)) (paf_cons (pef_var (i := 1)) paf_nil)) (hm := len_dd (len_cons (len_cons len_nil)))))) pssf_nil)
      (pssf_one (psf_set (i := 3) sc_fitting_range.nd (pef_bf b_max2 (t.z_max) (paf_cons (pef_var (i := 3)) (paf_cons (pef_sub (pef_mul (pef_sub (pef_var (i := 1)) pef_int) (pef_sub (pef_var (i := 5)) pef_int)) (pef_var (i := 2))) paf_nil)))))) pssf_nil)
      (pssf_one (psf_set (i := 2) sc_fitting_range.nd (pef_add (pef_var (i := 2)) (pef_var (i := 5)))))))
      (pssf_cons (psf_if (ptf_cp c_is (pef_var (i := 4)) pef_non) (pssf_one (psf_set (i := 4) sc_fitting_range.nd (pef_call [] (g_next_room.cal hr) (paf_cons (pef_var (i := 2)) (paf_cons (pef_var (i := 1)) paf_nil)) (hm := len_dd (len_cons (len_cons len_nil)))))) pssf_nil)
      (pssf_cons (psf_if (ptf_cp c_gt (pef_var (i := 3)) (pef_var (i := 4))) (pssf_one (psf_ret pef_non)) pssf_nil)
      (pssf_one (psf_ret (pef_tup (paf_cons (pef_var (i := 3)) (paf_cons (pef_var (i := 4)) paf_nil)))))))))))
theorem g_fitting_range_ (t : Txt K mg T) : Df P w K mg base T "fitting_range" 2 (spD T 2 F_fitting_range) [] := Df.mkD t.d_fitting_range sc_fitting_range (p_fitting_range t (g_next_room_ t)) (fun _ _ _ _ _ _ us hl => match us, hl with | [_, _], _ => rfl)
theorem p_fitting_coins (t : Txt K mg T) (g_check_pool : Df P w K mg base T "check_pool" 3 (spD T 1 F_check_pool) []) (g_check_people_0 : Df P w K mg base T "check_people" 3 (spD T 2 F_check_people) []) (g_check_people_1 : Df P w K mg base T "check_people" 3 (spD T 2 F_check_people) [.int 1]) (g_fitting_range : Df P w K mg base T "fitting_range" 2 (spD T 2 F_fitting_range) []) : Body P w K mg base T "fitting_coins" s_fitting_coins ["pool", "people", "coins"] 3 f_fitting_coins := fun f cdv A outer s H E hr => by
  delta f_fitting_coins
  exact (pssf_cons (psf_set (i := 2) sc_fitting_coins.nd (pef_call [] (g_check_pool.cal hr) (paf_cons (pef_var (i := 0)) paf_nil) (hm := len_dd (len_cons len_nil))))
      (pssf_cons (psf_expr (pef_call [] (g_check_people_0.cal hr) (paf_cons (pef_var (i := 1)) (paf_cons pef_int paf_nil)) (hm := len_dd (len_cons (len_cons len_nil)))))
      (pssf_one (psf_ret (pef_call [] (g_fitting_range.cal hr) (paf_cons (pef_var (i := 2)) (paf_cons (pef_var (i := 1)) paf_nil)) (hm := len_dd (len_cons (len_cons len_nil))))))))
theorem g_fitting_coins_ (t : Txt K mg T) : Df P w K mg base T "fitting_coins" 4 (spD T 2 F_fitting_coins) [] := Df.mkD t.d_fitting_coins sc_fitting_coins (p_fitting_coins t (g_check_pool_ t) (g_check_people_0_ t) (g_check_people_1_ t) (g_fitting_range_ t)) (fun _ _ _ _ _ _ us hl => match us, hl with | [_, _], _ => rfl)
theorem p_next_coin (t : Txt K mg T) (g_fitting_coins : Df P w K mg base T "fitting_coins" 4 (spD T 2 F_fitting_coins) []) : Body P w K mg base T "next_coin" s_next_coin ["pool", "people", "stretch"] 4 f_next_coin := fun f cdv A outer s H E hr => by
  delta f_next_coin
  exact (pssf_cons (psf_set (i := 2) sc_next_coin.nd (pef_call [] (g_fitting_coins.cal hr) (paf_cons (pef_var (i := 0)) (paf_cons (pef_var (i := 1)) paf_nil)) (hm := len_dd (len_cons (len_cons len_nil)))))
      (pssf_cons (psf_if (ptf_cp c_is (pef_var (i := 2)) pef_non) (pssf_one (psf_ret pef_non)) pssf_nil)
      (pssf_one (psf_ret (pef_ix (pef_var (i := 2)) pef_int)))))
theorem g_next_coin_ (t : Txt K mg T) : Df P w K mg base T "next_coin" 5 (spD T 2 F_next_coin) [] := Df.mkD t.d_next_coin sc_next_coin (p_next_coin t (g_fitting_coins_ t)) (fun _ _ _ _ _ _ us hl => match us, hl with | [_, _], _ => rfl)
theorem p__law_mix (t : Txt K mg T)  : Body P w K mg base T "_law_mix" s__law_mix ["_law_number", "_law_turn", "_law_once", "_law_twice"] 0 f__law_mix := fun f cdv A outer s H E hr => by
  delta f__law_mix
  exact (pssf_cons (psf_set (i := 2) sc__law_mix.nd (pef_mod (pef_bt b_int (t.z_int) (paf_cons (pef_add (pef_add (pef_mul (pef_var (i := 0)) pef_int) (pef_mul (pef_var (i := 1)) pef_int)) pef_int) paf_nil)) pef_int))
      (pssf_cons (psf_set (i := 3) sc__law_mix.nd (pef_mod (pef_bt b_int (t.z_int) (paf_cons (pef_add (pef_add (pef_mul (pef_var (i := 2)) (pef_var (i := 2))) (pef_mul (pef_div (pef_var (i := 2)) pef_int) pef_int)) (pef_mul (pef_var (i := 1)) pef_int)) paf_nil)) pef_int))
      (pssf_one (psf_ret (pef_div (pef_mod (pef_bt b_int (t.z_int) (paf_cons (pef_add (pef_div (pef_mul (pef_var (i := 3)) (pef_var (i := 3))) pef_int) (pef_var (i := 2))) paf_nil)) pef_int) pef_int)))))
theorem g__law_mix_ (t : Txt K mg T) : Df P w K mg base T "_law_mix" 1 (spD T 2 F__law_mix) [] := Df.mkD t.d__law_mix sc__law_mix (p__law_mix t ) (fun _ _ _ _ _ _ us hl => match us, hl with | [_, _], _ => rfl)
theorem p__law_draw (t : Txt K mg T) (g__law_mix : Df P w K mg base T "_law_mix" 1 (spD T 2 F__law_mix) []) : Body P w K mg base T "_law_draw" s__law_draw ["_law_hand_here", "_law_many", "_law_cell", "_law_rest"] 1 f__law_draw := fun f cdv A outer s H E hr => by
  delta f__law_draw
  exact (pssf_cons (psf_if (PWf.pt (pwf_and (ptf_cp (c_eq hr) (pef_lend 0 (pef_ix (pef_var (i := 0)) pef_int)) pef_int) (pwf_and1 (ptf_cp c_lt (pef_lend 0 (pef_ix (pef_var (i := 0)) pef_int)) (pef_lend 0 (pef_bf b_len (t.z_len) (paf_cons (pef_ix (pef_var (i := 0)) pef_int) paf_nil))))))) (pssf_cons (psf_set (i := 2) sc__law_draw.nd (pef_lend 0 (pef_ix (pef_ix (pef_var (i := 0)) pef_int) (pef_ix (pef_var (i := 0)) pef_int))))
      (pssf_cons (psf_setI (i := 0) pef_int (pef_add (pef_lend 0 (pef_ix (pef_var (i := 0)) pef_int)) pef_int))
      (pssf_cons (psf_if (ptf_cp c_lt (pef_var (i := 2)) (pef_pow pef_int pef_int)) (pssf_one (psf_ret (pef_mod (pef_bt b_int (t.z_int) (paf_cons (pef_call [] (g__law_mix.cal hr) (paf_cons (pef_mod (pef_bt b_int (t.z_int) (paf_cons (pef_var (i := 2)) paf_nil)) pef_int) (paf_cons (pef_lend 0 (pef_ix (pef_var (i := 0)) pef_int)) paf_nil)) (hm := len_dd (len_cons (len_cons len_nil)))) paf_nil)) (pef_var (i := 1))))) pssf_nil)
      (pssf_one (psf_setI (i := 0) pef_int (pef_var (i := 2))))))) pssf_nil)
      (pssf_cons (psf_if (ptf_cp c_gt (pef_lend 0 (pef_ix (pef_var (i := 0)) pef_int)) pef_int) (pssf_cons (psf_set (i := 3) sc__law_draw.nd (pef_lend 0 (pef_ix (pef_var (i := 0)) pef_int)))
      (pssf_cons (psf_setI (i := 0) pef_int (pef_div (pef_var (i := 3)) (pef_var (i := 1))))
      (pssf_one (psf_ret (pef_mod (pef_bt b_int (t.z_int) (paf_cons (pef_var (i := 3)) paf_nil)) (pef_var (i := 1))))))) pssf_nil)
      (pssf_cons (psf_setI (i := 0) pef_int (pef_mod (pef_bt b_int (t.z_int) (paf_cons (pef_add (pef_lend 0 (pef_ix (pef_var (i := 0)) pef_int)) pef_int) paf_nil)) pef_int))
      (pssf_one (psf_ret (pef_mod (pef_bt b_int (t.z_int) (paf_cons (pef_call [] (g__law_mix.cal hr) (paf_cons (pef_lend 0 (pef_ix (pef_var (i := 0)) pef_int)) (paf_cons (pef_lend 0 (pef_ix (pef_var (i := 0)) pef_int)) paf_nil)) (hm := len_dd (len_cons (len_cons len_nil)))) paf_nil)) (pef_var (i := 1))))))))
theorem g__law_draw_ (t : Txt K mg T) : Df P w K mg base T "_law_draw" 2 (spI T 2 F__law_draw) [] := Df.mkI t.d__law_draw sc__law_draw (p__law_draw t (g__law_mix_ t)) (fun _ _ _ _ _ _ us hl => match us, hl with | [_, _], _ => rfl)
theorem p_running_sums (t : Txt K mg T)  : Body P w K mg base T "running_sums" s_running_sums ["coins", "sums", "total", "coin"] 0 f_running_sums := fun f cdv A outer s H E hr => by
  delta f_running_sums
  exact (pssf_cons (psf_setO (i := 1) sc_running_sums.nd (peo_lst paf_nil))
      (pssf_cons (psf_set (i := 2) sc_running_sums.nd pef_int)
      (pssf_cons (psf_for PassesOwn.never rfl (pif_seq (pef_var (i := 0))) (pgf_name (i := 3) sc_running_sums.nd) (pssf_cons (psf_aug (i := 2) sc_running_sums.nd ip_addI (pef_var (i := 3)))
      (pssf_one (psf_app (i := 1) (pef_var (i := 2))))))
      (pssf_one (psf_ret (pef_lend 1 (pef_bt b_tuple (t.z_tuple) (paf_cons (pef_var (i := 1)) paf_nil))))))))
theorem g_running_sums_ (t : Txt K mg T) : Df P w K mg base T "running_sums" 1 (spD T 1 F_running_sums) [] := Df.mkD t.d_running_sums sc_running_sums (p_running_sums t ) (fun _ _ _ _ _ _ us hl => match us, hl with | [_], _ => rfl)
theorem p_parted_up (t : Txt K mg T)  : Body P w K mg base T "parted_up" s_parted_up ["amount", "people"] 0 f_parted_up := fun f cdv A outer s H E hr => by
  delta f_parted_up
  exact (pssf_one (psf_ret (pef_neg (pef_div (pef_neg (pef_var (i := 0))) (pef_var (i := 1))))))
theorem g_parted_up_ (t : Txt K mg T) : Df P w K mg base T "parted_up" 1 (spD T 2 F_parted_up) [] := Df.mkD t.d_parted_up sc_parted_up (p_parted_up t ) (fun _ _ _ _ _ _ us hl => match us, hl with | [_, _], _ => rfl)
theorem p_failing_places (t : Txt K mg T) (g_check_pool : Df P w K mg base T "check_pool" 3 (spD T 1 F_check_pool) []) (g_check_people_0 : Df P w K mg base T "check_people" 3 (spD T 2 F_check_people) []) (g_check_people_1 : Df P w K mg base T "check_people" 3 (spD T 2 F_check_people) [.int 1]) (g_running_sums : Df P w K mg base T "running_sums" 1 (spD T 1 F_running_sums) []) (g_parted_up : Df P w K mg base T "parted_up" 1 (spD T 2 F_parted_up) []) : Body P w K mg base T "failing_places" s_failing_places ["pool", "people", "coins", "sums", "place", "coin"] 3 f_failing_places := fun f cdv A outer s H E hr => by
  delta f_failing_places
  exact (pssf_cons (psf_set (i := 2) sc_failing_places.nd (pef_call [] (g_check_pool.cal hr) (paf_cons (pef_var (i := 0)) paf_nil) (hm := len_dd (len_cons len_nil))))
      (pssf_cons (psf_expr (pef_call [.int 1] (g_check_people_1.cal hr) (paf_cons (pef_var (i := 1)) paf_nil) (hm := len_dd (len_cons len_nil)) (hdd := fun _ => .cons (.int _) (.nil))))
      (pssf_cons (psf_set (i := 3) sc_failing_places.nd (pef_call [] (g_running_sums.cal hr) (paf_cons (pef_var (i := 2)) paf_nil) (hm := len_dd (len_cons len_nil))))
      (pssf_one (psf_ret (pef_bt b_tuple (t.z_tuple) (paf_cons (pef_frz (peo_lc (own := [("place", 4), ("coin", 5)]) rfl sc_failing_places.nd (blkOk_by (own := [("place", 4), ("coin", 5)]) (N := ["pool", "people", "coins", "sums", "place", "coin"]) (sc := defScope s_failing_places) (by decide +kernel)) (pif_enum (t.z_enumerate) (paf_cons (pef_var (i := 2)) paf_nil)) (fun _ _ _ _ _ => (pgf_tup rfl (pgsf_cons (pgf_name (i := 4) sc_failing_places.nd) (pgsf_cons (pgf_name (i := 5) sc_failing_places.nd) pgsf_nil)))) (fun _ _ _ _ _ => (ptsf_one (ptf_cp c_gt (pef_var (i := 5)) (pef_call [] (g_parted_up.cal hr) (paf_cons (pef_ix (pef_var (i := 3)) (pef_var (i := 4))) (paf_cons (pef_var (i := 1)) paf_nil)) (hm := len_dd (len_cons (len_cons len_nil))))))) (fun _ _ _ _ _ => (pef_var (i := 4))))) paf_nil)))))))
theorem g_failing_places_ (t : Txt K mg T) : Df P w K mg base T "failing_places" 4 (spD T 2 F_failing_places) [] := Df.mkD t.d_failing_places sc_failing_places (p_failing_places t (g_check_pool_ t) (g_check_people_0_ t) (g_check_people_1_ t) (g_running_sums_ t) (g_parted_up_ t)) (fun _ _ _ _ _ _ us hl => match us, hl with | [_, _], _ => rfl)
theorem p_parted_evenly (t : Txt K mg T)  : Body P w K mg base T "parted_evenly" s_parted_evenly ["amount", "people", "each", "more", "person"] 0 f_parted_evenly := fun f cdv A outer s H E hr => by
  delta f_parted_evenly
  exact (pssf_cons (psf_tgt (pef_bf b_divmod (t.z_divmod) (paf_cons (pef_var (i := 0)) (paf_cons (pef_var (i := 1)) paf_nil))) (pgf_tup rfl (pgsf_cons (pgf_name (i := 2) sc_parted_evenly.nd) (pgsf_cons (pgf_name (i := 3) sc_parted_evenly.nd) pgsf_nil))))
      (pssf_one (psf_ret (pef_bt b_tuple (t.z_tuple) (paf_cons (pef_frz (peo_lc (own := [("person", 4)]) rfl sc_parted_evenly.nd (blkOk_by (own := [("person", 4)]) (N := ["amount", "people", "each", "more", "person"]) (sc := defScope s_parted_evenly) (by decide +kernel)) (pif_range1 (t.z_range) (paf_cons (pef_var (i := 1)) paf_nil)) (fun _ _ _ _ _ => (pgf_name (i := 4) sc_parted_evenly.nd)) (fun _ _ _ _ _ => ptsf_nil) (fun _ _ _ _ _ => (pef_if (ptf_cp c_lt (pef_var (i := 4)) (pef_var (i := 3))) (pef_add (pef_var (i := 2)) pef_int) (pef_var (i := 2)))))) paf_nil)))))
theorem g_parted_evenly_ (t : Txt K mg T) : Df P w K mg base T "parted_evenly" 1 (spD T 2 F_parted_evenly) [] := Df.mkD t.d_parted_evenly sc_parted_evenly (p_parted_evenly t ) (fun _ _ _ _ _ _ us hl => match us, hl with | [_, _], _ => rfl)
theorem p_serves (t : Txt K mg T) (g_check_pool : Df P w K mg base T "check_pool" 3 (spD T 1 F_check_pool) []) (g_failing_places : Df P w K mg base T "failing_places" 4 (spD T 2 F_failing_places) []) (g_parted_up : Df P w K mg base T "parted_up" 1 (spD T 2 F_parted_up) []) (g_parted_evenly : Df P w K mg base T "parted_evenly" 1 (spD T 2 F_parted_evenly) []) : Body P w K mg base T "serves" s_serves ["pool", "people", "coins", "failing", "place", "total", "first", "wish"] 4 f_serves := fun f cdv A outer s H E hr => by
  delta f_serves
  exact (pssf_cons (psf_set (i := 2) sc_serves.nd (pef_call [] (g_check_pool.cal hr) (paf_cons (pef_var (i := 0)) paf_nil) (hm := len_dd (len_cons len_nil))))
      (pssf_cons (psf_set (i := 3) sc_serves.nd (pef_call [] (g_failing_places.cal hr) (paf_cons (pef_var (i := 2)) (paf_cons (pef_var (i := 1)) paf_nil)) (hm := len_dd (len_cons (len_cons len_nil)))))
      (pssf_cons (psf_if (ptf_not (ptf_tru (pef_var (i := 3)))) (pssf_one (psf_ret pef_non)) pssf_nil)
      (pssf_cons (psf_set (i := 4) sc_serves.nd (pef_ix (pef_var (i := 3)) pef_int))
      (pssf_cons (psf_set (i := 5) sc_serves.nd (pef_bf b_sum (t.z_sum) (paf_cons (pef_cutT (pef_var (i := 2)) pof_none (pof_some (pef_add (pef_var (i := 4)) pef_int))) paf_nil)))
      (pssf_cons (psf_set (i := 6) sc_serves.nd (pef_call [] (g_parted_up.cal hr) (paf_cons (pef_var (i := 5)) (paf_cons (pef_var (i := 1)) paf_nil)) (hm := len_dd (len_cons (len_cons len_nil)))))
      (pssf_cons (psf_set (i := 7) sc_serves.nd (pef_add (pef_tup (paf_cons (pef_add (pef_var (i := 6)) (pef_bf b_sum (t.z_sum) (paf_cons (pef_cutT (pef_var (i := 2)) (pof_some (pef_add (pef_var (i := 4)) pef_int)) pof_none) paf_nil))) paf_nil)) (pef_call [] (g_parted_evenly.cal hr) (paf_cons (pef_sub (pef_var (i := 5)) (pef_var (i := 6))) (paf_cons (pef_sub (pef_var (i := 1)) pef_int) paf_nil)) (hm := len_dd (len_cons (len_cons len_nil))))))
      (pssf_one (psf_ret (pef_make (t.c_Unserved.mk i_Unserved hr) (paf_cons (pef_var (i := 4)) (paf_cons (pef_var (i := 7)) paf_nil))))))))))))
theorem g_serves_ (t : Txt K mg T) : Df P w K mg base T "serves" 5 (spD T 2 F_serves) [] := Df.mkD t.d_serves sc_serves (p_serves t (g_check_pool_ t) (g_failing_places_ t) (g_parted_up_ t) (g_parted_evenly_ t)) (fun _ _ _ _ _ _ us hl => match us, hl with | [_, _], _ => rfl)
theorem p__law_is_whole (t : Txt K mg T)  : Body P w K mg base T "_law_is_whole" s__law_is_whole ["_law_thing"] 0 f__law_is_whole := fun f cdv A outer s H E hr => by
  delta f__law_is_whole
  exact (pssf_one (psf_ret (pef_and (pef_isi (t.z_isinstance) (pef_var (i := 0)) (pe_tyN (t.z_int))) (pef_one (pef_notT (pef_isi (t.z_isinstance) (pef_var (i := 0)) (pe_tyN (t.z_bool))))))))
theorem g__law_is_whole_ (t : Txt K mg T) : Df P w K mg base T "_law_is_whole" 1 (spD T 1 F__law_is_whole) [] := Df.mkD t.d__law_is_whole sc__law_is_whole (p__law_is_whole t ) (fun _ _ _ _ _ _ us hl => match us, hl with | [_], _ => rfl)
theorem p__law_next (t : Txt K mg T)  : Body P w K mg base T "_law_next" s__law_next ["_law_total", "_law_people"] 0 f__law_next := fun f cdv A outer s H E hr => by
  delta f__law_next
  exact (pssf_one (psf_ret (pef_add (pef_div (pef_var (i := 0)) (pef_sub (pef_var (i := 1)) pef_int)) pef_int)))
theorem g__law_next_ (t : Txt K mg T) : Df P w K mg base T "_law_next" 1 (spD T 2 F__law_next) [] := Df.mkD t.d__law_next sc__law_next (p__law_next t ) (fun _ _ _ _ _ _ us hl => match us, hl with | [_, _], _ => rfl)
theorem p__law_put (t : Txt K mg T) (g_next_coin : Df P w K mg base T "next_coin" 5 (spD T 2 F_next_coin) []) (g__law_is_whole : Df P w K mg base T "_law_is_whole" 1 (spD T 1 F__law_is_whole) []) (g__law_next : Df P w K mg base T "_law_next" 1 (spD T 2 F__law_next) []) (g__law_draw : Df P w K mg base T "_law_draw" 2 (spI T 2 F__law_draw) []) (g_serves : Df P w K mg base T "serves" 5 (spD T 2 F_serves) []) : Body P w K mg base T "_law_put" s__law_put ["_law_hand_here", "_law_people", "_law_many", "_law_coins", "_law_k", "_law_top", "_law_coin"] 5 f__law_put := fun f cdv A outer s H E hr => by
  delta f__law_put
  exact (pssf_cons (psf_setO (i := 3) sc__law_put.nd (peo_lst paf_nil))
      (pssf_cons (psf_for PassesOwn.never rfl (pif_range1 (t.z_range) (paf_cons (pef_var (i := 2)) paf_nil)) (pgf_name (i := 4) sc__law_put.nd) (pssf_cons (psf_set (i := 5) sc__law_put.nd (pef_call [] (g_next_coin.cal hr) (paf_cons (pef_frz (peo_lend 3 (peo_bt b_list (t.z_list) (paf_cons (pef_var (i := 3)) paf_nil)))) (paf_cons (pef_var (i := 1)) paf_nil)) (hm := len_dd (len_cons (len_cons len_nil)))))
      (pssf_cons (psf_if (PWf.pt (pwf_or (ptf_not (ptf_tru (pef_call [] (g__law_is_whole.cal hr) (paf_cons (pef_var (i := 5)) paf_nil) (hm := len_dd (len_cons len_nil))))) (pwf_or1 (ptf_cp (c_ne hr) (pef_var (i := 5)) (pef_call [] (g__law_next.cal hr) (paf_cons (pef_lend 3 (pef_bf b_sum (t.z_sum) (paf_cons (pef_var (i := 3)) paf_nil))) (paf_cons (pef_var (i := 1)) paf_nil)) (hm := len_dd (len_cons (len_cons len_nil)))))))) (pssf_one (psf_ret pef_non)) pssf_nil)
      (pssf_cons (psf_set (i := 6) sc__law_put.nd (pef_if (ptf_cp (c_eq hr) (pef_callI (g__law_draw.cal hr) (pai_here (i := 0) (paf_cons pef_int paf_nil)) (len_here (len_cons len_nil))) pef_int) (pef_var (i := 5)) (pef_add pef_int (pef_callI (g__law_draw.cal hr) (pai_here (i := 0) (paf_cons (pef_var (i := 5)) paf_nil)) (len_here (len_cons len_nil))))))
      (pssf_cons (psf_ins (i := 3) (pef_callI (g__law_draw.cal hr) (pai_here (i := 0) (paf_cons (pef_add (pef_var (i := 4)) pef_int) paf_nil)) (len_here (len_cons len_nil))) (pef_var (i := 6)))
      (pssf_one (psf_if (ptf_cp c_isnot (pef_call [] (g_serves.cal hr) (paf_cons (pef_frz (peo_lend 3 (peo_bt b_list (t.z_list) (paf_cons (pef_var (i := 3)) paf_nil)))) (paf_cons (pef_var (i := 1)) paf_nil)) (hm := len_dd (len_cons (len_cons len_nil)))) pef_non) (pssf_one (psf_ret pef_non)) pssf_nil)))))))
      (pssf_freeze 3 (pssf_one (psf_ret (pef_var (i := 3)))))))
theorem g__law_put_ (t : Txt K mg T) : Df P w K mg base T "_law_put" 6 (spI T 3 F__law_put) [] := Df.mkI t.d__law_put sc__law_put (p__law_put t (g_next_coin_ t) (g__law_is_whole_ t) (g__law_next_ t) (g__law_draw_ t) (g_serves_ t)) (fun _ _ _ _ _ _ us hl => match us, hl with | [_, _, _], _ => rfl)
theorem p__law_robbed (t : Txt K mg T) (g__law_draw : Df P w K mg base T "_law_draw" 2 (spI T 2 F__law_draw) []) : Body P w K mg base T "_law_robbed" s__law_robbed ["_law_hand_here", "_law_pool_here", "_law_place"] 2 f__law_robbed := fun f cdv A outer s H E hr => by
  delta f__law_robbed
  exact (pssf_cons (psf_if (ptf_cp (c_eq hr) (pef_var (i := 1)) (pef_frz (peo_lst paf_nil))) (pssf_one (psf_ret (pef_var (i := 1)))) pssf_nil)
      (pssf_cons (psf_set (i := 2) sc__law_robbed.nd (pef_callI (g__law_draw.cal hr) (pai_here (i := 0) (paf_cons (pef_bf b_len (t.z_len) (paf_cons (pef_var (i := 1)) paf_nil)) paf_nil)) (len_here (len_cons len_nil))))
      (pssf_one (psf_ret (pef_frz (peo_addL (pef_frz (peo_cutL (pef_var (i := 1)) pof_none (pof_some (pef_var (i := 2))))) (pef_frz (peo_cutL (pef_var (i := 1)) (pof_some (pef_add (pef_var (i := 2)) pef_int)) pof_none))))))))
theorem g__law_robbed_ (t : Txt K mg T) : Df P w K mg base T "_law_robbed" 3 (spI T 2 F__law_robbed) [] := Df.mkI t.d__law_robbed sc__law_robbed (p__law_robbed t (g__law_draw_ t)) (fun _ _ _ _ _ _ us hl => match us, hl with | [_, _], _ => rfl)
theorem p__law_pool (t : Txt K mg T) (g__law_draw : Df P w K mg base T "_law_draw" 2 (spI T 2 F__law_draw) []) (g__law_next : Df P w K mg base T "_law_next" 1 (spD T 2 F__law_next) []) : Body P w K mg base T "_law_pool" s__law_pool ["_law_hand_here", "_law_people", "_law_most", "_law_many", "_law_turn", "_law_coins", "_law_k", "_law_coin", "_law_place", "_law_times"] 2 f__law_pool := fun f cdv A outer s H E hr => by
  delta f__law_pool
  exact (pssf_cons (psf_set (i := 3) sc__law_pool.nd (pef_callI (g__law_draw.cal hr) (pai_here (i := 0) (paf_cons (pef_add (pef_var (i := 2)) pef_int) paf_nil)) (len_here (len_cons len_nil))))
      (pssf_cons (psf_set (i := 4) sc__law_pool.nd (pef_callI (g__law_draw.cal hr) (pai_here (i := 0) (paf_cons pef_int paf_nil)) (len_here (len_cons len_nil))))
      (pssf_cons (psf_setO (i := 5) sc__law_pool.nd (peo_lst paf_nil))
      (pssf_cons (psf_for PassesOwn.never rfl (pif_range1 (t.z_range) (paf_cons (pef_var (i := 3)) paf_nil)) (pgf_name (i := 6) sc__law_pool.nd) (pssf_cons (psf_set (i := 7) sc__law_pool.nd (pef_call [] (g__law_next.cal hr) (paf_cons (pef_lend 5 (pef_bf b_sum (t.z_sum) (paf_cons (pef_var (i := 5)) paf_nil))) (paf_cons (pef_var (i := 1)) paf_nil)) (hm := len_dd (len_cons (len_cons len_nil)))))
      (pssf_cons (psf_if (PWf.pt (pwf_and (ptf_cp (c_ne hr) (pef_var (i := 4)) pef_int) (pwf_and1 (ptf_cp c_gt (pef_callI (g__law_draw.cal hr) (pai_here (i := 0) (paf_cons pef_int paf_nil)) (len_here (len_cons len_nil))) pef_int)))) (pssf_one (psf_set (i := 7) sc__law_pool.nd (pef_add pef_int (pef_callI (g__law_draw.cal hr) (pai_here (i := 0) (paf_cons (pef_var (i := 7)) paf_nil)) (len_here (len_cons len_nil)))))) pssf_nil)
      (pssf_one (psf_ins (i := 5) (pef_callI (g__law_draw.cal hr) (pai_here (i := 0) (paf_cons (pef_add (pef_lend 5 (pef_bf b_len (t.z_len) (paf_cons (pef_var (i := 5)) paf_nil))) pef_int) paf_nil)) (len_here (len_cons len_nil))) (pef_var (i := 7)))))))
      (pssf_cons (psf_if (ptf_lend 5 (ptf_cp (c_ne hr) (pef_var (i := 5)) (pef_frz (peo_lst paf_nil)))) (pssf_cons (psf_set (i := 8) sc__law_pool.nd (pef_callI (g__law_draw.cal hr) (pai_here (i := 0) (paf_cons (pef_lend 5 (pef_bf b_len (t.z_len) (paf_cons (pef_var (i := 5)) paf_nil))) paf_nil)) (len_here (len_cons len_nil))))
      (pssf_cons (psf_if (ptf_cp (c_eq hr) (pef_var (i := 4)) pef_int) (pssf_one (psf_setO (i := 5) sc__law_pool.nd (peo_addL (pef_frz (peo_lend 5 (peo_cutL (pef_var (i := 5)) pof_none (pof_some (pef_var (i := 8)))))) (pef_frz (peo_lend 5 (peo_cutL (pef_var (i := 5)) (pof_some (pef_add (pef_var (i := 8)) pef_int)) pof_none)))))) pssf_nil)
      (pssf_one (psf_if (ptf_cp c_ge (pef_var (i := 4)) pef_int) (pssf_one (psf_setI (i := 5) (pef_var (i := 8)) (pef_add (pef_add (pef_call [] (g__law_next.cal hr) (paf_cons (pef_lend 5 (pef_bf b_sum (t.z_sum) (paf_cons (pef_var (i := 5)) paf_nil))) (paf_cons (pef_var (i := 1)) paf_nil)) (hm := len_dd (len_cons (len_cons len_nil)))) pef_int) (pef_callI (g__law_draw.cal hr) (pai_here (i := 0) (paf_cons pef_int paf_nil)) (len_here (len_cons len_nil)))))) pssf_nil)))) pssf_nil)
      (pssf_cons (psf_if (ptf_cp (c_eq hr) (pef_var (i := 4)) pef_int) (pssf_cons (psf_set (i := 9) sc__law_pool.nd (pef_add pef_int (pef_callI (g__law_draw.cal hr) (pai_here (i := 0) (paf_cons (pef_pow pef_int pef_int) paf_nil)) (len_here (len_cons len_nil)))))
      (pssf_freeze 5 (pssf_one (psf_setLc (i := 5) (own := [("_law_coin", 7)]) rfl sc__law_pool.nd (blkOk_by (own := [("_law_coin", 7)]) (N := ["_law_hand_here", "_law_people", "_law_most", "_law_many", "_law_turn", "_law_coins", "_law_k", "_law_coin", "_law_place", "_law_times"]) (sc := defScope s__law_pool) (by decide +kernel)) (pif_seq (pef_var (i := 5))) (fun _ _ _ _ _ => (pgf_name (i := 7) sc__law_pool.nd)) (fun _ _ _ _ _ => ptsf_nil) (fun _ _ _ _ _ => (pef_mul (pef_var (i := 7)) (pef_var (i := 9)))) (hsw := sw_true rfl rfl rfl (by decide +kernel)))))) pssf_nil)
      (pssf_freeze 5 (pssf_one (psf_ret (pef_var (i := 5)))))))))))
theorem g__law_pool_ (t : Txt K mg T) : Df P w K mg base T "_law_pool" 3 (spI T 3 F__law_pool) [] := Df.mkI t.d__law_pool sc__law_pool (p__law_pool t (g__law_draw_ t) (g__law_next_ t)) (fun _ _ _ _ _ _ us hl => match us, hl with | [_, _, _], _ => rfl)
theorem p_whole_within (t : Txt K mg T)  : Body P w K mg base T "whole_within" s_whole_within ["thing", "low", "high"] 0 f_whole_within := fun f cdv A outer s H E hr => by
  delta f_whole_within
  exact (pssf_one (psf_ret (pef_and (pef_isi (t.z_isinstance) (pef_var (i := 0)) (pe_tyN (t.z_int))) (pef_and (pef_notT (pef_isi (t.z_isinstance) (pef_var (i := 0)) (pe_tyN (t.z_bool)))) (pef_one (pef_ch c_le c_le (pef_var (i := 1)) (pef_var (i := 0)) (pef_var (i := 2))))))))
theorem g_whole_within_ (t : Txt K mg T) : Df P w K mg base T "whole_within" 1 (spD T 3 F_whole_within) [] := Df.mkD t.d_whole_within sc_whole_within (p_whole_within t ) (fun _ _ _ _ _ _ us hl => match us, hl with | [_, _, _], _ => rfl)
theorem p_may_put (t : Txt K mg T) (g_check_pool : Df P w K mg base T "check_pool" 3 (spD T 1 F_check_pool) []) (g_whole_within : Df P w K mg base T "whole_within" 1 (spD T 3 F_whole_within) []) (g_check_people_0 : Df P w K mg base T "check_people" 3 (spD T 2 F_check_people) []) (g_check_people_1 : Df P w K mg base T "check_people" 3 (spD T 2 F_check_people) [.int 1]) (g_fitting_range : Df P w K mg base T "fitting_range" 2 (spD T 2 F_fitting_range) []) : Body P w K mg base T "may_put" s_may_put ["pool", "coin", "people", "coins", "stretch"] 3 f_may_put := fun f cdv A outer s H E hr => by
  delta f_may_put
  exact (pssf_cons (psf_set (i := 3) sc_may_put.nd (pef_call [] (g_check_pool.cal hr) (paf_cons (pef_var (i := 0)) paf_nil) (hm := len_dd (len_cons len_nil))))
      (pssf_cons (psf_if (ptf_not (ptf_tru (pef_call [] (g_whole_within.cal hr) (paf_cons (pef_var (i := 1)) (paf_cons pef_int (paf_cons (pef_pow pef_int pef_int) paf_nil))) (hm := len_dd (len_cons (len_cons (len_cons len_nil))))))) (pssf_one psf_never) pssf_nil)
      (pssf_cons (psf_expr (pef_call [] (g_check_people_0.cal hr) (paf_cons (pef_var (i := 2)) (paf_cons pef_int paf_nil)) (hm := len_dd (len_cons (len_cons len_nil)))))
      (pssf_cons (psf_set (i := 4) sc_may_put.nd (pef_call [] (g_fitting_range.cal hr) (paf_cons (pef_var (i := 3)) (paf_cons (pef_var (i := 2)) paf_nil)) (hm := len_dd (len_cons (len_cons len_nil)))))
      (pssf_one (psf_ret (pef_and (pef_cp c_isnot (pef_var (i := 4)) pef_non) (pef_one (pef_ch c_le c_le (pef_ix (pef_var (i := 4)) pef_int) (pef_var (i := 1)) (pef_ix (pef_var (i := 4)) pef_int))))))))))
theorem g_may_put_ (t : Txt K mg T) : Df P w K mg base T "may_put" 4 (spD T 3 F_may_put) [] := Df.mkD t.d_may_put sc_may_put (p_may_put t (g_check_pool_ t) (g_whole_within_ t) (g_check_people_0_ t) (g_check_people_1_ t) (g_fitting_range_ t)) (fun _ _ _ _ _ _ us hl => match us, hl with | [_, _, _], _ => rfl)
theorem p__law_any_right (t : Txt K mg T) (g__law_robbed : Df P w K mg base T "_law_robbed" 3 (spI T 2 F__law_robbed) []) (g__law_pool : Df P w K mg base T "_law_pool" 3 (spI T 3 F__law_pool) []) (g_fitting_coins : Df P w K mg base T "fitting_coins" 4 (spD T 2 F_fitting_coins) []) (g__law_next : Df P w K mg base T "_law_next" 1 (spD T 2 F__law_next) []) (g__law_draw : Df P w K mg base T "_law_draw" 2 (spI T 2 F__law_draw) []) (g_serves : Df P w K mg base T "serves" 5 (spD T 2 F_serves) []) (g_may_put : Df P w K mg base T "may_put" 4 (spD T 3 F_may_put) []) : Body P w K mg base T "_law_any_right" s__law_any_right ["_law_hand_here", "_law_people", "_law_pool_here", "_law_told", "_law_tried", "_law_coin", "_law_due"] 5 f__law_any_right := fun f cdv A outer s H E hr => by
  delta f__law_any_right
  exact (pssf_cons (psf_set (i := 2) sc__law_any_right.nd (pef_callI (g__law_robbed.cal hr) (pai_here (i := 0) (paf_cons (pef_callI (g__law_pool.cal hr) (pai_here (i := 0) (paf_cons (pef_var (i := 1)) (paf_cons pef_int paf_nil))) (len_here (len_cons (len_cons len_nil)))) paf_nil)) (len_here (len_cons len_nil))))
      (pssf_cons (psf_set (i := 3) sc__law_any_right.nd (pef_call [] (g_fitting_coins.cal hr) (paf_cons (pef_var (i := 2)) (paf_cons (pef_var (i := 1)) paf_nil)) (hm := len_dd (len_cons (len_cons len_nil)))))
      (pssf_cons (psf_set (i := 4) sc__law_any_right.nd (pef_frz (peo_lst (paf_cons pef_int (paf_cons (pef_add pef_int (pef_callI (g__law_draw.cal hr) (pai_here (i := 0) (paf_cons pef_int paf_nil)) (len_here (len_cons len_nil)))) (paf_cons (pef_add pef_int (pef_callI (g__law_draw.cal hr) (pai_here (i := 0) (paf_cons (pef_pow pef_int pef_int) paf_nil)) (len_here (len_cons len_nil)))) (paf_cons (pef_call [] (g__law_next.cal hr) (paf_cons (pef_bf b_sum (t.z_sum) (paf_cons (pef_var (i := 2)) paf_nil)) (paf_cons (pef_var (i := 1)) paf_nil)) (hm := len_dd (len_cons (len_cons len_nil)))) paf_nil)))))))
      (pssf_cons (psf_if (ptf_cp c_isnot (pef_var (i := 3)) pef_non) (pssf_one (psf_set (i := 4) sc__law_any_right.nd (pef_frz (peo_addL (pef_var (i := 4)) (pef_frz (peo_lst (paf_cons (pef_ix (pef_var (i := 3)) pef_int) (paf_cons (pef_ix (pef_var (i := 3)) pef_int) (paf_cons (pef_bf b_max2 (t.z_max) (paf_cons pef_int (paf_cons (pef_sub (pef_ix (pef_var (i := 3)) pef_int) pef_int) paf_nil))) (paf_cons (pef_add (pef_ix (pef_var (i := 3)) pef_int) pef_int) paf_nil)))))))))) pssf_nil)
      (pssf_cons (psf_for PassesOwn.never rfl (pif_seq (pef_var (i := 4))) (pgf_name (i := 5) sc__law_any_right.nd) (pssf_one (psf_if (ptf_cp c_le (pef_var (i := 5)) (pef_pow pef_int pef_int)) (pssf_cons (psf_set (i := 6) sc__law_any_right.nd (pef_cp c_is (pef_call [] (g_serves.cal hr) (paf_cons (pef_frz (peo_addL (pef_var (i := 2)) (pef_frz (peo_lst (paf_cons (pef_var (i := 5)) paf_nil))))) (paf_cons (pef_var (i := 1)) paf_nil)) (hm := len_dd (len_cons (len_cons len_nil)))) pef_non))
      (pssf_one (psf_if (PWf.pt (pwf_or (ptf_cp (c_ne hr) (pef_var (i := 6)) (pef_and (pef_cp c_isnot (pef_var (i := 3)) pef_non) (pef_one (pef_ch c_le c_le (pef_ix (pef_var (i := 3)) pef_int) (pef_var (i := 5)) (pef_ix (pef_var (i := 3)) pef_int))))) (pwf_or1 (ptf_cp (c_ne hr) (pef_call [] (g_may_put.cal hr) (paf_cons (pef_var (i := 2)) (paf_cons (pef_var (i := 5)) (paf_cons (pef_var (i := 1)) paf_nil))) (hm := len_dd (len_cons (len_cons (len_cons len_nil))))) (pef_var (i := 6)))))) (pssf_one (psf_ret pef_bl)) pssf_nil))) pssf_nil)))
      (pssf_one (psf_ret pef_bl)))))))
theorem g__law_any_right_ (t : Txt K mg T) : Df P w K mg base T "_law_any_right" 6 (spI T 2 F__law_any_right) [] := Df.mkI t.d__law_any_right sc__law_any_right (p__law_any_right t (g__law_robbed_ t) (g__law_pool_ t) (g_fitting_coins_ t) (g__law_next_ t) (g__law_draw_ t) (g_serves_ t) (g_may_put_ t)) (fun _ _ _ _ _ _ us hl => match us, hl with | [_, _], _ => rfl)
theorem p__law_wish (t : Txt K mg T) (g__law_draw : Df P w K mg base T "_law_draw" 2 (spI T 2 F__law_draw) []) : Body P w K mg base T "_law_wish" s__law_wish ["_law_hand_here", "_law_total", "_law_people", "_law_wish_here", "_law_k"] 2 f__law_wish := fun f cdv A outer s H E hr => by
  delta f__law_wish
  exact (pssf_cons (psf_setO (i := 3) sc__law_wish.nd (peo_lst paf_nil))
      (pssf_cons (psf_for PassesOwn.never rfl (pif_range1 (t.z_range) (paf_cons (pef_sub (pef_var (i := 2)) pef_int) paf_nil)) (pgf_name (i := 4) sc__law_wish.nd) (pssf_one (psf_app (i := 3) (pef_callI (g__law_draw.cal hr) (pai_here (i := 0) (paf_cons (pef_add (pef_sub (pef_var (i := 1)) (pef_lend 3 (pef_bf b_sum (t.z_sum) (paf_cons (pef_var (i := 3)) paf_nil)))) pef_int) paf_nil)) (len_here (len_cons len_nil))))))
      (pssf_cons (psf_ins (i := 3) (pef_callI (g__law_draw.cal hr) (pai_here (i := 0) (paf_cons (pef_var (i := 2)) paf_nil)) (len_here (len_cons len_nil))) (pef_sub (pef_var (i := 1)) (pef_lend 3 (pef_bf b_sum (t.z_sum) (paf_cons (pef_var (i := 3)) paf_nil)))))
      (pssf_freeze 3 (pssf_one (psf_ret (pef_var (i := 3))))))))
theorem g__law_wish_ (t : Txt K mg T) : Df P w K mg base T "_law_wish" 3 (spI T 3 F__law_wish) [] := Df.mkI t.d__law_wish sc__law_wish (p__law_wish t (g__law_draw_ t)) (fun _ _ _ _ _ _ us hl => match us, hl with | [_, _, _], _ => rfl)
theorem p_checked_amounts (t : Txt K mg T) (g_is_sequence : Df P w K mg base T "is_sequence" 1 (spD T 3 F_is_sequence) []) (g_is_whole : Df P w K mg base T "is_whole" 1 (spD T 3 F_is_whole) []) : Body P w K mg base T "checked_amounts" s_checked_amounts ["wish", "place", "amount"] 2 f_checked_amounts := fun f cdv A outer s H E hr => by
  delta f_checked_amounts
  exact (pssf_cons (psf_if (ptf_not (ptf_tru (pef_call [] (g_is_sequence.cal hr) (paf_cons (pef_var (i := 0)) (paf_cons pef_int (paf_cons (pef_globE t.k_MOST_PEOPLE) paf_nil))) (hm := len_dd (len_cons (len_cons (len_cons len_nil))))))) (pssf_one psf_never) pssf_nil)
      (pssf_cons (psf_for PassesOwn.never rfl (pif_enum (t.z_enumerate) (paf_cons (pef_var (i := 0)) paf_nil)) (pgf_tup rfl (pgsf_cons (pgf_name (i := 1) sc_checked_amounts.nd) (pgsf_cons (pgf_name (i := 2) sc_checked_amounts.nd) pgsf_nil))) (pssf_one (psf_if (ptf_not (ptf_tru (pef_call [] (g_is_whole.cal hr) (paf_cons (pef_var (i := 2)) (paf_cons pef_int (paf_cons (pef_globE t.k_MOST_AMOUNT) paf_nil))) (hm := len_dd (len_cons (len_cons (len_cons len_nil))))))) (pssf_one psf_never) pssf_nil)))
      (pssf_one (psf_ret (pef_bt b_tuple (t.z_tuple) (paf_cons (pef_var (i := 0)) paf_nil))))))
theorem g_checked_amounts_ (t : Txt K mg T) : Df P w K mg base T "checked_amounts" 3 (spD T 1 F_checked_amounts) [] := Df.mkD t.d_checked_amounts sc_checked_amounts (p_checked_amounts t (g_is_sequence_ t) (g_is_whole_ t)) (fun _ _ _ _ _ _ us hl => match us, hl with | [_], _ => rfl)
theorem p_check_wish (t : Txt K mg T) (g_checked_amounts : Df P w K mg base T "checked_amounts" 3 (spD T 1 F_checked_amounts) []) : Body P w K mg base T "check_wish" s_check_wish ["wish", "total", "amounts"] 3 f_check_wish := fun f cdv A outer s H E hr => by
  delta f_check_wish
  exact (pssf_cons (psf_set (i := 2) sc_check_wish.nd (pef_call [] (g_checked_amounts.cal hr) (paf_cons (pef_var (i := 0)) paf_nil) (hm := len_dd (len_cons len_nil))))
      (pssf_cons (psf_if (ptf_cp (c_ne hr) (pef_bf b_sum (t.z_sum) (paf_cons (pef_var (i := 2)) paf_nil)) (pef_var (i := 1))) (pssf_one psf_never) pssf_nil)
      (pssf_one (psf_ret (pef_var (i := 2))))))
theorem g_check_wish_ (t : Txt K mg T) : Df P w K mg base T "check_wish" 4 (spD T 2 F_check_wish) [] := Df.mkD t.d_check_wish sc_check_wish (p_check_wish t (g_checked_amounts_ t)) (fun _ _ _ _ _ _ us hl => match us, hl with | [_, _], _ => rfl)
theorem p_checked_couple (t : Txt K mg T) (g_check_pool : Df P w K mg base T "check_pool" 3 (spD T 1 F_check_pool) []) (g_check_wish : Df P w K mg base T "check_wish" 4 (spD T 2 F_check_wish) []) : Body P w K mg base T "checked_couple" s_checked_couple ["pool", "wish", "coins"] 4 f_checked_couple := fun f cdv A outer s H E hr => by
  delta f_checked_couple
  exact (pssf_cons (psf_set (i := 2) sc_checked_couple.nd (pef_call [] (g_check_pool.cal hr) (paf_cons (pef_var (i := 0)) paf_nil) (hm := len_dd (len_cons len_nil))))
      (pssf_one (psf_ret (pef_tup (paf_cons (pef_var (i := 2)) (paf_cons (pef_call [] (g_check_wish.cal hr) (paf_cons (pef_var (i := 1)) (paf_cons (pef_bf b_sum (t.z_sum) (paf_cons (pef_var (i := 2)) paf_nil)) paf_nil)) (hm := len_dd (len_cons (len_cons len_nil)))) paf_nil))))))
theorem g_checked_couple_ (t : Txt K mg T) : Df P w K mg base T "checked_couple" 5 (spD T 2 F_checked_couple) [] := Df.mkD t.d_checked_couple sc_checked_couple (p_checked_couple t (g_check_pool_ t) (g_check_wish_ t)) (fun _ _ _ _ _ _ us hl => match us, hl with | [_, _], _ => rfl)
theorem p_put_sorted (t : Txt K mg T)  : Body P w K mg base T "put_sorted" s_put_sorted ["entry", "place", "worth"] 0 f_put_sorted := fun f cdv A outer s H E hr => by
  delta f_put_sorted
  exact (pssf_one (psf_ret (pef_bt b_tuple (t.z_tuple) (paf_cons (pef_frz (peo_bf (b_sorted hr) (t.z_sorted) (paf_cons (pef_add (pef_add (pef_cutT (pef_var (i := 0)) pof_none (pof_some (pef_var (i := 1)))) (pef_tup (paf_cons (pef_var (i := 2)) paf_nil))) (pef_cutT (pef_var (i := 0)) (pof_some (pef_add (pef_var (i := 1)) pef_int)) pof_none)) paf_nil))) paf_nil))))
theorem g_put_sorted_ (t : Txt K mg T) : Df P w K mg base T "put_sorted" 1 (spD T 3 F_put_sorted) [] := Df.mkD t.d_put_sorted sc_put_sorted (p_put_sorted t ) (fun _ _ _ _ _ _ us hl => match us, hl with | [_, _, _], _ => rfl)
theorem p_next_entries (t : Txt K mg T) (g_put_sorted : Df P w K mg base T "put_sorted" 1 (spD T 3 F_put_sorted) []) : Body P w K mg base T "next_entries" s_next_entries ["layer", "coin", "found", "entry", "place", "lack"] 1 f_next_entries := fun f cdv A outer s H E hr => by
  delta f_next_entries
  exact (pssf_cons (psf_setO (i := 2) sc_next_entries.nd peo_dictT)
      (pssf_cons (psf_for PassesOwn.never rfl (pif_seq (pef_var (i := 0))) (pgf_name (i := 3) sc_next_entries.nd) (pssf_one (psf_for PassesOwn.never rfl (pif_enum (t.z_enumerate) (paf_cons (pef_var (i := 3)) paf_nil)) (pgf_tup rfl (pgsf_cons (pgf_name (i := 4) sc_next_entries.nd) (pgsf_cons (pgf_name (i := 5) sc_next_entries.nd) pgsf_nil))) (pssf_one (psf_if (ptf_cp c_ge (pef_var (i := 5)) (pef_var (i := 1))) (pssf_one (psf_putT (i := 2) (hu_of hr) (pef_call [] (g_put_sorted.cal hr) (paf_cons (pef_var (i := 3)) (paf_cons (pef_var (i := 4)) (paf_cons (pef_sub (pef_var (i := 5)) (pef_var (i := 1))) paf_nil))) (hm := len_dd (len_cons (len_cons (len_cons len_nil))))) pef_bl)) pssf_nil)))))
      (pssf_one (psf_ret (pef_bt b_tuple (t.z_tuple) (paf_cons (pef_frz (peo_bf (b_sorted hr) (t.z_sorted) (paf_cons (pef_frz (peo_keysT (i := 2) rfl rfl (t.z_list))) paf_nil))) paf_nil))))))
theorem g_next_entries_ (t : Txt K mg T) : Df P w K mg base T "next_entries" 2 (spD T 2 F_next_entries) [] := Df.mkD t.d_next_entries sc_next_entries (p_next_entries t (g_put_sorted_ t)) (fun _ _ _ _ _ _ us hl => match us, hl with | [_, _], _ => rfl)
theorem p_layers_of (t : Txt K mg T) (g_checked_couple : Df P w K mg base T "checked_couple" 5 (spD T 2 F_checked_couple) []) (g_next_entries : Df P w K mg base T "next_entries" 2 (spD T 2 F_next_entries) []) : Body P w K mg base T "layers_of" s_layers_of ["pool", "wish", "coins", "amounts", "layers", "coin", "layer"] 5 f_layers_of := fun f cdv A outer s H E hr => by
  delta f_layers_of
  exact (pssf_cons (psf_tgt (pef_call [] (g_checked_couple.cal hr) (paf_cons (pef_var (i := 0)) (paf_cons (pef_var (i := 1)) paf_nil)) (hm := len_dd (len_cons (len_cons len_nil)))) (pgf_tup rfl (pgsf_cons (pgf_name (i := 2) sc_layers_of.nd) (pgsf_cons (pgf_name (i := 3) sc_layers_of.nd) pgsf_nil))))
      (pssf_cons (psf_setO (i := 4) sc_layers_of.nd (peo_lst (paf_cons (pef_tup (paf_cons (pef_bt b_tuple (t.z_tuple) (paf_cons (pef_frz (peo_bf (b_sorted hr) (t.z_sorted) (paf_cons (pef_var (i := 3)) paf_nil))) paf_nil)) paf_nil)) paf_nil)))
      (pssf_cons (psf_for PassesOwn.never rfl (pif_seq (pef_revT (pef_var (i := 2)))) (pgf_name (i := 5) sc_layers_of.nd) (pssf_cons (psf_set (i := 6) sc_layers_of.nd (pef_call [] (g_next_entries.cal hr) (paf_cons (pef_lend 4 (pef_ix (pef_var (i := 4)) (pef_neg pef_int))) (paf_cons (pef_var (i := 5)) paf_nil)) (hm := len_dd (len_cons (len_cons len_nil)))))
      (pssf_cons (psf_if (ptf_cp c_gt (pef_bf b_len (t.z_len) (paf_cons (pef_var (i := 6)) paf_nil)) (pef_globE t.k_MOST_ENTRIES)) (pssf_one psf_never) pssf_nil)
      (pssf_cons (psf_app (i := 4) (pef_var (i := 6)))
      (pssf_one (psf_if (ptf_not (ptf_tru (pef_var (i := 6)))) (pssf_one (psf_ret (pef_lend 4 (pef_bt b_tuple (t.z_tuple) (paf_cons (pef_var (i := 4)) paf_nil))))) pssf_nil))))))
      (pssf_one (psf_ret (pef_lend 4 (pef_bt b_tuple (t.z_tuple) (paf_cons (pef_var (i := 4)) paf_nil))))))))
theorem g_layers_of_ (t : Txt K mg T) : Df P w K mg base T "layers_of" 6 (spD T 2 F_layers_of) [] := Df.mkD t.d_layers_of sc_layers_of (p_layers_of t (g_checked_couple_ t) (g_next_entries_ t)) (fun _ _ _ _ _ _ us hl => match us, hl with | [_, _], _ => rfl)
theorem p_earlier_entry (t : Txt K mg T) (g_put_sorted : Df P w K mg base T "put_sorted" 1 (spD T 3 F_put_sorted) []) : Body P w K mg base T "earlier_entry" s_earlier_entry ["layer", "entry", "coin", "found", "place", "lack", "earlier"] 1 f_earlier_entry := fun f cdv A outer s H E hr => by
  delta f_earlier_entry
  exact (pssf_cons (psf_setLcF (i := 3) (own := [("place", 4), ("lack", 5)]) rfl sc_earlier_entry.nd (blkOk_by (own := [("place", 4), ("lack", 5)]) (N := ["layer", "entry", "coin", "found", "place", "lack", "earlier"]) (sc := defScope s_earlier_entry) (by decide +kernel)) (pif_enum (t.z_enumerate) (paf_cons (pef_var (i := 1)) paf_nil)) (fun _ _ _ _ _ => (pgf_tup rfl (pgsf_cons (pgf_name (i := 4) sc_earlier_entry.nd) (pgsf_cons (pgf_name (i := 5) sc_earlier_entry.nd) pgsf_nil)))) (fun _ _ _ _ _ => ptsf_nil) (fun _ _ _ _ _ => (pef_call [] (g_put_sorted.cal hr) (paf_cons (pef_var (i := 1)) (paf_cons (pef_var (i := 4)) (paf_cons (pef_add (pef_var (i := 5)) (pef_var (i := 2))) paf_nil))) (hm := len_dd (len_cons (len_cons (len_cons len_nil)))))) (hsw := sw_true rfl rfl rfl (by decide +kernel)))
      (pssf_one (psf_ret (pef_ix (pef_frz (peo_lc (own := [("earlier", 6)]) rfl sc_earlier_entry.nd (blkOk_by (own := [("earlier", 6)]) (N := ["layer", "entry", "coin", "found", "place", "lack", "earlier"]) (sc := defScope s_earlier_entry) (by decide +kernel)) (pif_seq (pef_var (i := 3))) (fun _ _ _ _ _ => (pgf_name (i := 6) sc_earlier_entry.nd)) (fun _ _ _ _ _ => (ptsf_one (ptf_cp (c_in hr) (pef_var (i := 6)) (pef_var (i := 0)) (hm := by rfl)))) (fun _ _ _ _ _ => (pef_var (i := 6))))) pef_int))))
theorem g_earlier_entry_ (t : Txt K mg T) : Df P w K mg base T "earlier_entry" 2 (spD T 3 F_earlier_entry) [] := Df.mkD t.d_earlier_entry sc_earlier_entry (p_earlier_entry t (g_put_sorted_ t)) (fun _ _ _ _ _ _ us hl => match us, hl with | [_, _, _], _ => rfl)
theorem p_chained_entries (t : Txt K mg T) (g_earlier_entry : Df P w K mg base T "earlier_entry" 2 (spD T 3 F_earlier_entry) []) : Body P w K mg base T "chained_entries" s_chained_entries ["coins", "layers", "entry", "chain", "place"] 2 f_chained_entries := fun f cdv A outer s H E hr => by
  delta f_chained_entries
  exact (pssf_cons (psf_set (i := 2) sc_chained_entries.nd (pef_ix (pef_ix (pef_var (i := 1)) (pef_neg pef_int)) pef_int))
      (pssf_cons (psf_setO (i := 3) sc_chained_entries.nd (peo_lst (paf_cons (pef_var (i := 2)) paf_nil)))
      (pssf_cons (psf_for PassesOwn.never rfl (pif_range2 (t.z_range) (paf_cons pef_int (paf_cons (pef_bf b_len (t.z_len) (paf_cons (pef_var (i := 0)) paf_nil)) paf_nil))) (pgf_name (i := 4) sc_chained_entries.nd) (pssf_cons (psf_set (i := 2) sc_chained_entries.nd (pef_call [] (g_earlier_entry.cal hr) (paf_cons (pef_ix (pef_var (i := 1)) (pef_sub (pef_bf b_len (t.z_len) (paf_cons (pef_var (i := 0)) paf_nil)) (pef_var (i := 4)))) (paf_cons (pef_var (i := 2)) (paf_cons (pef_ix (pef_var (i := 0)) (pef_sub (pef_var (i := 4)) pef_int)) paf_nil))) (hm := len_dd (len_cons (len_cons (len_cons len_nil))))))
      (pssf_one (psf_app (i := 3) (pef_var (i := 2))))))
      (pssf_one (psf_ret (pef_frz (peo_lend 3 (peo_revL (pef_var (i := 3))))))))))
theorem g_chained_entries_ (t : Txt K mg T) : Df P w K mg base T "chained_entries" 3 (spD T 2 F_chained_entries) [] := Df.mkD t.d_chained_entries sc_chained_entries (p_chained_entries t (g_earlier_entry_ t)) (fun _ _ _ _ _ _ us hl => match us, hl with | [_, _], _ => rfl)
theorem p_any_split (t : Txt K mg T) (g_checked_couple : Df P w K mg base T "checked_couple" 5 (spD T 2 F_checked_couple) []) (g_layers_of : Df P w K mg base T "layers_of" 6 (spD T 2 F_layers_of) []) (g_chained_entries : Df P w K mg base T "chained_entries" 3 (spD T 2 F_chained_entries) []) (g_put_sorted : Df P w K mg base T "put_sorted" 1 (spD T 3 F_put_sorted) []) : Body P w K mg base T "any_split" s_any_split ["pool", "wish", "coins", "amounts", "layers", "lacks", "given", "amount", "coin", "entry", "person", "purse"] 6 f_any_split := fun f cdv A outer s H E hr => by
  delta f_any_split
  exact (pssf_cons (psf_tgt (pef_call [] (g_checked_couple.cal hr) (paf_cons (pef_var (i := 0)) (paf_cons (pef_var (i := 1)) paf_nil)) (hm := len_dd (len_cons (len_cons len_nil)))) (pgf_tup rfl (pgsf_cons (pgf_name (i := 2) sc_any_split.nd) (pgsf_cons (pgf_name (i := 3) sc_any_split.nd) pgsf_nil))))
      (pssf_cons (psf_set (i := 4) sc_any_split.nd (pef_call [] (g_layers_of.cal hr) (paf_cons (pef_var (i := 2)) (paf_cons (pef_var (i := 3)) paf_nil)) (hm := len_dd (len_cons (len_cons len_nil)))))
      (pssf_cons (psf_if (ptf_not (ptf_tru (pef_ix (pef_var (i := 4)) (pef_neg pef_int)))) (pssf_one (psf_ret (pef_make (t.c_NoSplit.mk i_NoSplit hr) (paf_cons (pef_var (i := 4)) paf_nil)))) pssf_nil)
      (pssf_cons (psf_setO (i := 5) sc_any_split.nd (peo_bt b_list (t.z_list) (paf_cons (pef_var (i := 3)) paf_nil)))
      (pssf_cons (psf_setLc0 (i := 6) (own := [("amount", 7)]) rfl sc_any_split.nd (blkOk_by (own := [("amount", 7)]) (N := ["pool", "wish", "coins", "amounts", "layers", "lacks", "given", "amount", "coin", "entry", "person", "purse"]) (sc := defScope s_any_split) (by decide +kernel)) (pif_seq (pef_var (i := 3))) (fun _ _ _ _ _ => (pgf_name (i := 7) sc_any_split.nd)) (hsw := sw_true rfl rfl rfl (by decide +kernel)))
      (pssf_cons (psf_for PassesOwn.never rfl (pif_zip (t.z_zip) (paf_cons (pef_revT (pef_var (i := 2))) (paf_cons (pef_call [] (g_chained_entries.cal hr) (paf_cons (pef_var (i := 2)) (paf_cons (pef_var (i := 4)) paf_nil)) (hm := len_dd (len_cons (len_cons len_nil)))) paf_nil))) (pgf_tup rfl (pgsf_cons (pgf_name (i := 8) sc_any_split.nd) (pgsf_cons (pgf_name (i := 9) sc_any_split.nd) pgsf_nil))) (pssf_cons (psf_set (i := 10) sc_any_split.nd pef_int)
      (pssf_cons (psf_while 64 PassesOwn.never (PWf.pt (pwf_or (ptf_cp c_lt (pef_lend 5 (pef_ix (pef_var (i := 5)) (pef_var (i := 10)))) (pef_var (i := 8))) (pwf_or1 (ptf_cp (c_ne hr) (pef_call [] (g_put_sorted.cal hr) (paf_cons (pef_lend 5 (pef_bt b_tuple (t.z_tuple) (paf_cons (pef_var (i := 5)) paf_nil))) (paf_cons (pef_var (i := 10)) (paf_cons (pef_sub (pef_lend 5 (pef_ix (pef_var (i := 5)) (pef_var (i := 10)))) (pef_var (i := 8))) paf_nil))) (hm := len_dd (len_cons (len_cons (len_cons len_nil))))) (pef_var (i := 9)))))) (pssf_one (psf_aug (i := 10) sc_any_split.nd ip_addI pef_int)))
      (pssf_cons (psf_augI (i := 5) ip_subI (pef_var (i := 10)) (pef_var (i := 8)))
      (pssf_one (psf_appL (i := 6) (pef_var (i := 10)) (pef_var (i := 8))))))))
      (pssf_one (psf_ret (pef_lend 6 (pef_bt b_tuple (t.z_tuple) (paf_cons (pef_frz (peo_lc (own := [("purse", 11)]) rfl sc_any_split.nd (blkOk_by (own := [("purse", 11)]) (N := ["pool", "wish", "coins", "amounts", "layers", "lacks", "given", "amount", "coin", "entry", "person", "purse"]) (sc := defScope s_any_split) (by decide +kernel)) (pif_seq (pef_var (i := 6))) (fun _ _ _ _ _ => (pgf_name (i := 11) sc_any_split.nd)) (fun _ _ _ _ _ => ptsf_nil) (fun _ _ _ _ _ => (pef_bt b_tuple (t.z_tuple) (paf_cons (pef_frz (peo_revL (pef_var (i := 11)))) paf_nil))))) paf_nil)))))))))))
theorem g_any_split_ (t : Txt K mg T) : Df P w K mg base T "any_split" 7 (spD T 2 F_any_split) [] := Df.mkD t.d_any_split sc_any_split (p_any_split t (g_checked_couple_ t) (g_layers_of_ t) (g_chained_entries_ t) (g_put_sorted_ t)) (fun _ _ _ _ _ _ us hl => match us, hl with | [_, _], _ => rfl)
theorem p__law_is_coins (t : Txt K mg T) (g__law_is_whole : Df P w K mg base T "_law_is_whole" 1 (spD T 1 F__law_is_whole) []) : Body P w K mg base T "_law_is_coins" s__law_is_coins ["_law_thing", "_law_coin"] 1 f__law_is_coins := fun f cdv A outer s H E hr => by
  delta f__law_is_coins
  exact (pssf_cons (psf_if (PWf.pt (pwf_or (ptf_not (ptf_tru (pef_isi (t.z_isinstance) (pef_var (i := 0)) (pe_tyN (t.z_tuple))))) (pwf_or1 (ptf_cp (c_ne hr) (pef_frz (peo_lc (own := [("_law_coin", 1)]) rfl sc__law_is_coins.nd (blkOk_by (own := [("_law_coin", 1)]) (N := ["_law_thing", "_law_coin"]) (sc := defScope s__law_is_coins) (by decide +kernel)) (pif_seq (pef_var (i := 0))) (fun _ _ _ _ _ => (pgf_name (i := 1) sc__law_is_coins.nd)) (fun _ _ _ _ _ => (ptsf_one (PWf.pt (pwf_or (ptf_not (ptf_tru (pef_call [] (g__law_is_whole.cal hr) (paf_cons (pef_var (i := 1)) paf_nil) (hm := len_dd (len_cons len_nil))))) (pwf_or1 (ptf_cp c_lt (pef_var (i := 1)) pef_int)))))) (fun _ _ _ _ _ => (pef_var (i := 1))))) (pef_frz (peo_lst paf_nil)))))) (pssf_one (psf_ret pef_bl)) pssf_nil)
      (pssf_one (psf_ret (pef_cp (c_eq hr) (pef_frz (peo_bt b_list (t.z_list) (paf_cons (pef_var (i := 0)) paf_nil))) (pef_frz (peo_bf (b_sorted hr) (t.z_sorted) (paf_cons (pef_frz (peo_bt b_list (t.z_list) (paf_cons (pef_var (i := 0)) paf_nil))) paf_nil)))))))
theorem g__law_is_coins_ (t : Txt K mg T) : Df P w K mg base T "_law_is_coins" 2 (spD T 1 F__law_is_coins) [] := Df.mkD t.d__law_is_coins sc__law_is_coins (p__law_is_coins t (g__law_is_whole_ t)) (fun _ _ _ _ _ _ us hl => match us, hl with | [_], _ => rfl)
theorem p__law_is_split (t : Txt K mg T) (g__law_is_coins : Df P w K mg base T "_law_is_coins" 2 (spD T 1 F__law_is_coins) []) : Body P w K mg base T "_law_is_split" s__law_is_split ["_law_split", "_law_pool_here", "_law_wish_here", "_law_coins", "_law_k"] 2 f__law_is_split := fun f cdv A outer s H E hr => by
  delta f__law_is_split
  exact (pssf_cons (psf_if (PWf.pt (pwf_or (ptf_not (ptf_tru (pef_isi (t.z_isinstance) (pef_var (i := 0)) (pe_tyN (t.z_tuple))))) (pwf_or1 (ptf_cp (c_ne hr) (pef_bf b_len (t.z_len) (paf_cons (pef_var (i := 0)) paf_nil)) (pef_bf b_len (t.z_len) (paf_cons (pef_var (i := 2)) paf_nil)))))) (pssf_one (psf_ret pef_bl)) pssf_nil)
      (pssf_cons (psf_set (i := 3) sc__law_is_split.nd (pef_frz (peo_lst paf_nil)))
      (pssf_cons (psf_for PassesOwn.never rfl (pif_range1 (t.z_range) (paf_cons (pef_bf b_len (t.z_len) (paf_cons (pef_var (i := 2)) paf_nil)) paf_nil)) (pgf_name (i := 4) sc__law_is_split.nd) (pssf_cons (psf_if (PWf.pt (pwf_or (ptf_not (ptf_tru (pef_call [] (g__law_is_coins.cal hr) (paf_cons (pef_ix (pef_var (i := 0)) (pef_var (i := 4))) paf_nil) (hm := len_dd (len_cons len_nil))))) (pwf_or1 (ptf_cp (c_ne hr) (pef_bf b_sum (t.z_sum) (paf_cons (pef_ix (pef_var (i := 0)) (pef_var (i := 4))) paf_nil)) (pef_ix (pef_var (i := 2)) (pef_var (i := 4))))))) (pssf_one (psf_ret pef_bl)) pssf_nil)
      (pssf_one (psf_set (i := 3) sc__law_is_split.nd (pef_frz (peo_addL (pef_var (i := 3)) (pef_frz (peo_bt b_list (t.z_list) (paf_cons (pef_ix (pef_var (i := 0)) (pef_var (i := 4))) paf_nil)))))))))
      (pssf_one (psf_ret (pef_cp (c_eq hr) (pef_frz (peo_bf (b_sorted hr) (t.z_sorted) (paf_cons (pef_var (i := 3)) paf_nil))) (pef_frz (peo_bf (b_sorted hr) (t.z_sorted) (paf_cons (pef_frz (peo_bt b_list (t.z_list) (paf_cons (pef_var (i := 1)) paf_nil))) paf_nil)))))))))
theorem g__law_is_split_ (t : Txt K mg T) : Df P w K mg base T "_law_is_split" 3 (spD T 3 F__law_is_split) [] := Df.mkD t.d__law_is_split sc__law_is_split (p__law_is_split t (g__law_is_coins_ t)) (fun _ _ _ _ _ _ us hl => match us, hl with | [_, _, _], _ => rfl)
theorem p__law_wishes_right (t : Txt K mg T) (g_next_coin : Df P w K mg base T "next_coin" 5 (spD T 2 F_next_coin) []) (g__law_is_whole : Df P w K mg base T "_law_is_whole" 1 (spD T 1 F__law_is_whole) []) (g_serves : Df P w K mg base T "serves" 5 (spD T 2 F_serves) []) (g_fitting_coins : Df P w K mg base T "fitting_coins" 4 (spD T 2 F_fitting_coins) []) (g__law_wish : Df P w K mg base T "_law_wish" 3 (spI T 3 F__law_wish) []) (g__law_is_split : Df P w K mg base T "_law_is_split" 3 (spD T 3 F__law_is_split) []) (g_any_split : Df P w K mg base T "any_split" 7 (spD T 2 F_any_split) []) : Body P w K mg base T "_law_wishes_right" s__law_wishes_right ["_law_hand_here", "_law_coins", "_law_people", "_law_top", "_law_good", "_law_turn", "_law_wish_here", "_law_bad", "_law_told"] 7 f__law_wishes_right := fun f cdv A outer s H E hr => by
  delta f__law_wishes_right
  exact (pssf_cons (psf_set (i := 3) sc__law_wishes_right.nd (pef_call [] (g_next_coin.cal hr) (paf_cons (pef_var (i := 1)) (paf_cons (pef_var (i := 2)) paf_nil)) (hm := len_dd (len_cons (len_cons len_nil)))))
      (pssf_cons (psf_if (ptf_not (ptf_tru (pef_call [] (g__law_is_whole.cal hr) (paf_cons (pef_var (i := 3)) paf_nil) (hm := len_dd (len_cons len_nil))))) (pssf_one (psf_ret pef_bl)) pssf_nil)
      (pssf_cons (psf_set (i := 4) sc__law_wishes_right.nd (pef_frz (peo_addL (pef_var (i := 1)) (pef_frz (peo_lst (paf_cons (pef_var (i := 3)) paf_nil))))))
      (pssf_cons (psf_if (PWf.pt (pwf_or (ptf_cp c_isnot (pef_call [] (g_serves.cal hr) (paf_cons (pef_var (i := 4)) (paf_cons (pef_var (i := 2)) paf_nil)) (hm := len_dd (len_cons (len_cons len_nil)))) pef_non) (pwf_or1 (ptf_cp (c_ne hr) (pef_call [] (g_fitting_coins.cal hr) (paf_cons (pef_var (i := 1)) (paf_cons (pef_var (i := 2)) paf_nil)) (hm := len_dd (len_cons (len_cons len_nil)))) (pef_tup (paf_cons pef_int (paf_cons (pef_var (i := 3)) paf_nil))))))) (pssf_one (psf_ret pef_bl)) pssf_nil)
      (pssf_cons (psf_for PassesOwn.never rfl (pif_range1 (t.z_range) (paf_cons pef_int paf_nil)) (pgf_name (i := 5) sc__law_wishes_right.nd) (pssf_cons (psf_set (i := 6) sc__law_wishes_right.nd (pef_callI (g__law_wish.cal hr) (pai_here (i := 0) (paf_cons (pef_bf b_sum (t.z_sum) (paf_cons (pef_var (i := 4)) paf_nil)) (paf_cons (pef_var (i := 2)) paf_nil))) (len_here (len_cons (len_cons len_nil)))))
      (pssf_one (psf_if (ptf_not (ptf_tru (pef_call [] (g__law_is_split.cal hr) (paf_cons (pef_call [] (g_any_split.cal hr) (paf_cons (pef_var (i := 4)) (paf_cons (pef_var (i := 6)) paf_nil)) (hm := len_dd (len_cons (len_cons len_nil)))) (paf_cons (pef_var (i := 4)) (paf_cons (pef_var (i := 6)) paf_nil))) (hm := len_dd (len_cons (len_cons (len_cons len_nil))))))) (pssf_one (psf_ret pef_bl)) pssf_nil))))
      (pssf_cons (psf_set (i := 7) sc__law_wishes_right.nd (pef_frz (peo_addL (pef_var (i := 1)) (pef_frz (peo_lst (paf_cons (pef_add (pef_var (i := 3)) pef_int) paf_nil))))))
      (pssf_cons (psf_set (i := 8) sc__law_wishes_right.nd (pef_call [] (g_serves.cal hr) (paf_cons (pef_var (i := 7)) (paf_cons (pef_var (i := 2)) paf_nil)) (hm := len_dd (len_cons (len_cons len_nil)))))
      (pssf_cons (psf_if (PWf.pt (pwf_or (ptf_not (ptf_tru (pef_isiC (t.c_Unserved.isi) (t.z_isinstance) (pef_var (i := 8))))) (pwf_or (ptf_not (ptf_tru (pef_isi (t.z_isinstance) (pef_fld (t.c_Unserved.fld (i := 1) rfl) (pef_var (i := 8))) (pe_tyN (t.z_tuple))))) (pwf_or1 (ptf_cp (c_ne hr) (pef_bf b_sum (t.z_sum) (paf_cons (pef_fld (t.c_Unserved.fld (i := 1) rfl) (pef_var (i := 8))) paf_nil)) (pef_bf b_sum (t.z_sum) (paf_cons (pef_var (i := 7)) paf_nil))))))) (pssf_one (psf_ret pef_bl)) pssf_nil)
      (pssf_one (psf_ret (pef_isiC (t.c_NoSplit.isi) (t.z_isinstance) (pef_call [] (g_any_split.cal hr) (paf_cons (pef_var (i := 7)) (paf_cons (pef_fld (t.c_Unserved.fld (i := 1) rfl) (pef_var (i := 8))) paf_nil)) (hm := len_dd (len_cons (len_cons len_nil)))))))))))))))
theorem g__law_wishes_right_ (t : Txt K mg T) : Df P w K mg base T "_law_wishes_right" 8 (spI T 3 F__law_wishes_right) [] := Df.mkI t.d__law_wishes_right sc__law_wishes_right (p__law_wishes_right t (g_next_coin_ t) (g__law_is_whole_ t) (g_serves_ t) (g_fitting_coins_ t) (g__law_wish_ t) (g__law_is_split_ t) (g_any_split_ t)) (fun _ _ _ _ _ _ us hl => match us, hl with | [_, _, _], _ => rfl)
theorem p__law_far_right (t : Txt K mg T) (g_next_coin : Df P w K mg base T "next_coin" 5 (spD T 2 F_next_coin) []) (g__law_is_whole : Df P w K mg base T "_law_is_whole" 1 (spD T 1 F__law_is_whole) []) (g_serves : Df P w K mg base T "serves" 5 (spD T 2 F_serves) []) (g_may_put : Df P w K mg base T "may_put" 4 (spD T 3 F_may_put) []) : Body P w K mg base T "_law_far_right" s__law_far_right ["_law_coins", "_law_people", "_law_top"] 5 f__law_far_right := fun f cdv A outer s H E hr => by
  delta f__law_far_right
  exact (pssf_cons (psf_set (i := 2) sc__law_far_right.nd (pef_call [] (g_next_coin.cal hr) (paf_cons (pef_var (i := 0)) (paf_cons (pef_var (i := 1)) paf_nil)) (hm := len_dd (len_cons (len_cons len_nil)))))
      (pssf_cons (psf_if (PWf.pt (pwf_or (ptf_not (ptf_tru (pef_call [] (g__law_is_whole.cal hr) (paf_cons (pef_var (i := 2)) paf_nil) (hm := len_dd (len_cons len_nil))))) (pwf_or (ptf_cp c_isnot (pef_call [] (g_serves.cal hr) (paf_cons (pef_frz (peo_addL (pef_var (i := 0)) (pef_frz (peo_lst (paf_cons (pef_var (i := 2)) paf_nil))))) (paf_cons (pef_var (i := 1)) paf_nil)) (hm := len_dd (len_cons (len_cons len_nil)))) pef_non) (pwf_or1 (ptf_not (ptf_tru (pef_call [] (g_may_put.cal hr) (paf_cons (pef_var (i := 0)) (paf_cons (pef_var (i := 2)) (paf_cons (pef_var (i := 1)) paf_nil))) (hm := len_dd (len_cons (len_cons (len_cons len_nil))))))))))) (pssf_one (psf_ret pef_bl)) pssf_nil)
      (pssf_cons (psf_if (ptf_not (ptf_tru (pef_isiC (t.c_Unserved.isi) (t.z_isinstance) (pef_call [] (g_serves.cal hr) (paf_cons (pef_frz (peo_addL (pef_var (i := 0)) (pef_frz (peo_lst (paf_cons (pef_add (pef_var (i := 2)) pef_int) paf_nil))))) (paf_cons (pef_var (i := 1)) paf_nil)) (hm := len_dd (len_cons (len_cons len_nil))))))) (pssf_one (psf_ret pef_bl)) pssf_nil)
      (pssf_one (psf_ret (pef_notT (pef_call [] (g_may_put.cal hr) (paf_cons (pef_var (i := 0)) (paf_cons (pef_add (pef_var (i := 2)) pef_int) (paf_cons (pef_var (i := 1)) paf_nil))) (hm := len_dd (len_cons (len_cons (len_cons len_nil)))))))))))
theorem g__law_far_right_ (t : Txt K mg T) : Df P w K mg base T "_law_far_right" 6 (spD T 2 F__law_far_right) [] := Df.mkD t.d__law_far_right sc__law_far_right (p__law_far_right t (g_next_coin_ t) (g__law_is_whole_ t) (g_serves_ t) (g_may_put_ t)) (fun _ _ _ _ _ _ us hl => match us, hl with | [_, _], _ => rfl)
theorem p_law (t : Txt K mg T) (g__law_draw : Df P w K mg base T "_law_draw" 2 (spI T 2 F__law_draw) []) (g__law_put : Df P w K mg base T "_law_put" 6 (spI T 3 F__law_put) []) (g__law_wishes_right : Df P w K mg base T "_law_wishes_right" 8 (spI T 3 F__law_wishes_right) []) (g__law_far_right : Df P w K mg base T "_law_far_right" 6 (spD T 2 F__law_far_right) []) (g__law_any_right : Df P w K mg base T "_law_any_right" 6 (spI T 2 F__law_any_right) []) (f : Addr) (cdv : Value) (A : Around) (outer : List Env) (s : Shared) (H : Hp) (E : XK) (hr : Room 8 (A.deeper (envOfC "law" (defScope s_law) s.heap.objs.size f cdv))) : PSsf (cxOf CX0 P w K mg base ["_law_script", "_law_hand_here", "_law_people", "_law_coins"] "law" (defScope s_law) f cdv A outer s H E).nox T ((defBody s_law).drop 1) f_law := by
  delta f_law
  exact (pssf_cons (psf_set (i := 2) sc_law.nd (pef_add pef_int (pef_callI (g__law_draw.cal hr) (pai_here (i := 1) (paf_cons pef_int paf_nil)) (len_here (len_cons len_nil)))))
      (pssf_cons (psf_set (i := 3) sc_law.nd (pef_callI (g__law_put.cal hr) (pai_here (i := 1) (paf_cons (pef_var (i := 2)) (paf_cons (pef_callI (g__law_draw.cal hr) (pai_here (i := 1) (paf_cons (pef_ix (pef_frz (peo_lst (paf_cons pef_int (paf_cons pef_int (paf_cons pef_int (paf_cons pef_int paf_nil)))))) (pef_sub (pef_var (i := 2)) pef_int)) paf_nil)) (len_here (len_cons len_nil))) paf_nil))) (len_here (len_cons (len_cons len_nil)))))
      (pssf_cons (psf_if (PWf.pt (pwf_or (ptf_cp c_is (pef_var (i := 3)) pef_non) (pwf_or1 (ptf_not (ptf_tru (pef_callI (g__law_wishes_right.cal hr) (pai_here (i := 1) (paf_cons (pef_var (i := 3)) (paf_cons (pef_var (i := 2)) paf_nil))) (len_here (len_cons (len_cons len_nil))))))))) (pssf_one (psf_ret pef_bl)) pssf_nil)
      (pssf_cons (psf_set (i := 3) sc_law.nd (pef_callI (g__law_put.cal hr) (pai_here (i := 1) (paf_cons (pef_var (i := 2)) (paf_cons (pef_callI (g__law_draw.cal hr) (pai_here (i := 1) (paf_cons pef_int paf_nil)) (len_here (len_cons len_nil))) paf_nil))) (len_here (len_cons (len_cons len_nil)))))
      (pssf_cons (psf_if (PWf.pt (pwf_or (ptf_cp c_is (pef_var (i := 3)) pef_non) (pwf_or1 (ptf_not (ptf_tru (pef_call [] (g__law_far_right.cal hr) (paf_cons (pef_var (i := 3)) (paf_cons (pef_var (i := 2)) paf_nil)) (hm := len_dd (len_cons (len_cons len_nil))))))))) (pssf_one (psf_ret pef_bl)) pssf_nil)
      (pssf_one (psf_ret (pef_and (pef_callI (g__law_any_right.cal hr) (pai_here (i := 1) (paf_cons (pef_var (i := 2)) paf_nil)) (len_here (len_cons len_nil))) (pef_one (pef_callI (g__law_any_right.cal hr) (pai_here (i := 1) (paf_cons (pef_var (i := 2)) paf_nil)) (len_here (len_cons len_nil))))))))))))
theorem p_law_ (t : Txt K mg T) (f : Addr) (cdv : Value) (A : Around) (outer : List Env) (s : Shared) (H : Hp) (E : XK) (hr : Room 8 (A.deeper (envOfC "law" (defScope s_law) s.heap.objs.size f cdv))) : PSsf (cxOf CX0 P w K mg base ["_law_script", "_law_hand_here", "_law_people", "_law_coins"] "law" (defScope s_law) f cdv A outer s H E).nox T ((defBody s_law).drop 1) f_law := p_law t (g__law_draw_ t) (g__law_put_ t) (g__law_wishes_right_ t) (g__law_far_right_ t) (g__law_any_right_ t) f cdv A outer s H E hr
end
end K76
end

section
set_option Elab.async false
set_option linter.all false
set_option autoImplicit false
set_option maxRecDepth 100000
set_option maxHeartbeats 4000000
namespace K76
open PySem PySem.Spec PyProof.Rows L2 Fl
section
variable {P : Program} {w : World} {K : PySem.W.Frag} {mg : Str → Option Value} {base : Heap} {T : Tab}
theorem ok_hand {f : Addr} {fd : FuncData} (F : Fun K "_law_hand" "_law_hand" s__law_hand f fd) (z1 : mg "enumerate" = none) (z2 : mg "int" = none) (z3 : mg "abs" = none) : FnOk P w K mg base CX0 1 f fd ["_law_script"] (spHand K) := by
  refine F.ok sc__law_hand (fun vs H Q E h => ?_) (fun cdv A outer s H vs Q E hr h => ?_)
  · obtain ⟨a, ns, rfl, _⟩ := h
    rfl
  · obtain ⟨a, ns, rfl, hS, hlen, q⟩ := h
    refine ⟨_, pss_cons (ps_set (i := 1) sc__law_hand.nd rfl (.inl rfl) pe_int) (pss_cons (ps_for PassesOwn.never rfl (pi_enum (by rfl) z1 (pa_cons (pv 0) pa_nil)) (pg_tup rfl (pgs_cons (pg_name (i := 2) sc__law_hand.nd rfl (.inl rfl)) (pgs_cons (pg_name (i := 3) sc__law_hand.nd rfl (.inl rfl)) pgs_nil)))
        (pss_one (ps_set (i := 1) sc__law_hand.nd rfl (.inl rfl) (pe_op op_mod (pe_callTy call_int1 (by rfl) z2 (by decide +kernel) (pa_cons (pe_op op_add (pe_op op_mul (pv 1) pe_int) (pe_op op_mul (pe_callTy call_int1 (by rfl) z2 (by decide +kernel) (pa_cons (pv 3) pa_nil)) (pe_op op_add (pv 2) pe_int))) pa_nil)) pe_int))))
      (pss_one (ps_ret (pe_lst (pa_cons (pe_lc (own := [("_law_cell", 3)]) (g := gName 3) (tt := tYes) rfl sc__law_hand.nd (pi_list (pv 0)) (blkOk_by (own := [("_law_cell", 3)]) (N := ["_law_script", "_law_total", "_law_k", "_law_cell"]) (sc := defScope s__law_hand) (by decide +kernel)) (fun _ _ _ _ _ => pg_name (i := 3) sc__law_hand.nd rfl (Or.inl rfl)) (fun _ _ _ _ _ => pts_nil)
        (fun _ _ _ _ _ => pe_callB call_abs (by rfl) z3 (by decide +kernel) (pa_cons (pe_callTy call_int1 (by rfl) z2 (by decide +kernel) (pa_cons (pv 3) pa_nil)) pa_nil))) (pa_cons pe_int (pa_cons pe_int (pa_cons (pv 1) pa_nil)))))))), ?_⟩
    refine ⟨.ref a, rfl, a, ns.map V.int, rfl, hS, ?_⟩
    refine for_it (walk_enum (xs := ns.map V.int)) (fun i σ H' => ∃ (t : Int) (y2 y3 : Option V), σ = [some (.ref a), some (.int t), y2, y3] ∧ Same H H' ∧ handTot t i (ns.drop i) = handTot 0 0 ns ∧ -(2 ^ 64) < t ∧ t < 2 ^ 64) ?_ ?_ ?_ ?_
    · exact ⟨0, none, none, rfl, Same.refl H, rfl, by decide, by decide⟩
    · rintro i σ H' _ ⟨t, y2, y3, _, sm, _⟩
      exact sm.seq hS
    · rintro i x σ H1 H2 hi ⟨t, y2, y3, rfl, sm, ht, b1, b2⟩ ⟨p, x1, x2, rfl, hp, rfl, hx1, hx2⟩
      have hi' : i < ns.length := by simpa using hi
      cases hx1
      have ex : x2 = .int ns[i] := by
        have hx2 : (ns.map V.int)[i]? = some x2 := hx2
        rw [List.getElem?_map, List.getElem?_eq_getElem hi'] at hx2
        exact (Option.some.inj hx2).symm
      subst ex
      have hl6 : (i : Int) + 7 < 2 ^ 64 := by omega
      refine ⟨p, [.int (i : Nat), .int ns[i]], rfl, .inl (.inl upd_same), rfl, .int (i : Nat), [.int ns[i]], rfl, .int ns[i], [], rfl, rfl, ?_⟩
      refine ⟨.int t, rfl, t, 31, rfl, rfl, .inl ⟨b1, b2⟩, .int ns[i], rfl, .inl ⟨ns[i], rfl, .int (i : Nat), rfl, (i : Nat), 7, rfl, rfl, ns[i], (i : Nat) + 7, rfl, rfl, .inr ⟨by omega, hl6⟩, _, _, rfl, rfl, .inl ⟨_, rfl, _, 2147483629, rfl, rfl, (show (0 : Int) < 2147483629 by decide), ?_⟩⟩⟩
      refine ⟨_, _, _, rfl, fun b o e => ?_, ?_, ?_, ?_⟩
      · rw [upd_ne (ne_of_none (sm b o e) hp)]
        exact sm b o e
      · rw [List.drop_eq_getElem_cons hi'] at ht
        exact ht
      · have := Int.emod_nonneg (t * 31 + ns[i] * ((i : Nat) + 7)) (show (2147483629 : Int) ≠ 0 by decide)
        omega
      · have := Int.emod_lt_of_pos (t * 31 + ns[i] * ((i : Nat) + 7)) (show (0 : Int) < 2147483629 by decide)
        omega
    · rintro σ H1 ⟨t, y2, y3, rfl, sm, ht, b1, b2⟩
      rw [List.length_map, List.drop_length] at ht
      have ht : t = handTot 0 0 ns := ht
      subst ht
      have hS1 := sm.seq hS
      refine ⟨.ref a, rfl, a, rfl, ⟨_, hS1⟩, fun D hD => ?_⟩
      refine lc_it (walk_list (xs := ns.map V.int)) (fun i H' => H' = upd H1 D (.lst ((ns.take i).map fun n => .int (absI n)))) rfl ?_ ?_ ?_
      · rintro i H' _ rfl
        exact Same.seq (fun b o e => by rw [upd_ne (ne_of_none e hD)]; exact e) hS1
      · rintro i x H2 H3 hi rfl ⟨rfl, hx⟩
        have hi' : i < ns.length := by simpa using hi
        have ex : x = .int ns[i] := by
          rw [List.getElem?_map, List.getElem?_eq_getElem hi'] at hx
          exact (Option.some.inj hx).symm
        subst ex
        refine ⟨rfl, ?_⟩
        unfold tYes
        dsimp only
        rw [if_pos rfl]
        refine ⟨.int ns[i], rfl, .inl ⟨ns[i], rfl, ns[i], rfl, _, upd_same, ?_, ?_⟩⟩
        · exact small1000 (by simp; omega)
        · rw [L2.upd_upd, List.take_add_one, List.getElem?_eq_getElem hi', List.map_append]
          rfl
      · rintro H2 rfl
        have e : (ns.take (ns.map V.int).length) = ns := by rw [List.length_map]; exact List.take_length
        rw [e]
        refine ⟨.int (handTot 0 0 ns), rfl, Nat.le_of_lt (small1000 (show 4 ≤ 1000 by decide)), fun p hp => ?_⟩
        have nD : p ≠ D := fun z => by rw [z, upd_same] at hp; cases hp
        have hp1 : H1 p = none := by rw [upd_ne nD] at hp; exact hp
        refine q _ p D (fun b o e => ?_) (sm.free hp1) (sm.free hD) nD ?_ upd_same
        · have e1 := sm b o e
          rw [upd_ne (ne_of_none e1 hp1), upd_ne (ne_of_none e1 hD)]
          exact e1
        · rw [upd_ne (Ne.symm nD), upd_same]
theorem ok_law {f : Addr} {fd : FuncData} (t : Txt K mg T) (F : Fun K "law" "law" s_law f fd) (hf : LawTrue f_law 2) : FnOk P w K mg base CX0 9 f fd ["_law_script"] (spLaw K) := by
  obtain ⟨fH, fdH, FH, gH⟩ := t.d__law_hand
  have bH : Binds K fdH ["_law_script"] [] := FH.binds fun _ _ _ _ _ _ us hl => match us, hl with | [_], _ => rfl
  refine F.ok sc_law (fun vs H Q E h => ?_) (fun cdv A outer s H vs Q E hr h => ?_)
  · obtain ⟨a, ns, rfl, _⟩ := h
    rfl
  · obtain ⟨a, ns, rfl, hS, hlen, q⟩ := h
    refine ⟨_, pss_cons (ps_set (i := 1) sc_law.nd rfl (.inl rfl) (pe_call ((ok_hand FH t.z_enumerate t.z_int t.z_abs).mono (by decide)) hr (by rfl) gH FH.kp bH .nil pass0 (pa_cons (pv 0) pa_nil))) (p_law_ t f cdv A outer s H E hr).ps, ?_⟩
    refine ⟨.ref a, rfl, a, ns, rfl, hS, by omega, fun H' p qq sm hp hq ne h1 h2 => ?_⟩
    exact law_run hf hlen sm hp hq ne h1 h2 rfl q
end
end K76
end

section
set_option Elab.async false
set_option linter.all false
set_option autoImplicit false
set_option maxRecDepth 100000
set_option maxHeartbeats 4000000
namespace K76
open PySem PySem.Spec PyProof.Rows L2 Fl
theorem all_mk {l : PySem.W.OpenLaw} {w : World} {K : PySem.W.Frag} {h : Heap} {mg : Str → Option Value} {fa : Addr} (hl : LawTrue f_law 2) (X : K.In h) (G : h.Ns mainGlobals mg) (hfa : mg "law" = some (.ref fa))
    {f0 : Addr} {oc0 kV0 dc0 pm0 cd0 ct0 : Value} {od0 an0 : Option Addr} {sl0 : Array (Option Value)}
    {f1 : Addr} {oc1 kV1 dc1 pm1 cd1 ct1 : Value} {od1 an1 : Option Addr} {sl1 : Array (Option Value)}
    {f2 : Addr} {oc2 kV2 dc2 pm2 cd2 ct2 : Value} {od2 an2 : Option Addr} {sl2 : Array (Option Value)}
    {f3 : Addr} {oc3 kV3 dc3 pm3 cd3 ct3 : Value} {od3 an3 : Option Addr} {sl3 : Array (Option Value)}
    {f4 : Addr} {oc4 kV4 dc4 pm4 cd4 ct4 : Value} {od4 an4 : Option Addr} {sl4 : Array (Option Value)}
    {T4 : Addr} {to4 : Value} {td4 : Option Addr} {tn4 : Nat} {ts4 : Array (Option Value)} {tk4_0 : Tok}
    {f5 : Addr} {oc5 kV5 dc5 pm5 cd5 ct5 : Value} {od5 an5 : Option Addr} {sl5 : Array (Option Value)}
    {f6 : Addr} {oc6 kV6 dc6 pm6 cd6 ct6 : Value} {od6 an6 : Option Addr} {sl6 : Array (Option Value)}
    {f7 : Addr} {oc7 kV7 dc7 pm7 cd7 ct7 : Value} {od7 an7 : Option Addr} {sl7 : Array (Option Value)}
    {f8 : Addr} {oc8 kV8 dc8 pm8 cd8 ct8 : Value} {od8 an8 : Option Addr} {sl8 : Array (Option Value)}
    {f9 : Addr} {oc9 kV9 dc9 pm9 cd9 ct9 : Value} {od9 an9 : Option Addr} {sl9 : Array (Option Value)}
    {f10 : Addr} {oc10 kV10 dc10 pm10 cd10 ct10 : Value} {od10 an10 : Option Addr} {sl10 : Array (Option Value)}
    {f11 : Addr} {oc11 kV11 dc11 pm11 cd11 ct11 : Value} {od11 an11 : Option Addr} {sl11 : Array (Option Value)}
    {f12 : Addr} {oc12 kV12 dc12 pm12 cd12 ct12 : Value} {od12 an12 : Option Addr} {sl12 : Array (Option Value)}
    {f13 : Addr} {oc13 kV13 dc13 pm13 cd13 ct13 : Value} {od13 an13 : Option Addr} {sl13 : Array (Option Value)}
    {f14 : Addr} {oc14 kV14 dc14 pm14 cd14 ct14 : Value} {od14 an14 : Option Addr} {sl14 : Array (Option Value)}
    {f15 : Addr} {oc15 kV15 dc15 pm15 cd15 ct15 : Value} {od15 an15 : Option Addr} {sl15 : Array (Option Value)}
    {f16 : Addr} {oc16 kV16 dc16 pm16 cd16 ct16 : Value} {od16 an16 : Option Addr} {sl16 : Array (Option Value)}
    {f17 : Addr} {oc17 kV17 dc17 pm17 cd17 ct17 : Value} {od17 an17 : Option Addr} {sl17 : Array (Option Value)}
    {f18 : Addr} {oc18 kV18 dc18 pm18 cd18 ct18 : Value} {od18 an18 : Option Addr} {sl18 : Array (Option Value)}
    {f19 : Addr} {oc19 kV19 dc19 pm19 cd19 ct19 : Value} {od19 an19 : Option Addr} {sl19 : Array (Option Value)}
    {f20 : Addr} {oc20 kV20 dc20 pm20 cd20 ct20 : Value} {od20 an20 : Option Addr} {sl20 : Array (Option Value)}
    {f21 : Addr} {oc21 kV21 dc21 pm21 cd21 ct21 : Value} {od21 an21 : Option Addr} {sl21 : Array (Option Value)}
    {f22 : Addr} {oc22 kV22 dc22 pm22 cd22 ct22 : Value} {od22 an22 : Option Addr} {sl22 : Array (Option Value)}
    {f23 : Addr} {oc23 kV23 dc23 pm23 cd23 ct23 : Value} {od23 an23 : Option Addr} {sl23 : Array (Option Value)}
    {f24 : Addr} {oc24 kV24 dc24 pm24 cd24 ct24 : Value} {od24 an24 : Option Addr} {sl24 : Array (Option Value)}
    {f25 : Addr} {oc25 kV25 dc25 pm25 cd25 ct25 : Value} {od25 an25 : Option Addr} {sl25 : Array (Option Value)}
    {f26 : Addr} {oc26 kV26 dc26 pm26 cd26 ct26 : Value} {od26 an26 : Option Addr} {sl26 : Array (Option Value)}
    {f27 : Addr} {oc27 kV27 dc27 pm27 cd27 ct27 : Value} {od27 an27 : Option Addr} {sl27 : Array (Option Value)}
    {f28 : Addr} {oc28 kV28 dc28 pm28 cd28 ct28 : Value} {od28 an28 : Option Addr} {sl28 : Array (Option Value)}
    {f29 : Addr} {oc29 kV29 dc29 pm29 cd29 ct29 : Value} {od29 an29 : Option Addr} {sl29 : Array (Option Value)}
    {f30 : Addr} {oc30 kV30 dc30 pm30 cd30 ct30 : Value} {od30 an30 : Option Addr} {sl30 : Array (Option Value)}
    {f31 : Addr} {oc31 kV31 dc31 pm31 cd31 ct31 : Value} {od31 an31 : Option Addr} {sl31 : Array (Option Value)}
    {f32 : Addr} {oc32 kV32 dc32 pm32 cd32 ct32 : Value} {od32 an32 : Option Addr} {sl32 : Array (Option Value)}
    {f33 : Addr} {oc33 kV33 dc33 pm33 cd33 ct33 : Value} {od33 an33 : Option Addr} {sl33 : Array (Option Value)}
    {f34 : Addr} {oc34 kV34 dc34 pm34 cd34 ct34 : Value} {od34 an34 : Option Addr} {sl34 : Array (Option Value)}
    {f35 : Addr} {oc35 kV35 dc35 pm35 cd35 ct35 : Value} {od35 an35 : Option Addr} {sl35 : Array (Option Value)}
    {f36 : Addr} {oc36 kV36 dc36 pm36 cd36 ct36 : Value} {od36 an36 : Option Addr} {sl36 : Array (Option Value)}
    {f37 : Addr} {oc37 kV37 dc37 pm37 cd37 ct37 : Value} {od37 an37 : Option Addr} {sl37 : Array (Option Value)}
    {f38 : Addr} {oc38 kV38 dc38 pm38 cd38 ct38 : Value} {od38 an38 : Option Addr} {sl38 : Array (Option Value)}
    {C0 g0 : Addr} {Ooc0 OkV0 Odc0 Opm0 Ocd0 Oct0 : Value} {Ood0 Oan0 : Option Addr} {Osl0 : Array (Option Value)}
    {C1 g1 : Addr} {Ooc1 OkV1 Odc1 Opm1 Ocd1 Oct1 : Value} {Ood1 Oan1 : Option Addr} {Osl1 : Array (Option Value)}
    {q_MOST_AMOUNT : Tok}
    {q_MOST_COINS : Tok}
    {q_MOST_ENTRIES : Tok}
    {q_MOST_PEOPLE : Tok}
    {q_MOST_WORTH : Tok}
    (a0 : PySem.W.nsIn K mainGlobals "_law_hand" = some (some (.ref f0)))
    (l0 : K.lookup f0 = some ⟨oc0, od0, .func (PySem.W.fnOf "_law_hand" "_law_hand" (defArgs s__law_hand) (defBody s__law_hand) (defScope s__law_hand) .none kV0 dc0 pm0 an0 cd0 ct0), sl0⟩)
    (c0 : PySem.W.codeIn K cd0 "_law_hand" = true) (k0 : PySem.W.keepIn K (.ref f0) = true)
    (a1 : PySem.W.nsIn K mainGlobals "is_sequence" = some (some (.ref f1)))
    (l1 : K.lookup f1 = some ⟨oc1, od1, .func (PySem.W.fnOf "is_sequence" "is_sequence" (defArgs s_is_sequence) (defBody s_is_sequence) (defScope s_is_sequence) .none kV1 dc1 pm1 an1 cd1 ct1), sl1⟩)
    (c1 : PySem.W.codeIn K cd1 "is_sequence" = true) (k1 : PySem.W.keepIn K (.ref f1) = true)
    (a2 : PySem.W.nsIn K mainGlobals "is_whole" = some (some (.ref f2)))
    (l2 : K.lookup f2 = some ⟨oc2, od2, .func (PySem.W.fnOf "is_whole" "is_whole" (defArgs s_is_whole) (defBody s_is_whole) (defScope s_is_whole) .none kV2 dc2 pm2 an2 cd2 ct2), sl2⟩)
    (c2 : PySem.W.codeIn K cd2 "is_whole" = true) (k2 : PySem.W.keepIn K (.ref f2) = true)
    (a3 : PySem.W.nsIn K mainGlobals "check_pool" = some (some (.ref f3)))
    (l3 : K.lookup f3 = some ⟨oc3, od3, .func (PySem.W.fnOf "check_pool" "check_pool" (defArgs s_check_pool) (defBody s_check_pool) (defScope s_check_pool) .none kV3 dc3 pm3 an3 cd3 ct3), sl3⟩)
    (c3 : PySem.W.codeIn K cd3 "check_pool" = true) (k3 : PySem.W.keepIn K (.ref f3) = true)
    (a4 : PySem.W.nsIn K mainGlobals "check_people" = some (some (.ref f4)))
    (l4 : K.lookup f4 = some ⟨oc4, od4, .func (PySem.W.fnOf "check_people" "check_people" (defArgs s_check_people) (defBody s_check_people) (defScope s_check_people) (.ref T4) kV4 dc4 pm4 an4 cd4 ct4), sl4⟩)
    (c4 : PySem.W.codeIn K cd4 "check_people" = true) (k4 : PySem.W.keepIn K (.ref f4) = true)
    (lT4 : K.lookup T4 = some ⟨to4, td4, .seq (List.toArray [.int 1 tk4_0] ) tn4, ts4⟩)
    (a5 : PySem.W.nsIn K mainGlobals "next_room" = some (some (.ref f5)))
    (l5 : K.lookup f5 = some ⟨oc5, od5, .func (PySem.W.fnOf "next_room" "next_room" (defArgs s_next_room) (defBody s_next_room) (defScope s_next_room) .none kV5 dc5 pm5 an5 cd5 ct5), sl5⟩)
    (c5 : PySem.W.codeIn K cd5 "next_room" = true) (k5 : PySem.W.keepIn K (.ref f5) = true)
    (a6 : PySem.W.nsIn K mainGlobals "fitting_range" = some (some (.ref f6)))
    (l6 : K.lookup f6 = some ⟨oc6, od6, .func (PySem.W.fnOf "fitting_range" "fitting_range" (defArgs s_fitting_range) (defBody s_fitting_range) (defScope s_fitting_range) .none kV6 dc6 pm6 an6 cd6 ct6), sl6⟩)
    (c6 : PySem.W.codeIn K cd6 "fitting_range" = true) (k6 : PySem.W.keepIn K (.ref f6) = true)
    (a7 : PySem.W.nsIn K mainGlobals "fitting_coins" = some (some (.ref f7)))
    (l7 : K.lookup f7 = some ⟨oc7, od7, .func (PySem.W.fnOf "fitting_coins" "fitting_coins" (defArgs s_fitting_coins) (defBody s_fitting_coins) (defScope s_fitting_coins) .none kV7 dc7 pm7 an7 cd7 ct7), sl7⟩)
    (c7 : PySem.W.codeIn K cd7 "fitting_coins" = true) (k7 : PySem.W.keepIn K (.ref f7) = true)
    (a8 : PySem.W.nsIn K mainGlobals "next_coin" = some (some (.ref f8)))
    (l8 : K.lookup f8 = some ⟨oc8, od8, .func (PySem.W.fnOf "next_coin" "next_coin" (defArgs s_next_coin) (defBody s_next_coin) (defScope s_next_coin) .none kV8 dc8 pm8 an8 cd8 ct8), sl8⟩)
    (c8 : PySem.W.codeIn K cd8 "next_coin" = true) (k8 : PySem.W.keepIn K (.ref f8) = true)
    (a9 : PySem.W.nsIn K mainGlobals "_law_mix" = some (some (.ref f9)))
    (l9 : K.lookup f9 = some ⟨oc9, od9, .func (PySem.W.fnOf "_law_mix" "_law_mix" (defArgs s__law_mix) (defBody s__law_mix) (defScope s__law_mix) .none kV9 dc9 pm9 an9 cd9 ct9), sl9⟩)
    (c9 : PySem.W.codeIn K cd9 "_law_mix" = true) (k9 : PySem.W.keepIn K (.ref f9) = true)
    (a10 : PySem.W.nsIn K mainGlobals "_law_draw" = some (some (.ref f10)))
    (l10 : K.lookup f10 = some ⟨oc10, od10, .func (PySem.W.fnOf "_law_draw" "_law_draw" (defArgs s__law_draw) (defBody s__law_draw) (defScope s__law_draw) .none kV10 dc10 pm10 an10 cd10 ct10), sl10⟩)
    (c10 : PySem.W.codeIn K cd10 "_law_draw" = true) (k10 : PySem.W.keepIn K (.ref f10) = true)
    (a11 : PySem.W.nsIn K mainGlobals "running_sums" = some (some (.ref f11)))
    (l11 : K.lookup f11 = some ⟨oc11, od11, .func (PySem.W.fnOf "running_sums" "running_sums" (defArgs s_running_sums) (defBody s_running_sums) (defScope s_running_sums) .none kV11 dc11 pm11 an11 cd11 ct11), sl11⟩)
    (c11 : PySem.W.codeIn K cd11 "running_sums" = true) (k11 : PySem.W.keepIn K (.ref f11) = true)
    (a12 : PySem.W.nsIn K mainGlobals "parted_up" = some (some (.ref f12)))
    (l12 : K.lookup f12 = some ⟨oc12, od12, .func (PySem.W.fnOf "parted_up" "parted_up" (defArgs s_parted_up) (defBody s_parted_up) (defScope s_parted_up) .none kV12 dc12 pm12 an12 cd12 ct12), sl12⟩)
    (c12 : PySem.W.codeIn K cd12 "parted_up" = true) (k12 : PySem.W.keepIn K (.ref f12) = true)
    (a13 : PySem.W.nsIn K mainGlobals "failing_places" = some (some (.ref f13)))
    (l13 : K.lookup f13 = some ⟨oc13, od13, .func (PySem.W.fnOf "failing_places" "failing_places" (defArgs s_failing_places) (defBody s_failing_places) (defScope s_failing_places) .none kV13 dc13 pm13 an13 cd13 ct13), sl13⟩)
    (c13 : PySem.W.codeIn K cd13 "failing_places" = true) (k13 : PySem.W.keepIn K (.ref f13) = true)
    (a14 : PySem.W.nsIn K mainGlobals "parted_evenly" = some (some (.ref f14)))
    (l14 : K.lookup f14 = some ⟨oc14, od14, .func (PySem.W.fnOf "parted_evenly" "parted_evenly" (defArgs s_parted_evenly) (defBody s_parted_evenly) (defScope s_parted_evenly) .none kV14 dc14 pm14 an14 cd14 ct14), sl14⟩)
    (c14 : PySem.W.codeIn K cd14 "parted_evenly" = true) (k14 : PySem.W.keepIn K (.ref f14) = true)
    (a15 : PySem.W.nsIn K mainGlobals "serves" = some (some (.ref f15)))
    (l15 : K.lookup f15 = some ⟨oc15, od15, .func (PySem.W.fnOf "serves" "serves" (defArgs s_serves) (defBody s_serves) (defScope s_serves) .none kV15 dc15 pm15 an15 cd15 ct15), sl15⟩)
    (c15 : PySem.W.codeIn K cd15 "serves" = true) (k15 : PySem.W.keepIn K (.ref f15) = true)
    (a16 : PySem.W.nsIn K mainGlobals "_law_is_whole" = some (some (.ref f16)))
    (l16 : K.lookup f16 = some ⟨oc16, od16, .func (PySem.W.fnOf "_law_is_whole" "_law_is_whole" (defArgs s__law_is_whole) (defBody s__law_is_whole) (defScope s__law_is_whole) .none kV16 dc16 pm16 an16 cd16 ct16), sl16⟩)
    (c16 : PySem.W.codeIn K cd16 "_law_is_whole" = true) (k16 : PySem.W.keepIn K (.ref f16) = true)
    (a17 : PySem.W.nsIn K mainGlobals "_law_next" = some (some (.ref f17)))
    (l17 : K.lookup f17 = some ⟨oc17, od17, .func (PySem.W.fnOf "_law_next" "_law_next" (defArgs s__law_next) (defBody s__law_next) (defScope s__law_next) .none kV17 dc17 pm17 an17 cd17 ct17), sl17⟩)
    (c17 : PySem.W.codeIn K cd17 "_law_next" = true) (k17 : PySem.W.keepIn K (.ref f17) = true)
    (a18 : PySem.W.nsIn K mainGlobals "_law_put" = some (some (.ref f18)))
    (l18 : K.lookup f18 = some ⟨oc18, od18, .func (PySem.W.fnOf "_law_put" "_law_put" (defArgs s__law_put) (defBody s__law_put) (defScope s__law_put) .none kV18 dc18 pm18 an18 cd18 ct18), sl18⟩)
    (c18 : PySem.W.codeIn K cd18 "_law_put" = true) (k18 : PySem.W.keepIn K (.ref f18) = true)
    (a19 : PySem.W.nsIn K mainGlobals "_law_robbed" = some (some (.ref f19)))
    (l19 : K.lookup f19 = some ⟨oc19, od19, .func (PySem.W.fnOf "_law_robbed" "_law_robbed" (defArgs s__law_robbed) (defBody s__law_robbed) (defScope s__law_robbed) .none kV19 dc19 pm19 an19 cd19 ct19), sl19⟩)
    (c19 : PySem.W.codeIn K cd19 "_law_robbed" = true) (k19 : PySem.W.keepIn K (.ref f19) = true)
    (a20 : PySem.W.nsIn K mainGlobals "_law_pool" = some (some (.ref f20)))
    (l20 : K.lookup f20 = some ⟨oc20, od20, .func (PySem.W.fnOf "_law_pool" "_law_pool" (defArgs s__law_pool) (defBody s__law_pool) (defScope s__law_pool) .none kV20 dc20 pm20 an20 cd20 ct20), sl20⟩)
    (c20 : PySem.W.codeIn K cd20 "_law_pool" = true) (k20 : PySem.W.keepIn K (.ref f20) = true)
    (a21 : PySem.W.nsIn K mainGlobals "whole_within" = some (some (.ref f21)))
    (l21 : K.lookup f21 = some ⟨oc21, od21, .func (PySem.W.fnOf "whole_within" "whole_within" (defArgs s_whole_within) (defBody s_whole_within) (defScope s_whole_within) .none kV21 dc21 pm21 an21 cd21 ct21), sl21⟩)
    (c21 : PySem.W.codeIn K cd21 "whole_within" = true) (k21 : PySem.W.keepIn K (.ref f21) = true)
    (a22 : PySem.W.nsIn K mainGlobals "may_put" = some (some (.ref f22)))
    (l22 : K.lookup f22 = some ⟨oc22, od22, .func (PySem.W.fnOf "may_put" "may_put" (defArgs s_may_put) (defBody s_may_put) (defScope s_may_put) .none kV22 dc22 pm22 an22 cd22 ct22), sl22⟩)
    (c22 : PySem.W.codeIn K cd22 "may_put" = true) (k22 : PySem.W.keepIn K (.ref f22) = true)
    (a23 : PySem.W.nsIn K mainGlobals "_law_any_right" = some (some (.ref f23)))
    (l23 : K.lookup f23 = some ⟨oc23, od23, .func (PySem.W.fnOf "_law_any_right" "_law_any_right" (defArgs s__law_any_right) (defBody s__law_any_right) (defScope s__law_any_right) .none kV23 dc23 pm23 an23 cd23 ct23), sl23⟩)
    (c23 : PySem.W.codeIn K cd23 "_law_any_right" = true) (k23 : PySem.W.keepIn K (.ref f23) = true)
    (a24 : PySem.W.nsIn K mainGlobals "_law_wish" = some (some (.ref f24)))
    (l24 : K.lookup f24 = some ⟨oc24, od24, .func (PySem.W.fnOf "_law_wish" "_law_wish" (defArgs s__law_wish) (defBody s__law_wish) (defScope s__law_wish) .none kV24 dc24 pm24 an24 cd24 ct24), sl24⟩)
    (c24 : PySem.W.codeIn K cd24 "_law_wish" = true) (k24 : PySem.W.keepIn K (.ref f24) = true)
    (a25 : PySem.W.nsIn K mainGlobals "checked_amounts" = some (some (.ref f25)))
    (l25 : K.lookup f25 = some ⟨oc25, od25, .func (PySem.W.fnOf "checked_amounts" "checked_amounts" (defArgs s_checked_amounts) (defBody s_checked_amounts) (defScope s_checked_amounts) .none kV25 dc25 pm25 an25 cd25 ct25), sl25⟩)
    (c25 : PySem.W.codeIn K cd25 "checked_amounts" = true) (k25 : PySem.W.keepIn K (.ref f25) = true)
    (a26 : PySem.W.nsIn K mainGlobals "check_wish" = some (some (.ref f26)))
    (l26 : K.lookup f26 = some ⟨oc26, od26, .func (PySem.W.fnOf "check_wish" "check_wish" (defArgs s_check_wish) (defBody s_check_wish) (defScope s_check_wish) .none kV26 dc26 pm26 an26 cd26 ct26), sl26⟩)
    (c26 : PySem.W.codeIn K cd26 "check_wish" = true) (k26 : PySem.W.keepIn K (.ref f26) = true)
    (a27 : PySem.W.nsIn K mainGlobals "checked_couple" = some (some (.ref f27)))
    (l27 : K.lookup f27 = some ⟨oc27, od27, .func (PySem.W.fnOf "checked_couple" "checked_couple" (defArgs s_checked_couple) (defBody s_checked_couple) (defScope s_checked_couple) .none kV27 dc27 pm27 an27 cd27 ct27), sl27⟩)
    (c27 : PySem.W.codeIn K cd27 "checked_couple" = true) (k27 : PySem.W.keepIn K (.ref f27) = true)
    (a28 : PySem.W.nsIn K mainGlobals "put_sorted" = some (some (.ref f28)))
    (l28 : K.lookup f28 = some ⟨oc28, od28, .func (PySem.W.fnOf "put_sorted" "put_sorted" (defArgs s_put_sorted) (defBody s_put_sorted) (defScope s_put_sorted) .none kV28 dc28 pm28 an28 cd28 ct28), sl28⟩)
    (c28 : PySem.W.codeIn K cd28 "put_sorted" = true) (k28 : PySem.W.keepIn K (.ref f28) = true)
    (a29 : PySem.W.nsIn K mainGlobals "next_entries" = some (some (.ref f29)))
    (l29 : K.lookup f29 = some ⟨oc29, od29, .func (PySem.W.fnOf "next_entries" "next_entries" (defArgs s_next_entries) (defBody s_next_entries) (defScope s_next_entries) .none kV29 dc29 pm29 an29 cd29 ct29), sl29⟩)
    (c29 : PySem.W.codeIn K cd29 "next_entries" = true) (k29 : PySem.W.keepIn K (.ref f29) = true)
    (a30 : PySem.W.nsIn K mainGlobals "layers_of" = some (some (.ref f30)))
    (l30 : K.lookup f30 = some ⟨oc30, od30, .func (PySem.W.fnOf "layers_of" "layers_of" (defArgs s_layers_of) (defBody s_layers_of) (defScope s_layers_of) .none kV30 dc30 pm30 an30 cd30 ct30), sl30⟩)
    (c30 : PySem.W.codeIn K cd30 "layers_of" = true) (k30 : PySem.W.keepIn K (.ref f30) = true)
    (a31 : PySem.W.nsIn K mainGlobals "earlier_entry" = some (some (.ref f31)))
    (l31 : K.lookup f31 = some ⟨oc31, od31, .func (PySem.W.fnOf "earlier_entry" "earlier_entry" (defArgs s_earlier_entry) (defBody s_earlier_entry) (defScope s_earlier_entry) .none kV31 dc31 pm31 an31 cd31 ct31), sl31⟩)
    (c31 : PySem.W.codeIn K cd31 "earlier_entry" = true) (k31 : PySem.W.keepIn K (.ref f31) = true)
    (a32 : PySem.W.nsIn K mainGlobals "chained_entries" = some (some (.ref f32)))
    (l32 : K.lookup f32 = some ⟨oc32, od32, .func (PySem.W.fnOf "chained_entries" "chained_entries" (defArgs s_chained_entries) (defBody s_chained_entries) (defScope s_chained_entries) .none kV32 dc32 pm32 an32 cd32 ct32), sl32⟩)
    (c32 : PySem.W.codeIn K cd32 "chained_entries" = true) (k32 : PySem.W.keepIn K (.ref f32) = true)
    (a33 : PySem.W.nsIn K mainGlobals "any_split" = some (some (.ref f33)))
    (l33 : K.lookup f33 = some ⟨oc33, od33, .func (PySem.W.fnOf "any_split" "any_split" (defArgs s_any_split) (defBody s_any_split) (defScope s_any_split) .none kV33 dc33 pm33 an33 cd33 ct33), sl33⟩)
    (c33 : PySem.W.codeIn K cd33 "any_split" = true) (k33 : PySem.W.keepIn K (.ref f33) = true)
    (a34 : PySem.W.nsIn K mainGlobals "_law_is_coins" = some (some (.ref f34)))
    (l34 : K.lookup f34 = some ⟨oc34, od34, .func (PySem.W.fnOf "_law_is_coins" "_law_is_coins" (defArgs s__law_is_coins) (defBody s__law_is_coins) (defScope s__law_is_coins) .none kV34 dc34 pm34 an34 cd34 ct34), sl34⟩)
    (c34 : PySem.W.codeIn K cd34 "_law_is_coins" = true) (k34 : PySem.W.keepIn K (.ref f34) = true)
    (a35 : PySem.W.nsIn K mainGlobals "_law_is_split" = some (some (.ref f35)))
    (l35 : K.lookup f35 = some ⟨oc35, od35, .func (PySem.W.fnOf "_law_is_split" "_law_is_split" (defArgs s__law_is_split) (defBody s__law_is_split) (defScope s__law_is_split) .none kV35 dc35 pm35 an35 cd35 ct35), sl35⟩)
    (c35 : PySem.W.codeIn K cd35 "_law_is_split" = true) (k35 : PySem.W.keepIn K (.ref f35) = true)
    (a36 : PySem.W.nsIn K mainGlobals "_law_wishes_right" = some (some (.ref f36)))
    (l36 : K.lookup f36 = some ⟨oc36, od36, .func (PySem.W.fnOf "_law_wishes_right" "_law_wishes_right" (defArgs s__law_wishes_right) (defBody s__law_wishes_right) (defScope s__law_wishes_right) .none kV36 dc36 pm36 an36 cd36 ct36), sl36⟩)
    (c36 : PySem.W.codeIn K cd36 "_law_wishes_right" = true) (k36 : PySem.W.keepIn K (.ref f36) = true)
    (a37 : PySem.W.nsIn K mainGlobals "_law_far_right" = some (some (.ref f37)))
    (l37 : K.lookup f37 = some ⟨oc37, od37, .func (PySem.W.fnOf "_law_far_right" "_law_far_right" (defArgs s__law_far_right) (defBody s__law_far_right) (defScope s__law_far_right) .none kV37 dc37 pm37 an37 cd37 ct37), sl37⟩)
    (c37 : PySem.W.codeIn K cd37 "_law_far_right" = true) (k37 : PySem.W.keepIn K (.ref f37) = true)
    (a38 : PySem.W.nsIn K mainGlobals "law" = some (some (.ref f38)))
    (l38 : K.lookup f38 = some ⟨oc38, od38, .func (PySem.W.fnOf "law" "law" (defArgs s_law) (defBody s_law) (defScope s_law) .none kV38 dc38 pm38 an38 cd38 ct38), sl38⟩)
    (c38 : PySem.W.codeIn K cd38 "law" = true) (k38 : PySem.W.keepIn K (.ref f38) = true)
    (A0 : PySem.W.nsIn K mainGlobals "NoSplit" = some (some (.ref C0)))
    (pg0 : PySem.W.plainGet K C0 Str.empty = true) (hd0 : PySem.W.hasDictIn K C0 = true) (po0 : PySem.W.plainOver K C0 = true) (sa0 : PySem.W.findIn K (.ref C0) "__setattr__" = some (some (.builtin "object.__setattr__")))
    (ha0 : PySem.W.findIn K (.ref C0) "__class__" = some (some (.builtin "object.__class__"))) (hn0 : PySem.W.specialIn K (.builtin "object.__class__") "__get__" = some (some (.builtin "getset_descriptor.__get__"))) (ht0 : PySem.W.takesIn K (.builtin "object.__class__") = some true) (hm0 : PySem.W.mroIn K C0 (.type "object") = some true)
    (ic0 : PySem.W.isClsIn K C0 = true) (ty0 : PySem.W.typeIn K (.ref C0) = some (.type "type"))
    (na0_0 : PySem.W.findIn K (.ref C0) "layers" = some none)
    (m10 : PySem.W.makesIn K C0 = true) (m20 : PySem.W.findIn K (.ref C0) "__init__" = some (some (.ref g0))) (m30 : PySem.W.isFn K (.ref g0) = true) (m40 : PySem.W.keepIn K (.ref C0) = true)
    (L0 : K.lookup g0 = some ⟨Ooc0, Ood0, .func (PySem.W.fnOf "__init__" "NoSplit.__init__" (defArgs s_NoSplit) (defBody s_NoSplit) (defScope s_NoSplit) .none OkV0 Odc0 Opm0 Oan0 Ocd0 Oct0), Osl0⟩) (Oc0 : PySem.W.codeIn K Ocd0 "NoSplit.__init__" = true) (Ok0 : PySem.W.keepIn K (.ref g0) = true)
    (A1 : PySem.W.nsIn K mainGlobals "Unserved" = some (some (.ref C1)))
    (pg1 : PySem.W.plainGet K C1 Str.empty = true) (hd1 : PySem.W.hasDictIn K C1 = true) (po1 : PySem.W.plainOver K C1 = true) (sa1 : PySem.W.findIn K (.ref C1) "__setattr__" = some (some (.builtin "object.__setattr__")))
    (ha1 : PySem.W.findIn K (.ref C1) "__class__" = some (some (.builtin "object.__class__"))) (hn1 : PySem.W.specialIn K (.builtin "object.__class__") "__get__" = some (some (.builtin "getset_descriptor.__get__"))) (ht1 : PySem.W.takesIn K (.builtin "object.__class__") = some true) (hm1 : PySem.W.mroIn K C1 (.type "object") = some true)
    (ic1 : PySem.W.isClsIn K C1 = true) (ty1 : PySem.W.typeIn K (.ref C1) = some (.type "type"))
    (na1_0 : PySem.W.findIn K (.ref C1) "place" = some none)
    (na1_1 : PySem.W.findIn K (.ref C1) "wish" = some none)
    (m11 : PySem.W.makesIn K C1 = true) (m21 : PySem.W.findIn K (.ref C1) "__init__" = some (some (.ref g1))) (m31 : PySem.W.isFn K (.ref g1) = true) (m41 : PySem.W.keepIn K (.ref C1) = true)
    (L1 : K.lookup g1 = some ⟨Ooc1, Ood1, .func (PySem.W.fnOf "__init__" "Unserved.__init__" (defArgs s_Unserved) (defBody s_Unserved) (defScope s_Unserved) .none OkV1 Odc1 Opm1 Oan1 Ocd1 Oct1), Osl1⟩) (Oc1 : PySem.W.codeIn K Ocd1 "Unserved.__init__" = true) (Ok1 : PySem.W.keepIn K (.ref g1) = true)
    (z_abs : PySem.W.nsIn K mainGlobals "abs" = some none)
    (z_bool : PySem.W.nsIn K mainGlobals "bool" = some none)
    (z_divmod : PySem.W.nsIn K mainGlobals "divmod" = some none)
    (z_enumerate : PySem.W.nsIn K mainGlobals "enumerate" = some none)
    (z_int : PySem.W.nsIn K mainGlobals "int" = some none)
    (z_isinstance : PySem.W.nsIn K mainGlobals "isinstance" = some none)
    (z_len : PySem.W.nsIn K mainGlobals "len" = some none)
    (z_list : PySem.W.nsIn K mainGlobals "list" = some none)
    (z_max : PySem.W.nsIn K mainGlobals "max" = some none)
    (z_range : PySem.W.nsIn K mainGlobals "range" = some none)
    (z_sorted : PySem.W.nsIn K mainGlobals "sorted" = some none)
    (z_sum : PySem.W.nsIn K mainGlobals "sum" = some none)
    (z_tuple : PySem.W.nsIn K mainGlobals "tuple" = some none)
    (z_zip : PySem.W.nsIn K mainGlobals "zip" = some none)
    (v_MOST_AMOUNT : PySem.W.nsIn K mainGlobals "MOST_AMOUNT" = some (some (.int 12000000000 q_MOST_AMOUNT)))
    (v_MOST_COINS : PySem.W.nsIn K mainGlobals "MOST_COINS" = some (some (.int 12 q_MOST_COINS)))
    (v_MOST_ENTRIES : PySem.W.nsIn K mainGlobals "MOST_ENTRIES" = some (some (.int 400 q_MOST_ENTRIES)))
    (v_MOST_PEOPLE : PySem.W.nsIn K mainGlobals "MOST_PEOPLE" = some (some (.int 5 q_MOST_PEOPLE)))
    (v_MOST_WORTH : PySem.W.nsIn K mainGlobals "MOST_WORTH" = some (some (.int 1000000000 q_MOST_WORTH))) :
    ∃ fd : FuncData, (∀ (s : Shared) (v : Value), BindsTo s fd ⟨[v], []⟩ [("_law_script", v)]) ∧ ∀ base : Heap, K.In base → base.Ns mainGlobals mg → FnOk l.prog w K mg base CX0 9 fa fd ["_law_script"] (spLaw K) := by
  have nas0 : ∀ n ∈ (["layers"] : List Str), NoAttr K C0 n := fun n hn => by
    simp only [List.mem_cons, List.not_mem_nil, or_false] at hn
    subst hn
    exact na0_0
  have nas1 : ∀ n ∈ (["place", "wish"] : List Str), NoAttr K C1 n := fun n hn => by
    simp only [List.mem_cons, List.not_mem_nil, or_false] at hn
    rcases hn with rfl | rfl
    · exact na1_0
    · exact na1_1
  have t : Txt K mg ⟨fun c => if c = 0 then some (C0, ["layers"]) else if c = 1 then some (C1, ["place", "wish"]) else none⟩ := ⟨lies_mk X G a0 l0 c0 k0,
    lies_mk X G a1 l1 c1 k1,
    lies_mk X G a2 l2 c2 k2,
    lies_mk X G a3 l3 c3 k3,
    liesD_mk (its := [.int 1 tk4_0]) X G a4 l4 c4 k4 lT4 rfl (.cons ⟨_, rfl⟩ (.nil)) (by simp),
    lies_mk X G a5 l5 c5 k5,
    lies_mk X G a6 l6 c6 k6,
    lies_mk X G a7 l7 c7 k7,
    lies_mk X G a8 l8 c8 k8,
    lies_mk X G a9 l9 c9 k9,
    lies_mk X G a10 l10 c10 k10,
    lies_mk X G a11 l11 c11 k11,
    lies_mk X G a12 l12 c12 k12,
    lies_mk X G a13 l13 c13 k13,
    lies_mk X G a14 l14 c14 k14,
    lies_mk X G a15 l15 c15 k15,
    lies_mk X G a16 l16 c16 k16,
    lies_mk X G a17 l17 c17 k17,
    lies_mk X G a18 l18 c18 k18,
    lies_mk X G a19 l19 c19 k19,
    lies_mk X G a20 l20 c20 k20,
    lies_mk X G a21 l21 c21 k21,
    lies_mk X G a22 l22 c22 k22,
    lies_mk X G a23 l23 c23 k23,
    lies_mk X G a24 l24 c24 k24,
    lies_mk X G a25 l25 c25 k25,
    lies_mk X G a26 l26 c26 k26,
    lies_mk X G a27 l27 c27 k27,
    lies_mk X G a28 l28 c28 k28,
    lies_mk X G a29 l29 c29 k29,
    lies_mk X G a30 l30 c30 k30,
    lies_mk X G a31 l31 c31 k31,
    lies_mk X G a32 l32 c32 k32,
    lies_mk X G a33 l33 c33 k33,
    lies_mk X G a34 l34 c34 k34,
    lies_mk X G a35 l35 c35 k35,
    lies_mk X G a36 l36 c36 k36,
    lies_mk X G a37 l37 c37 k37,
    lies_mk X G a38 l38 c38 k38,
    liesC_mk X G A0 (clsOk_mk ⟨pg0, hd0, po0, sa0⟩ ha0 hn0 ht0 hm0 ic0 ty0) (by rfl) (nas0) m10 m20 m30 m40 L0 Oc0 Ok0,
    liesC_mk X G A1 (clsOk_mk ⟨pg1, hd1, po1, sa1⟩ ha1 hn1 ht1 hm1 ic1 ty1) (by rfl) (nas1) m11 m21 m31 m41 L1 Oc1 Ok1,
    PySem.W.mg_none_of X G z_abs,
    PySem.W.mg_none_of X G z_bool,
    PySem.W.mg_none_of X G z_divmod,
    PySem.W.mg_none_of X G z_enumerate,
    PySem.W.mg_none_of X G z_int,
    PySem.W.mg_none_of X G z_isinstance,
    PySem.W.mg_none_of X G z_len,
    PySem.W.mg_none_of X G z_list,
    PySem.W.mg_none_of X G z_max,
    PySem.W.mg_none_of X G z_range,
    PySem.W.mg_none_of X G z_sorted,
    PySem.W.mg_none_of X G z_sum,
    PySem.W.mg_none_of X G z_tuple,
    PySem.W.mg_none_of X G z_zip,
    const_mk X G v_MOST_AMOUNT,
    const_mk X G v_MOST_COINS,
    const_mk X G v_MOST_ENTRIES,
    const_mk X G v_MOST_PEOPLE,
    const_mk X G v_MOST_WORTH⟩
  have e := hfa.symm.trans (PySem.W.mg_of X G a38)
  cases e
  exact ⟨PySem.W.fnOf "law" "law" (defArgs s_law) (defBody s_law) (defScope s_law) .none kV38 dc38 pm38 an38 cd38 ct38, fun s v => .of_eq rfl, fun base _ _ => ok_law t (fun_mk l38 c38 k38) hl⟩
end K76
end

section
set_option linter.all false
set_option maxRecDepth 100000
set_option maxHeartbeats 1000000
namespace K76
open Fl PySem
theorem m_is_whole (i lo hi : Int) : F_is_whole [.int i, .int lo, .int hi] = some (.sh (.bl (decide (lo ≤ i ∧ i ≤ hi)))) := by
  by_cases h1 : lo ≤ i <;> simp [F_is_whole, f_is_whole, isB, okN, h1]
theorem m_whole_within (i lo hi : Int) : F_whole_within [.int i, .int lo, .int hi] = some (.sh (.bl (decide (lo ≤ i ∧ i ≤ hi)))) := by
  by_cases h1 : lo ≤ i <;> simp [F_whole_within, f_whole_within, isB, okN, h1]
theorem m_next_room (t p : Int) (h : 1 < p) (h2 : p ≤ 5) : F_next_room [.int t, .int p] = some (.sh (.int (t / (p - 1) + 1))) := by
  simp [F_next_room, f_next_room, h, show p - 1 < 18446744073709551616 by omega]
theorem m_law_next (t p : Int) (h : 1 < p) (h2 : p ≤ 5) : F__law_next [.int t, .int p] = some (.sh (.int (t / (p - 1) + 1))) := by
  simp [F__law_next, f__law_next, h, show p - 1 < 18446744073709551616 by omega]
theorem m_check_people (p lo : Int) (h : lo ≤ p) (h2 : p ≤ 5) : F_check_people [.int p, .int lo] = some (.sh (.int p)) := by
  simp [F_check_people, f_check_people, m_is_whole, h, h2]
theorem m_is_sequence (d : D) (l : List D) (h : dSeq d = some l) (lo hi : Int) : F_is_sequence [d, .int lo, .int hi] = some (.sh (.bl (decide (lo ≤ l.length ∧ (l.length : Int) ≤ hi)))) := by
  cases d with
  | tup m => simp at h; subst h; by_cases h1 : lo ≤ m.length <;> simp [F_is_sequence, f_is_sequence, isB, okN, h1]
  | lst m => simp at h; subst h; by_cases h1 : lo ≤ m.length <;> simp [F_is_sequence, f_is_sequence, isB, okN, h1]
  | _ => simp at h
def okCoins (ns : List Int) : Prop := ns.length ≤ 12 ∧ ∀ n ∈ ns, 1 ≤ n ∧ n ≤ 1000000000
theorem okCoins.sort {ns : List Int} (h : okCoins ns) : okCoins (sortI ns) := ⟨by rw [sortI_len]; exact h.1, fun n hn => h.2 n (sortI_mem.mp hn)⟩
theorem loop_check (x : Option Slot) : ∀ (ns : List Int) (k : Nat) (a b : Option Slot), (∀ n ∈ ns, 1 ≤ n ∧ n ≤ 1000000000) →
    ∃ a' b', forL t_check_pool_0 b_check_pool_1 (enumL k (ns.map D.int)) [x, a, b] = some (.nx [x, a', b'])
  | [], k, a, b, _ => ⟨a, b, by simp [enumL, forL]⟩
  | n :: ns, k, a, b, h => by
    obtain ⟨a', b', e⟩ := loop_check x ns (k + 1) (some (.sh (.int (k : Nat)))) (some (.sh (.int n))) fun m hm => h m (by simp [hm])
    have hn := h n (by simp)
    refine ⟨a', b', ?_⟩
    rw [← e]
    simp [enumL, forL, t_check_pool_0, b_check_pool_1, m_is_whole, hn.1, hn.2]
theorem m_check_pool (d : D) (ns : List Int) (hd : dSeq d = some (ns.map .int)) (ok : okCoins ns) : F_check_pool [d] = some (.sh (.tup ((sortI ns).map .int))) := by
  have hl : (ns.length : Int) ≤ 12 := by have := ok.1; omega
  obtain ⟨a', b', e⟩ := loop_check (some (.sh d)) ns 0 none none ok.2
  cases d with
  | tup m => simp at hd; subst hd; simp [F_check_pool, f_check_pool, m_is_sequence, hl, e, canSort_ints ns (by omega), isort_ints]
  | lst m => simp at hd; subst hd; simp [F_check_pool, f_check_pool, m_is_sequence, hl, e, canSort_ints ns (by omega), isort_ints]
  | _ => simp at hd
/-! ### the fitting range -/
def frL (p : Int) : List Int → Int → Int → Option Int → Int × Int × Option Int
  | [], r, lo, hi => (r, lo, hi)
  | c :: cs, r, lo, hi => if r / (p - 1) + 1 < c then frL p cs (r + c) (if lo < (p - 1) * (c - 1) - r then (p - 1) * (c - 1) - r else lo) (some (hi.getD (r / (p - 1) + 1))) else frL p cs (r + c) lo hi
def optD : Option Int → D
  | none => .non
  | some i => .int i
theorem loop_fit (p : Int) (h : 1 < p) (h2 : p ≤ 5) (x : Option Slot) : ∀ (cs : List Int) (r lo : Int) (hi : Option Int) (a : Option Slot),
    ∃ a', forL t_fitting_range_0 b_fitting_range_1 (cs.map D.int) [x, some (.sh (.int p)), some (.sh (.int r)), some (.sh (.int lo)), some (.sh (optD hi)), a] =
      some (.nx [x, some (.sh (.int p)), some (.sh (.int (frL p cs r lo hi).1)), some (.sh (.int (frL p cs r lo hi).2.1)), some (.sh (optD (frL p cs r lo hi).2.2)), a'])
  | [], r, lo, hi, a => ⟨a, by simp [forL, frL]⟩
  | c :: cs, r, lo, hi, a => by
    by_cases hc : r / (p - 1) + 1 < c
    · obtain ⟨a', e⟩ := loop_fit p h h2 x cs (r + c) (if lo < (p - 1) * (c - 1) - r then (p - 1) * (c - 1) - r else lo) (some (hi.getD (r / (p - 1) + 1))) (some (.sh (.int c)))
      refine ⟨a', ?_⟩
      simp only [frL, if_pos hc]
      rw [← e]
      cases hi <;> simp [forL, t_fitting_range_0, b_fitting_range_1, m_next_room, h, h2, hc, optD, show -18446744073709551616 < p - 1 by omega, show p - 1 < 18446744073709551616 by omega]
    · obtain ⟨a', e⟩ := loop_fit p h h2 x cs (r + c) lo hi (some (.sh (.int c)))
      refine ⟨a', ?_⟩
      simp only [frL, if_neg hc]
      rw [← e]
      simp [forL, t_fitting_range_0, b_fitting_range_1, m_next_room, h, h2, hc]
def fitR (p : Int) (cs : List Int) : Option (Int × Int) :=
  let s := frL p cs 0 1 none
  let hi := s.2.2.getD (s.1 / (p - 1) + 1)
  if hi < s.2.1 then none else some (s.2.1, hi)
def pairD : Option (Int × Int) → D
  | none => .non
  | some (a, b) => .tup [.int a, .int b]
theorem m_fitting_range (p : Int) (h : 1 < p) (h2 : p ≤ 5) (cs : List Int) : F_fitting_range [.tup (cs.map .int), .int p] = some (.sh (pairD (fitR p cs))) := by
  obtain ⟨a', e⟩ := loop_fit p h h2 (some (.sh (.tup (cs.map .int)))) cs 0 1 none none
  simp [optD] at e
  unfold fitR
  generalize frL p cs 0 1 none = s at *
  obtain ⟨r, lo, hi⟩ := s
  cases hi with
  | none =>
    by_cases hh : r / (p - 1) + 1 < lo <;> simp [F_fitting_range, f_fitting_range, e, optD, m_next_room, h, h2, hh, pairD, many]
  | some hi =>
    by_cases hh : hi < lo <;> simp [F_fitting_range, f_fitting_range, e, optD, h, h2, hh, pairD, many]
theorem m_fitting_coins (p : Int) (h : 1 < p) (h2 : p ≤ 5) (d : D) (ns : List Int) (hd : dSeq d = some (ns.map .int)) (ok : okCoins ns) : F_fitting_coins [d, .int p] = some (.sh (pairD (fitR p (sortI ns)))) := by
  simp [F_fitting_coins, f_fitting_coins, m_check_pool d ns hd ok, m_check_people p 2 (by omega) h2, m_fitting_range p h h2]
theorem m_next_coin (p : Int) (h : 1 < p) (h2 : p ≤ 5) (d : D) (ns : List Int) (hd : dSeq d = some (ns.map .int)) (ok : okCoins ns) : F_next_coin [d, .int p] = some (.sh (match fitR p (sortI ns) with | none => .non | some (_, b) => .int b)) := by
  cases e : fitR p (sortI ns) with
  | none => simp [F_next_coin, f_next_coin, m_fitting_coins p h h2 d ns hd ok, e, pairD]
  | some ab => obtain ⟨a, b⟩ := ab; simp [F_next_coin, f_next_coin, m_fitting_coins p h h2 d ns hd ok, e, pairD, L2.atI, L2.ixN]
theorem m_may_put (p : Int) (h : 1 < p) (h2 : p ≤ 5) (d : D) (ns : List Int) (hd : dSeq d = some (ns.map .int)) (ok : okCoins ns) (c : Int) (hc : 1 ≤ c) (hc2 : c ≤ 1000000000) : F_may_put [d, .int c, .int p] = some (.sh (.bl (match fitR p (sortI ns) with | none => false | some (a, b) => decide (a ≤ c ∧ c ≤ b)))) := by
  cases e : fitR p (sortI ns) with
  | none => simp [F_may_put, f_may_put, m_check_pool d ns hd ok, m_check_people p 2 (by omega) h2, m_fitting_range p h h2, e, pairD, m_whole_within, hc, hc2]
  | some ab =>
    obtain ⟨a, b⟩ := ab
    by_cases hh : a ≤ c <;> simp [F_may_put, f_may_put, m_check_pool d ns hd ok, m_check_people p 2 (by omega) h2, m_fitting_range p h h2, e, pairD, m_whole_within, hc, hc2, L2.atI, L2.ixN, hh]
end K76
end

section
set_option linter.all false
set_option maxRecDepth 100000
set_option maxHeartbeats 1000000
namespace K76
open Fl PySem
theorem atI_nat' {α : Type} (l : List α) (k : Nat) : L2.atI l (k : Int) = l[k]? := by
  unfold L2.atI L2.ixN
  by_cases h : k < l.length
  · simp [h]
  · simp [h, List.getElem?_eq_none (Nat.not_lt.mp h)]
theorem m_parted_up (t p : Int) (h : 0 < p) (h2 : p ≤ 5) : F_parted_up [.int t, .int p] = some (.sh (.int (-(-t / p)))) := by
  simp [F_parted_up, f_parted_up, h, show p < 18446744073709551616 by omega]
def psums : Int → List Int → List Int
  | _, [] => []
  | r, c :: cs => (r + c) :: psums (r + c) cs
theorem psums_len : ∀ (cs : List Int) (r : Int), (psums r cs).length = cs.length
  | [], _ => rfl
  | c :: cs, r => by simp [psums, psums_len cs]
theorem loop_sums (x : Option Slot) : ∀ (cs out : List Int) (r : Int) (a : Option Slot), out.length + cs.length < 1000000 →
    ∃ a', forL t_running_sums_0 b_running_sums_1 (cs.map D.int) [x, some (.own true (.lst (out.map D.int))), some (.sh (.int r)), a] =
      some (.nx [x, some (.own true (.lst ((out ++ psums r cs).map D.int))), some (.sh (.int (r + cs.sum))), a'])
  | [], out, r, a, _ => ⟨a, by simp [forL, psums]⟩
  | c :: cs, out, r, a, h => by
    obtain ⟨a', e⟩ := loop_sums x cs (out ++ [r + c]) (r + c) (some (.sh (.int c))) (by simp at h ⊢; omega)
    refine ⟨a', ?_⟩
    simp at h
    simp [psums, Int.add_assoc] at e ⊢
    rw [← e]
    simp [forL, t_running_sums_0, b_running_sums_1, many, show out.length < 1000000 by omega]
theorem noLs_ints : ∀ l : List Int, noLs (l.map D.int) = true
  | [] => rfl
  | x :: l => by simp [noLs, noL, noLs_ints l]
theorem noL_tup (l : List Int) : noL (.tup (l.map D.int)) = true := by simp [noL, noLs_ints]
theorem m_running_sums (cs : List Int) (h : cs.length ≤ 1000) : F_running_sums [.tup (cs.map .int)] = some (.sh (.tup ((psums 0 cs).map .int))) := by
  obtain ⟨a', e⟩ := loop_sums (some (.sh (.tup (cs.map .int)))) cs [] 0 none (by simp; omega)
  simp at e
  simp [F_running_sums, f_running_sums, e, noL, noLs_ints, many]
def failL (p : Int) : List Int → Nat → Int → List Int
  | [], _, _ => []
  | c :: cs, k, r => if -(-(r + c) / p) < c then (k : Int) :: failL p cs (k + 1) (r + c) else failL p cs (k + 1) (r + c)
theorem loop_fail (p : Int) (h : 0 < p) (h2 : p ≤ 5) (x y : D) (sums : List Int) : ∀ (cs : List Int) (k : Nat) (r : Int), sums.drop k = psums r cs →
    lcL t_failing_places_0 c_failing_places_1 e_failing_places_2 [4, 5] (enumL k (cs.map D.int)) [some (.sh x), some (.sh (.int p)), some (.sh y), some (.sh (.tup (sums.map .int))), none, none] =
      some ((failL p cs k r).map D.int, [some (.sh x), some (.sh (.int p)), some (.sh y), some (.sh (.tup (sums.map .int))), none, none])
  | [], k, r, _ => by simp [enumL, lcL, failL]
  | c :: cs, k, r, hd => by
    have hk : sums[k]? = some (r + c) := by
      have : (sums.drop k)[0]? = some (r + c) := by rw [hd]; simp [psums]
      simpa using this
    have hd2 : sums.drop (k + 1) = psums (r + c) cs := by
      have : (sums.drop k).drop 1 = psums (r + c) cs := by rw [hd]; simp [psums]
      simpa [List.drop_drop] using this
    have e := loop_fail p h h2 x y sums cs (k + 1) (r + c) hd2
    simp [t_failing_places_0, c_failing_places_1, e_failing_places_2] at e
    by_cases hc : -(-(r + c) / p) < c
    · simp [enumL, lcL, noOwn, noOwn1, wipeF, backF, t_failing_places_0, c_failing_places_1, e_failing_places_2, atI_nat', hk, m_parted_up, h, h2, hc, failL, e]
    · simp [enumL, lcL, noOwn, noOwn1, wipeF, backF, t_failing_places_0, c_failing_places_1, e_failing_places_2, atI_nat', hk, m_parted_up, h, h2, hc, failL, e]
theorem failL_len (p : Int) : ∀ (cs : List Int) (k : Nat) (r : Int), (failL p cs k r).length ≤ cs.length
  | [], _, _ => Nat.le_refl _
  | c :: cs, k, r => by
    have := failL_len p cs (k + 1) (r + c)
    simp only [failL]
    split
    · simp; omega
    · simp; omega
theorem enumL_ints_len (k : Nat) (cs : List Int) : (enumL k (cs.map D.int)).length = cs.length := by rw [enumL_len]; simp
theorem m_failing_places (p : Int) (h : 1 ≤ p) (h2 : p ≤ 5) (d : D) (ns : List Int) (hd : dSeq d = some (ns.map .int)) (ok : okCoins ns) : F_failing_places [d, .int p] = some (.sh (.tup ((failL p (sortI ns) 0 0).map .int))) := by
  have e := loop_fail p (by omega) h2 d (.tup ((sortI ns).map .int)) (psums 0 (sortI ns)) (sortI ns) 0 0 (by simp)
  have hl := (ok.sort).1
  simp [F_failing_places, f_failing_places, m_check_pool d ns hd ok, m_check_people p 1 h h2, m_running_sums (sortI ns) (by omega), e, enumL_ints_len, many, show (sortI ns).length < 1000000 by omega]
def evenly (a q : Int) : List Int := (List.range q.toNat).map fun (i : Nat) => if (i : Int) < a % q then a / q + 1 else a / q
theorem loop_even (x y : D) (each more : Int) : ∀ (ks : List Int),
    lcL t_parted_evenly_0 c_parted_evenly_1 e_parted_evenly_2 [4] (ks.map D.int) [some (.sh x), some (.sh y), some (.sh (.int each)), some (.sh (.int more)), none] =
      some ((ks.map fun i => if i < more then each + 1 else each).map D.int, [some (.sh x), some (.sh y), some (.sh (.int each)), some (.sh (.int more)), none])
  | [] => by simp [lcL]
  | k :: ks => by
    have e := loop_even x y each more ks
    simp [t_parted_evenly_0, c_parted_evenly_1, e_parted_evenly_2] at e
    by_cases hc : k < more
    · simp [lcL, noOwn, noOwn1, wipeF, backF, t_parted_evenly_0, c_parted_evenly_1, e_parted_evenly_2, hc, e]
    · simp [lcL, noOwn, noOwn1, wipeF, backF, t_parted_evenly_0, c_parted_evenly_1, e_parted_evenly_2, hc, e]
theorem rngL_map (n : Nat) : rngL 0 n = ((List.range n).map fun i => ((i : Nat) : Int)).map D.int := by
  unfold rngL
  simp
theorem m_parted_evenly (a q : Int) (h : 1 ≤ q) (h2 : q ≤ 5) : F_parted_evenly [.int a, .int q] = some (.sh (.tup ((evenly a q).map .int))) := by
  have e := loop_even (.int a) (.int q) (a / q) (a % q) ((List.range q.toNat).map fun i => ((i : Nat) : Int))
  rw [← rngL_map] at e
  have hs : small q = true := by unfold small; exact decide_eq_true (by omega)
  simp [F_parted_evenly, f_parted_evenly, show 0 < q by omega, show q < 1073741824 by omega, hs, e, rngL_len, many, show q.toNat < 1000000 by omega, evenly]
end K76
end

section
set_option linter.all false
set_option maxRecDepth 100000
set_option maxHeartbeats 1000000
namespace K76
open Fl PySem
theorem sortI_sortI (l : List Int) : sortI (sortI l) = sortI l := sortI_id (sortI_sorted l)
theorem failL_nat (p : Int) : ∀ (cs : List Int) (k : Nat) (r : Int), ∀ z ∈ failL p cs k r, ∃ j : Nat, z = (j : Int) ∧ k ≤ j ∧ j < k + cs.length
  | [], _, _, z, h => by simp [failL] at h
  | c :: cs, k, r, z, h => by
    simp only [failL] at h
    split at h
    · rcases List.mem_cons.mp h with h | h
      · exact ⟨k, h, Nat.le_refl _, by simp⟩
      · obtain ⟨j, e, h1, h2⟩ := failL_nat p cs (k + 1) (r + c) z h
        exact ⟨j, e, by omega, by simp; omega⟩
    · obtain ⟨j, e, h1, h2⟩ := failL_nat p cs (k + 1) (r + c) z h
      exact ⟨j, e, by omega, by simp; omega⟩
def wishS (p : Int) (cs : List Int) (k : Nat) : List Int :=
  (-(-(cs.take (k + 1)).sum / p) + (cs.drop (k + 1)).sum) :: evenly ((cs.take (k + 1)).sum - -(-(cs.take (k + 1)).sum / p)) (p - 1)
def serveD (p : Int) (cs : List Int) : D := match failL p cs 0 0 with
  | [] => .non
  | k :: _ => .obj 1 [.int k, .tup ((wishS p cs k.toNat).map .int)]
theorem cut_take (l : List D) (k : Nat) (h : k < l.length) : cutD l none (some ((k : Int) + 1)) = l.take (k + 1) := by
  unfold cutD
  have : HT.sIx l.length l.length (some ((k : Int) + 1)) = k + 1 := by
    have := HT.sIx_nat l.length l.length (k + 1)
    rw [show ((k + 1 : Nat) : Int) = (k : Int) + 1 by omega] at this
    rw [this]
    omega
  rw [this, HT.sIx_none]
  simp
theorem cut_drop (l : List D) (k : Nat) (h : k < l.length) : cutD l (some ((k : Int) + 1)) none = l.drop (k + 1) := by
  unfold cutD
  have : HT.sIx l.length 0 (some ((k : Int) + 1)) = k + 1 := by
    have := HT.sIx_nat l.length 0 (k + 1)
    rw [show ((k + 1 : Nat) : Int) = (k : Int) + 1 by omega] at this
    rw [this]
    omega
  rw [this, HT.sIx_none]
  rw [List.take_of_length_le (by simp)]
theorem asI_take (l : List Int) (n : Nat) : asI ((l.map D.int).take n) = some (l.take n) := by rw [← List.map_take]; exact asI_map _
theorem asI_drop (l : List Int) (n : Nat) : asI ((l.map D.int).drop n) = some (l.drop n) := by rw [← List.map_drop]; exact asI_map _
theorem evenly_len (a q : Int) : (evenly a q).length = q.toNat := by simp [evenly]
theorem m_serves (p : Int) (h : 2 ≤ p) (h2 : p ≤ 5) (d : D) (ns : List Int) (hd : dSeq d = some (ns.map .int)) (ok : okCoins ns) : F_serves [d, .int p] = some (.sh (serveD p (sortI ns))) := by
  have hl := (ok.sort).1
  have ef := m_failing_places p (by omega) h2 (.tup ((sortI ns).map .int)) (sortI ns) rfl ok.sort
  rw [sortI_sortI] at ef
  unfold serveD
  cases e : failL p (sortI ns) 0 0 with
  | nil =>
    rw [e] at ef
    simp [F_serves, f_serves, m_check_pool d ns hd ok, ef]
  | cons z rest =>
    rw [e] at ef
    obtain ⟨k, rfl, _, hk⟩ := failL_nat p (sortI ns) 0 0 z (by rw [e]; simp)
    have hk' : k < ((sortI ns).map D.int).length := by simp; omega
    have q1 := cut_take ((sortI ns).map D.int) k hk'
    have q2 := cut_drop ((sortI ns).map D.int) k hk'
    simp [F_serves, f_serves, m_check_pool d ns hd ok, ef, L2.atI, L2.ixN, q1, q2, asI_take, asI_drop, m_parted_up, show 0 < p by omega, h2, m_parted_evenly _ (p - 1) (by omega) (by omega), evenly_len, many, wishS, show 1 + (p - 1).toNat ≤ 1000000 by omega, show 1 + (p.toNat - 1) ≤ 1000000 by omega]
end K76
end

section
set_option linter.all false
set_option maxRecDepth 100000
set_option maxHeartbeats 1000000
namespace K76
open Fl PySem
theorem m_law_mix (n t : Int) : ∃ r, F__law_mix [.int n, .int t] = some (.sh (.int r)) := by
  have h1 : ∀ z : Int, -18446744073709551616 < z % 2147483647 ∧ z % 2147483647 < 18446744073709551616 := fun z => by
    have := Int.emod_nonneg z (show (2147483647 : Int) ≠ 0 by decide)
    have := Int.emod_lt_of_pos z (show (0 : Int) < 2147483647 by decide)
    omega
  have h2 : ∀ z : Int, -18446744073709551616 < z % 2147483399 ∧ z % 2147483399 < 18446744073709551616 := fun z => by
    have := Int.emod_nonneg z (show (2147483399 : Int) ≠ 0 by decide)
    have := Int.emod_lt_of_pos z (show (0 : Int) < 2147483399 by decide)
    omega
  simp [F__law_mix, f__law_mix, h1, h2]
def hdO (cells : List Int) (pos : Nat) (rest tot : Int) : O := .lst [.lst (cells.map .int), .int (pos : Int), .int rest, .int tot]
theorem m_law_draw (cells : List Int) (pos : Nat) (rest tot many : Int) (hm : 0 < many) (hm2 : many < 18446744073709551616) :
    ∃ (d : Int) (pos' : Nat) (rest' tot' : Int), F__law_draw [] (hdO cells pos rest tot) [.int many] = some (.sh (.int d), hdO cells pos' rest' tot') ∧ 0 ≤ d ∧ d < many := by
  have md : ∀ z : Int, 0 ≤ z % many ∧ z % many < many := fun z => ⟨Int.emod_nonneg z (by omega), Int.emod_lt_of_pos z hm⟩
  by_cases h4 : 0 < rest
  · have h1 : ¬ rest = 0 := by omega
    refine ⟨rest % many, pos, rest / many, tot, ?_, md _⟩
    simp [F__law_draw, f__law_draw, hdO, L2.atI, L2.ixN, noL, fit, eqD, h1, h4, hm, hm2]
  · by_cases h1 : rest = 0 ∧ pos < cells.length
    · obtain ⟨h1, h2⟩ := h1
      have hc : L2.atI (cells.map D.int) (pos : Int) = some (.int cells[pos]) := by
        rw [atI_nat', List.getElem?_map, List.getElem?_eq_getElem h2]
        rfl
      by_cases h3 : cells[pos] < 1000000000000000000
      · obtain ⟨r, hr⟩ := m_law_mix (cells[pos] % 2147483647) ((pos : Int) + 1)
        refine ⟨r % many, pos + 1, rest, tot, ?_, md _⟩
        subst h1
        simp [F__law_draw, f__law_draw, hdO, hc, L2.atI, L2.ixN, noL, fit, eqD, h2, h3, hm, hr]
      · refine ⟨cells[pos] % many, pos + 1, cells[pos] / many, tot, ?_, md _⟩
        subst h1
        simp [F__law_draw, f__law_draw, hdO, hc, L2.atI, L2.ixN, noL, fit, eqD, h2, h3, hm, hm2, show 0 < cells[pos] by omega]
    · obtain ⟨r, hr⟩ := m_law_mix ((tot + 1) % 2147483629) (pos : Int)
      refine ⟨r % many, pos, rest, (tot + 1) % 2147483629, ?_, md _⟩
      by_cases h1' : rest = 0
      · have h2 : ¬ pos < cells.length := fun z => h1 ⟨h1', z⟩
        subst h1'
        simp [F__law_draw, f__law_draw, hdO, L2.atI, L2.ixN, noL, fit, eqD, h2, hm, hr]
      · simp [F__law_draw, f__law_draw, hdO, L2.atI, L2.ixN, noL, fit, eqD, h1', h4, hm, hr]
end K76
end

section
set_option linter.all false
set_option maxRecDepth 100000
set_option maxHeartbeats 1000000
namespace K76
open Fl PySem
theorem frL_ok {p : Int} : ∀ {l : List Int} {r lo : Int} {hi : Option Int}, okL p r l → frL p l r lo hi = (r + l.sum, lo, hi)
  | [], r, lo, hi, _ => by simp [frL]
  | c :: cs, r, lo, hi, ⟨h1, h2, h3⟩ => by
    unfold frL
    rw [if_neg (by omega), frL_ok h3, List.sum_cons, Int.add_assoc]
theorem fitR_ok {p : Int} (hp : 2 ≤ p) {l : List Int} (h : okL p 0 l) : fitR p l = some (1, l.sum / (p - 1) + 1) := by
  have h0 := sum_nonneg (okL_pos h)
  have h1 : 0 ≤ l.sum / (p - 1) := Int.ediv_nonneg h0 (by omega)
  unfold fitR
  rw [frL_ok h]
  simp
  omega
theorem ceil_room {p r c : Int} (hp : 2 ≤ p) (hp5 : p ≤ 5) : -(-(r + c) / p) < c ↔ r / (p - 1) + 1 < c := by
  have : p = 2 ∨ p = 3 ∨ p = 4 ∨ p = 5 := by omega
  rcases this with rfl | rfl | rfl | rfl <;> omega
theorem failL_ok {p : Int} (hp : 2 ≤ p) (hp5 : p ≤ 5) : ∀ {l : List Int} {r : Int} {k : Nat}, okL p r l → failL p l k r = []
  | [], _, _, _ => rfl
  | c :: cs, r, k, ⟨h1, h2, h3⟩ => by
    unfold failL
    rw [if_neg (by rw [ceil_room hp hp5]; omega)]
    exact failL_ok hp hp5 h3
theorem failL_bad {p : Int} (hp : 2 ≤ p) (hp5 : p ≤ 5) : ∀ {l : List Int} {r : Int} {k : Nat}, (∀ c ∈ l, 1 ≤ c) → failL p l k r = [] → okL p r l
  | [], _, _, _, _ => True.intro
  | c :: cs, r, k, h, e => by
    unfold failL at e
    split at e
    · cases e
    · rename_i hc
      rw [ceil_room hp hp5] at hc
      exact ⟨h c (by simp), by omega, failL_bad hp hp5 (fun d hd => h d (by simp [hd])) e⟩
def isUn : D → Bool
  | .obj 1 _ => true
  | _ => false
theorem serveD_good {p : Int} (hp : 2 ≤ p) (hp5 : p ≤ 5) {l : List Int} (h : okL p 0 l) : serveD p l = .non := by
  unfold serveD
  rw [failL_ok hp hp5 h]
theorem serveD_bad {p : Int} (hp : 2 ≤ p) (hp5 : p ≤ 5) {l : List Int} (hc : ∀ c ∈ l, 1 ≤ c) (h : ¬ okL p 0 l) : ∃ k w, serveD p l = .obj 1 [.int k, .tup w] := by
  unfold serveD
  cases e : failL p l 0 0 with
  | nil => exact absurd (failL_bad hp hp5 hc e) h
  | cons z r => exact ⟨_, _, rfl⟩
/-! ### what may be put -/
theorem frL_hi (p : Int) : ∀ (l : List Int) (r lo h : Int), (frL p l r lo (some h)).2.2 = some h
  | [], _, _, _ => rfl
  | c :: cs, r, lo, h => by
    unfold frL
    split
    · exact frL_hi p cs _ _ _
    · exact frL_hi p cs _ _ _
theorem need_iff {p r c y : Int} (hp : 2 ≤ p) : (p - 1) * (y - 1) - r ≤ c ↔ y ≤ (r + c) / (p - 1) + 1 := by
  have h := Int.le_ediv_iff_mul_le (a := y - 1) (b := r + c) (show 0 < p - 1 by omega)
  rw [Int.mul_comm] at h
  omega
theorem frL_lo {p : Int} (hp : 2 ≤ p) {c : Int} (hc : 1 ≤ c) : ∀ (l : List Int) (r lo h : Int), (∀ y ∈ l, 1 ≤ y) → ((frL p l r lo (some h)).2.1 ≤ c ↔ lo ≤ c ∧ okL p (r + c) l)
  | [], r, lo, h, _ => by simp [frL, okL]
  | y :: ys, r, lo, h, hy => by
    have hy1 := hy y (by simp)
    have hy2 : ∀ z ∈ ys, 1 ≤ z := fun z hz => hy z (by simp [hz])
    have nd := need_iff (r := r) (c := c) (y := y) hp
    have e : r + y + c = r + c + y := by omega
    unfold frL
    split
    · rw [frL_lo hp hc ys _ _ _ hy2, e]
      show _ ↔ lo ≤ c ∧ 1 ≤ y ∧ y ≤ (r + c) / (p - 1) + 1 ∧ okL p (r + c + y) ys
      rw [← nd]
      split <;> constructor <;> intro q <;> refine ⟨?_, ?_⟩ <;> (try omega) <;> (try (obtain ⟨q1, q2⟩ := q)) <;> (try exact q2) <;> (try exact ⟨hy1, by omega, q2⟩) <;> (try exact q2.2.2) <;> omega
    · rename_i hr
      rw [frL_lo hp hc ys _ _ _ hy2, e]
      have := room_mono hp (show r ≤ r + c by omega)
      show _ ↔ lo ≤ c ∧ 1 ≤ y ∧ y ≤ (r + c) / (p - 1) + 1 ∧ okL p (r + c + y) ys
      constructor
      · rintro ⟨q1, q2⟩
        exact ⟨q1, hy1, by omega, q2⟩
      · rintro ⟨q1, _, _, q2⟩
        exact ⟨q1, q2⟩
theorem fit_iff0 {p : Int} (hp : 2 ≤ p) {c : Int} (hc : 1 ≤ c) : ∀ (l : List Int) (r : Int), l.Pairwise (· ≤ ·) → (∀ y ∈ l, 1 ≤ y) →
    (okL p r (ins leI c l) ↔ (frL p l r 1 none).2.1 ≤ c ∧ c ≤ (frL p l r 1 none).2.2.getD ((frL p l r 1 none).1 / (p - 1) + 1))
  | [], r, _, _ => by simp [frL, ins, okL]
  | y :: ys, r, hs, hy => by
    have hy1 := hy y (by simp)
    have hy2 : ∀ z ∈ ys, 1 ≤ z := fun z hz => hy z (by simp [hz])
    obtain ⟨hs1, hs2⟩ := List.pairwise_cons.mp hs
    have hm := room_mono hp (show r ≤ r + c by omega)
    have hm2 := room_mono hp (show r ≤ r + y by omega)
    have nd := need_iff (r := r) (c := c) (y := y) hp
    have e : r + y + c = r + c + y := by omega
    by_cases hr : r / (p - 1) + 1 < y
    · have ef : frL p (y :: ys) r 1 none = frL p ys (r + y) (if 1 < (p - 1) * (y - 1) - r then (p - 1) * (y - 1) - r else 1) (some (r / (p - 1) + 1)) := by
        rw [frL, if_pos hr]; rfl
      rw [ef, frL_hi, frL_lo hp hc ys _ _ _ hy2, e]
      simp only [Option.getD_some]
      unfold ins
      by_cases hcy : c ≤ y
      · rw [if_pos (by simpa [leI] using hcy)]
        show (1 ≤ c ∧ c ≤ r / (p - 1) + 1 ∧ 1 ≤ y ∧ y ≤ (r + c) / (p - 1) + 1 ∧ okL p (r + c + y) ys) ↔ _
        rw [← nd]
        constructor
        · rintro ⟨q1, q2, q3, q4, q5⟩
          exact ⟨⟨by split <;> omega, q5⟩, q2⟩
        · rintro ⟨⟨q1, q5⟩, q2⟩
          exact ⟨hc, q2, hy1, by split at q1 <;> omega, q5⟩
      · rw [if_neg (by simpa [leI] using hcy)]
        constructor
        · rintro ⟨_, q2, _⟩
          omega
        · rintro ⟨_, q2⟩
          omega
    · have ef : frL p (y :: ys) r 1 none = frL p ys (r + y) 1 none := by rw [frL, if_neg hr]
      rw [ef, ← fit_iff0 hp hc ys (r + y) hs2 hy2]
      conv => lhs; unfold ins
      by_cases hcy : c ≤ y
      · rw [if_pos (by simpa [leI] using hcy)]
        have ei : ins leI c ys = c :: ys := by
          cases ys with
          | nil => rfl
          | cons z zs =>
            have := hs1 z (by simp)
            unfold ins
            rw [if_pos (by simp [leI]; omega)]
        rw [ei]
        show (1 ≤ c ∧ c ≤ r / (p - 1) + 1 ∧ 1 ≤ y ∧ y ≤ (r + c) / (p - 1) + 1 ∧ okL p (r + c + y) ys) ↔ (1 ≤ c ∧ c ≤ (r + y) / (p - 1) + 1 ∧ okL p (r + y + c) ys)
        rw [e]
        constructor
        · rintro ⟨q1, q2, q3, q4, q5⟩
          exact ⟨q1, by omega, q5⟩
        · rintro ⟨q1, q2, q5⟩
          exact ⟨q1, by omega, hy1, by omega, q5⟩
      · rw [if_neg (by simpa [leI] using hcy)]
        show (1 ≤ y ∧ y ≤ r / (p - 1) + 1 ∧ okL p (r + y) (ins leI c ys)) ↔ _
        constructor
        · rintro ⟨_, _, q⟩
          exact q
        · intro q
          exact ⟨hy1, by omega, q⟩
def inFit (p : Int) (l : List Int) (c : Int) : Bool := match fitR p l with
  | none => false
  | some (a, b) => decide (a ≤ c ∧ c ≤ b)
theorem fit_iff {p : Int} (hp : 2 ≤ p) {c : Int} (hc : 1 ≤ c) {l : List Int} (hs : l.Pairwise (· ≤ ·)) (hy : ∀ y ∈ l, 1 ≤ y) : okL p 0 (ins leI c l) ↔ inFit p l c = true := by
  rw [fit_iff0 hp hc l 0 hs hy]
  unfold inFit fitR
  generalize frL p l 0 1 none = s
  dsimp only
  split
  · rename_i hh
    split at hh
    · constructor
      · intro q; omega
      · intro q; simp at q
    · cases hh
  · rename_i a b hh
    split at hh
    · cases hh
    · cases hh
      simp
end K76
end

section
set_option linter.all false
set_option maxRecDepth 100000
set_option maxHeartbeats 2000000
namespace K76
open Fl PySem
/-! ### the hand -/
def HandOk (o : O) : Prop := ∃ cells pos rest tot, o = hdO cells pos rest tot
theorem HandOk.one {o : O} (h : HandOk o) : o.one = true := by obtain ⟨c, p, r, t, rfl⟩ := h; rfl
theorem draw {o : O} (h : HandOk o) {many : Int} (hm : 0 < many) (hm2 : many < 18446744073709551616) : ∃ d o', F__law_draw [] o [.int many] = some (.sh (.int d), o') ∧ HandOk o' ∧ 0 ≤ d ∧ d < many := by
  obtain ⟨c, p, r, t, rfl⟩ := h
  obtain ⟨d, p', r', t', e, h1, h2⟩ := m_law_draw c p r t many hm hm2
  exact ⟨d, _, e, ⟨c, p', r', t', rfl⟩, h1, h2⟩
theorem m_whole (i : Int) : F__law_is_whole [.int i] = some (.sh (.bl true)) := by simp [F__law_is_whole, f__law_is_whole, isB, okN]
/-! ### coins -/
theorem okCoins_good {p : Int} (hp : 2 ≤ p) {cs : List Int} (h : Good p cs) (hl : cs.length ≤ 12) : okCoins cs := by
  refine ⟨hl, fun n hn => ⟨h.pos n hn, ?_⟩⟩
  have := le_sum h.pos n hn
  have := h.sum hp 12 hl
  omega
theorem next_good {p : Int} (hp : 2 ≤ p) (hp5 : p ≤ 5) {cs : List Int} (h : Good p cs) (hl : cs.length ≤ 12) : F_next_coin [.lst (cs.map .int), .int p] = some (.sh (.int (cs.sum / (p - 1) + 1))) := by
  rw [m_next_coin p (by omega) hp5 _ cs rfl (okCoins_good hp h hl), fitR_ok hp h, sortI_sum]
theorem serves_good {p : Int} (hp : 2 ≤ p) (hp5 : p ≤ 5) {cs : List Int} (h : Good p cs) (hl : cs.length ≤ 12) : F_serves [.lst (cs.map .int), .int p] = some (.sh .non) := by
  rw [m_serves p hp hp5 _ cs rfl (okCoins_good hp h hl), serveD_good hp hp5 h]
def rgD (k n : Nat) : List D := (List.range' k n).map fun (i : Nat) => .int (i : Int)
theorem rngL_rg (n : Nat) : rngL 0 n = rgD 0 n := by
  unfold rngL rgD
  rw [List.range_eq_range']
  simp
theorem ins_perm' (cs : List Int) (q : Nat) (c : Int) : (cs.take q ++ [c] ++ cs.drop q).Perm (c :: cs) := by
  have : (cs.take q ++ [c] ++ cs.drop q).Perm (c :: (cs.take q ++ cs.drop q)) := by
    rw [List.append_assoc]
    exact List.perm_middle
  rwa [List.take_append_drop] at this
theorem room_bound {p : Int} (hp : 2 ≤ p) {cs : List Int} (h : Good p cs) (hl : cs.length ≤ 12) : 0 < cs.sum / (p - 1) + 1 ∧ cs.sum / (p - 1) + 1 ≤ 5000 := by
  have h0 := sum_nonneg h.pos
  have h1 : 0 ≤ cs.sum / (p - 1) := Int.ediv_nonneg h0 (by omega)
  have h2 := room_le hp h0
  have := h.sum hp 12 hl
  omega
theorem loop_put {p : Int} (hp : 2 ≤ p) (hp5 : p ≤ 5) (x2 : Option Slot) : ∀ (n k : Nat) (cs : List Int) (o : O) (a b c : Option Slot), cs.length = k → Good p cs → k + n ≤ 12 → HandOk o →
    ∃ o' cs' a' b' c', forL t__law_put_0 b__law_put_1 (rgD k n) [some (.own false o), some (.sh (.int p)), x2, some (.own true (.lst (cs.map .int))), a, b, c] =
      some (.nx [some (.own false o'), some (.sh (.int p)), x2, some (.own true (.lst (cs'.map .int))), a', b', c']) ∧ HandOk o' ∧ Good p cs' ∧ cs'.length = k + n
  | 0, k, cs, o, a, b, c, hk, hg, hn, ho => ⟨o, cs, a, b, c, by simp [rgD, forL], ho, hg, by omega⟩
  | n + 1, k, cs, o, a, b, c, hk, hg, hn, ho => by
    have hl : cs.length ≤ 12 := by omega
    obtain ⟨r1, r2⟩ := room_bound hp hg hl
    have en := next_good hp hp5 hg hl
    have el := m_law_next cs.sum p (by omega) hp5
    obtain ⟨d1, o1, e1, ho1, _, _⟩ := draw ho (many := 3) (by decide) (by decide)
    have hcoin : ∃ coin o2, HandOk o2 ∧ 1 ≤ coin ∧ coin ≤ cs.sum / (p - 1) + 1 ∧ (if d1 = 0 then coin = cs.sum / (p - 1) + 1 ∧ o2 = o1 else ∃ d2, coin = 1 + d2 ∧ F__law_draw [] o1 [.int (cs.sum / (p - 1) + 1)] = some (.sh (.int d2), o2)) := by
      by_cases hd : d1 = 0
      · exact ⟨cs.sum / (p - 1) + 1, o1, ho1, by omega, by omega, by rw [if_pos hd]; exact ⟨rfl, rfl⟩⟩
      · obtain ⟨d2, o2, e2, ho2, h1, h2⟩ := draw ho1 (many := cs.sum / (p - 1) + 1) r1 (by omega)
        exact ⟨1 + d2, o2, ho2, by omega, by omega, by rw [if_neg hd]; exact ⟨d2, rfl, e2⟩⟩
    obtain ⟨coin, o2, ho2, hc1, hc2, ec⟩ := hcoin
    obtain ⟨d3, o3, e3, ho3, h31, h32⟩ := draw ho2 (many := (k : Int) + 1) (by omega) (by omega)
    have hg1 : Good p (cs.take d3.toNat ++ [coin] ++ cs.drop d3.toNat) := (Good.put hp hg hc1 hc2).perm (ins_perm' cs d3.toNat coin).symm
    have hlen : (cs.take d3.toNat ++ [coin] ++ cs.drop d3.toNat).length = k + 1 := by rw [(ins_perm' cs d3.toNat coin).length_eq]; simp [hk]
    have es := serves_good hp hp5 hg1 (by omega)
    obtain ⟨o', cs', a', b', c', e, q1, q2, q3⟩ := loop_put hp hp5 x2 n (k + 1) (cs.take d3.toNat ++ [coin] ++ cs.drop d3.toNat) o3 (some (.sh (.int (k : Int)))) (some (.sh (.int (cs.sum / (p - 1) + 1)))) (some (.sh (.int coin))) hlen hg1 (by omega) ho3
    refine ⟨o', cs', a', b', c', ?_, q1, q2, by omega⟩
    rw [← e]
    have hr : rgD k (n + 1) = .int (k : Int) :: rgD (k + 1) n := by simp [rgD, List.range'_succ]
    rw [hr]
    have hl2 : cs.length < 1000000 := by omega
    have hd3 : d3 < 1000000000 := by omega
    have hno : noLs (cs.map D.int) = true := noLs_ints cs
    have hno2 := noLs_ints (cs.take d3.toNat ++ [coin] ++ cs.drop d3.toNat)
    simp at es hno2
    by_cases hd : d1 = 0
    · rw [if_pos hd] at ec
      obtain ⟨rfl, rfl⟩ := ec
      simp [forL, t__law_put_0, b__law_put_1, okO, hno, en, el, e1, e3, m_whole, hd, many, hl2, hd3, h31, es, hno2]
    · rw [if_neg hd] at ec
      obtain ⟨d2, rfl, e2⟩ := ec
      simp [forL, t__law_put_0, b__law_put_1, okO, hno, en, el, e1, e2, e3, m_whole, hd, many, hl2, hd3, h31, es, hno2]
end K76
end

section
set_option linter.all false
set_option maxRecDepth 100000
set_option maxHeartbeats 2000000
namespace K76
open Fl PySem
theorem hdO_lst {o : O} (h : HandOk o) : ∃ l, o = .lst l := by obtain ⟨c, p, r, t, rfl⟩ := h; exact ⟨_, rfl⟩
theorem m_put {p n : Int} (hp : 2 ≤ p) (hp5 : p ≤ 5) (hn : 0 ≤ n) (hn2 : n ≤ 12) {o : O} (ho : HandOk o) :
    ∃ (cs : List Int) (o' : O), F__law_put [] o [.int p, .int n] = some (.sh (.lst (cs.map .int)), o') ∧ HandOk o' ∧ Good p cs ∧ cs.length = n.toNat := by
  obtain ⟨o', cs', a', b', c', e, q1, q2, q3⟩ := loop_put hp hp5 (some (.sh (.int n))) n.toNat 0 [] o none none none rfl (by simp [Good, sortI, isort, okL]) (by omega) ho
  have hs : small n = true := by unfold small; exact decide_eq_true (by omega)
  have h1 := ho.one
  have h2 := q1.one
  simp at e
  obtain ⟨l, rfl⟩ := hdO_lst ho
  obtain ⟨l', rfl⟩ := hdO_lst q1
  refine ⟨cs', _, ?_, q1, q2, by omega⟩
  simp [F__law_put, f__law_put, hs, rngL_rg, e, many]
theorem cutL_take (l : List D) (k : Nat) (h : k ≤ l.length) : cutD l none (some (k : Int)) = l.take k := by
  unfold cutD
  rw [HT.sIx_nat, HT.sIx_none, Nat.min_eq_left h]
  simp
theorem m_robbed {o : O} (ho : HandOk o) (cs : List Int) (hl : cs.length ≤ 1000) :
    ∃ (ds : List Int) (o' : O), F__law_robbed [] o [.lst (cs.map .int)] = some (.sh (.lst (ds.map .int)), o') ∧ HandOk o' ∧ ds.length ≤ cs.length ∧ ∀ c ∈ ds, c ∈ cs := by
  obtain ⟨l, rfl⟩ := hdO_lst ho
  cases cs with
  | nil => exact ⟨[], .lst l, by simp [F__law_robbed, f__law_robbed, many], ho, Nat.le_refl _, fun c h => h⟩
  | cons c r =>
    have hr : r.length < 1000 := by simp at hl; omega
    obtain ⟨d, o1, e, ho1, h1, h2⟩ := draw ho (many := (r.length : Int) + 1) (by omega) (by omega)
    obtain ⟨k, rfl⟩ : ∃ k : Nat, d = (k : Int) := ⟨d.toNat, by omega⟩
    have hk : k < r.length + 1 := by omega
    obtain ⟨l1, rfl⟩ := hdO_lst ho1
    have q1 := cutL_take (.int c :: r.map D.int) k (by simp; omega)
    have q2 := cut_drop (.int c :: r.map D.int) k (by simp; omega)
    refine ⟨(c :: r).take k ++ (c :: r).drop (k + 1), .lst l1, ?_, ho1, by simp; omega, fun x hx => ?_⟩
    · have hfi := fits_ints 7 r
      have hf : (min k (r.length + 1) + (r.length - k)) ≤ 1000000 := by omega
      simp [F__law_robbed, f__law_robbed, many, e, q1, q2, hfi, hf]
    · rcases List.mem_append.mp hx with hx | hx
      · exact List.mem_of_mem_take hx
      · exact List.mem_of_mem_drop hx
/-- coins whose sum at most doubles -/
def Sm (cs : List Int) (k : Nat) : Prop := cs.length = k ∧ (∀ c ∈ cs, 1 ≤ c) ∧ cs.sum + 1 ≤ 2 ^ k
theorem Sm.put {cs : List Int} {k : Nat} {c : Int} (h : Sm cs k) (h1 : 1 ≤ c) (h2 : c ≤ cs.sum + 1) (q : Nat) : Sm (cs.take q ++ [c] ++ cs.drop q) (k + 1) := by
  have p := ins_perm' cs q c
  refine ⟨by rw [p.length_eq, List.length_cons, h.1], fun d hd => ?_, ?_⟩
  · rcases List.mem_cons.mp (p.mem_iff.mp hd) with e | hd
    · omega
    · exact h.2.1 d hd
  · rw [sum_perm p, List.sum_cons, Int.pow_succ]
    have := h.2.2
    omega
theorem next_bound {p s : Int} (hp : 2 ≤ p) (hs : 0 ≤ s) : 1 ≤ s / (p - 1) + 1 ∧ s / (p - 1) + 1 ≤ s + 1 := by
  have h1 : 0 ≤ s / (p - 1) := Int.ediv_nonneg hs (by omega)
  have h2 := room_le hp hs
  omega
theorem loop_pool {p turn : Int} (hp : 2 ≤ p) (hp5 : p ≤ 5) (x2 x3 x8 x9 : Option Slot) : ∀ (n k : Nat) (cs : List Int) (o : O) (a b : Option D), Sm cs k → k + n ≤ 12 → HandOk o →
    ∃ (o' : O) (cs' : List Int) (a' b' : Option D), forL t__law_pool_0 b__law_pool_1 (rgD k n) [some (.own false o), some (.sh (.int p)), x2, x3, some (.sh (.int turn)), some (.own true (.lst (cs.map .int))), a.map Slot.sh, b.map Slot.sh, x8, x9] =
      some (.nx [some (.own false o'), some (.sh (.int p)), x2, x3, some (.sh (.int turn)), some (.own true (.lst (cs'.map .int))), a'.map Slot.sh, b'.map Slot.sh, x8, x9]) ∧ HandOk o' ∧ Sm cs' (k + n)
  | 0, k, cs, o, a, b, hc, hn, ho => ⟨o, cs, a, b, by simp [rgD, forL], ho, hc⟩
  | n + 1, k, cs, o, a, b, hc, hn, ho => by
    have hs0 := sum_nonneg hc.2.1
    obtain ⟨r1, r2⟩ := next_bound (p := p) hp hs0
    have hp2 : (2 : Int) ^ k ≤ 2 ^ 12 := by
      have : (2 : Nat) ^ k ≤ 2 ^ 12 := Nat.pow_le_pow_right (by decide) (by omega)
      exact_mod_cast this
    have hsb := hc.2.2
    have el := m_law_next cs.sum p (by omega) hp5
    have step : ∀ coin o2, HandOk o2 → 1 ≤ coin → coin ≤ cs.sum + 1 → ∃ d3 o3, F__law_draw [] o2 [.int ((cs.length : Int) + 1)] = some (.sh (.int d3), o3) ∧ HandOk o3 ∧ 0 ≤ d3 ∧ d3 < 1000000000 ∧ Sm (cs.take d3.toNat ++ [coin] ++ cs.drop d3.toNat) (k + 1) := by
      intro coin o2 ho2 h1 h2
      obtain ⟨d3, o3, e3, ho3, h31, h32⟩ := draw ho2 (many := (cs.length : Int) + 1) (by omega) (by have := hc.1; omega)
      exact ⟨d3, o3, e3, ho3, h31, by have := hc.1; omega, hc.put h1 h2 _⟩
    have hl2 : cs.length < 1000000 := by have := hc.1; omega
    have hr : rgD k (n + 1) = .int (k : Int) :: rgD (k + 1) n := by simp [rgD, List.range'_succ]
    rw [hr]
    by_cases ht : turn = 3
    · obtain ⟨d3, o3, e3, ho3, h31, h32, hS⟩ := step (cs.sum / (p - 1) + 1) o ho r1 r2
      obtain ⟨o', cs', a', b', e, q1, q2⟩ := loop_pool hp hp5 x2 x3 x8 x9 n (k + 1) _ o3 (some (.int (k : Int))) (some (.int (cs.sum / (p - 1) + 1))) hS (by omega) ho3
      refine ⟨o', cs', a', b', ?_, q1, by rw [show k + (n + 1) = k + 1 + n by omega]; exact q2⟩
      rw [← e]
      simp [forL, t__law_pool_0, b__law_pool_1, el, ht, e3, many, hl2, h31, h32]
    · obtain ⟨d1, o1, e1, ho1, h11, h12⟩ := draw ho (many := 3) (by decide) (by decide)
      by_cases hd : 0 < d1
      · obtain ⟨d2, o2, e2, ho2, h21, h22⟩ := draw ho1 (many := cs.sum / (p - 1) + 1) (by omega) (by omega)
        obtain ⟨d3, o3, e3, ho3, h31, h32, hS⟩ := step (1 + d2) o2 ho2 (by omega) (by omega)
        obtain ⟨o', cs', a', b', e, q1, q2⟩ := loop_pool hp hp5 x2 x3 x8 x9 n (k + 1) _ o3 (some (.int (k : Int))) (some (.int (1 + d2))) hS (by omega) ho3
        refine ⟨o', cs', a', b', ?_, q1, by rw [show k + (n + 1) = k + 1 + n by omega]; exact q2⟩
        rw [← e]
        simp [forL, t__law_pool_0, b__law_pool_1, el, ht, e1, e2, e3, hd, many, hl2, h31, h32]
      · obtain ⟨d3, o3, e3, ho3, h31, h32, hS⟩ := step (cs.sum / (p - 1) + 1) o1 ho1 r1 r2
        obtain ⟨o', cs', a', b', e, q1, q2⟩ := loop_pool hp hp5 x2 x3 x8 x9 n (k + 1) _ o3 (some (.int (k : Int))) (some (.int (cs.sum / (p - 1) + 1))) hS (by omega) ho3
        refine ⟨o', cs', a', b', ?_, q1, by rw [show k + (n + 1) = k + 1 + n by omega]; exact q2⟩
        rw [← e]
        simp [forL, t__law_pool_0, b__law_pool_1, el, ht, e1, e3, hd, many, hl2, h31, h32]
end K76
end

section
set_option linter.all false
set_option maxRecDepth 100000
set_option maxHeartbeats 2000000
namespace K76
open Fl PySem
theorem loop_times (a0 a1 a2 a3 a4 a5 a6 a8 : Option Slot) (a7 : Option D) (times : Int) (hb : -18446744073709551616 < times ∧ times < 18446744073709551616) : ∀ cs : List Int,
    lcL t__law_pool_2 c__law_pool_3 e__law_pool_4 [7] (cs.map D.int) [a0, a1, a2, a3, a4, a5, a6, a7.map Slot.sh, a8, some (.sh (.int times))] = some ((cs.map fun c => c * times).map D.int, [a0, a1, a2, a3, a4, a5, a6, a7.map Slot.sh, a8, some (.sh (.int times))])
  | [] => by simp [lcL]
  | c :: cs => by
    have e := loop_times a0 a1 a2 a3 a4 a5 a6 a8 a7 times hb cs
    simp [t__law_pool_2, c__law_pool_3, e__law_pool_4] at e
    cases a7 with
    | none => simp [lcL, noOwn, noOwn1, wipeF, backF, t__law_pool_2, c__law_pool_3, e__law_pool_4, hb] at e ⊢; simp [e]
    | some d => simp [lcL, noOwn, noOwn1, wipeF, backF, t__law_pool_2, c__law_pool_3, e__law_pool_4, hb] at e ⊢; simp [e]
theorem mem_set' {l : List Int} {k : Nat} {v x : Int} (h : x ∈ l.set k v) : x ∈ l ∨ x = v := List.mem_or_eq_of_mem_set h
theorem ixN_nat {n k : Nat} (h : k < n) : L2.ixN n (k : Int) = some k := by simp [L2.ixN, h]
def poolA : FS := (fIfS (fLend 5 (fun _ => true) (fTest (fBin dNe (fVar 5) (fFrz (fLst (fArgs dLst fNil)))))) (fSeq (fSet 8 (fCallI 0 F__law_draw (fHere 0 (fCons (fLend 5 noL (fArgs (d1 dLen) (fCons (fVar 5) fNil))) fNil))))
    (fSeq (fIfS (fTest (fBin dEq (fVar 4) (fC (.int 3)))) (fSetO 5 (fLst (fBin dCatL (fFrz (fLend 5 okO (fLst (fCut dCutL (fVar 5) fNone (fSome (fVar 8)))))) (fFrz (fLend 5 okO (fLst (fCut dCutL (fVar 5) (fSome (fBin dAdd (fVar 8) (fC (.int 1)))) fNone))))))) fSkip)
    (fIfS (fTest (fBin dGe (fVar 4) (fC (.int 4)))) (fSetI 5 (fVar 8) (fBin dAdd (fBin dAdd (fCall F__law_next [] (fCons (fLend 5 noL (fArgs (d1 dSum) (fCons (fVar 5) fNil))) (fCons (fVar 1) fNil))) (fC (.int 1))) (fCallI 0 F__law_draw (fHere 0 (fCons (fC (.int 3)) fNil))))) fSkip))) fSkip)
def poolB : FS := (fSeq (fIfS (fTest (fBin dEq (fVar 4) (fC (.int 5)))) (fSeq (fSet 9 (fBin dAdd (fC (.int 1)) (fCallI 0 F__law_draw (fHere 0 (fCons (fBin dPow (fC (.int 10)) (fC (.int 5))) fNil)))))
    (fFreeze 5 (fSetO 5 (fLst (fLc (fUn dSeq (fVar 5)) t__law_pool_2 c__law_pool_3 e__law_pool_4 [7]))))) fSkip)
    (fFreeze 5 (fRet (fVar 5))))
theorem f_pool : f__law_pool = (fSeq (fSet 3 (fCallI 0 F__law_draw (fHere 0 (fCons (fBin dAdd (fVar 2) (fC (.int 1))) fNil))))
    (fSeq (fSet 4 (fCallI 0 F__law_draw (fHere 0 (fCons (fC (.int 6)) fNil))))
    (fSeq (fSetO 5 (fLst (fArgs dLst fNil)))
    (fSeq (fFor (fArgs dRng1 (fCons (fVar 3) fNil)) t__law_pool_0 b__law_pool_1) (fSeq poolA poolB))))) := rfl
abbrev poolR (o : O) (p n turn : Int) (cs : List Int) (a b : Option D) (x8 : Option Slot) : Fenv := [some (.own false o), some (.sh (.int p)), some (.sh (.int 7)), some (.sh (.int n)), some (.sh (.int turn)), some (.own true (.lst (cs.map .int))), a.map Slot.sh, b.map Slot.sh, x8, none]
theorem poolB_no {o : O} {p n turn : Int} {cs : List Int} {a b : Option D} {x8 : Option Slot} (h : turn ≠ 5) : ∃ ρ, poolB (poolR o p n turn cs a b x8) = some (.rt (.sh (.lst (cs.map .int))) ρ) ∧ ρ[0]? = some (some (.own false o)) := by
  simp [poolB, h]
theorem poolB_yes {o : O} (ho : HandOk o) {p n : Int} {cs : List Int} {a b : Option D} {x8 : Option Slot} (hl : cs.length ≤ 7) : ∃ ρ t o', poolB (poolR o p n 5 cs a b x8) = some (.rt (.sh (.lst ((cs.map fun c => c * (1 + t)).map .int))) ρ) ∧ ρ[0]? = some (some (.own false o')) ∧ HandOk o' ∧ 0 ≤ t ∧ t < 100000 := by
  obtain ⟨t, o4, e4, ho4, h41, h42⟩ := draw ho (many := 100000) (by decide) (by decide)
  have elc := loop_times (some (.own false o4)) (some (.sh (.int p))) (some (.sh (.int 7))) (some (.sh (.int n))) (some (.sh (.int 5))) (some (.sh (.lst (cs.map .int)))) (a.map Slot.sh) x8 b (1 + t) (by omega) cs
  have hl2 : cs.length < 1000000 := by omega
  refine ⟨[some (.own false o4), some (.sh (.int p)), some (.sh (.int 7)), some (.sh (.int n)), some (.sh (.int 5)), some (.sh (.lst ((cs.map fun c => c * (1 + t)).map .int))), a.map Slot.sh, b.map Slot.sh, x8, some (.sh (.int (1 + t)))], t, o4, ?_, rfl, ho4, h41, h42⟩
  simp [poolB, e4, elc, many, hl2]
theorem asI_cons (c : Int) (r : List Int) : asI (.int c :: r.map D.int) = some (c :: r) := asI_map (c :: r)
theorem poolA_nil {o : O} {p n turn : Int} {a b : Option D} {x8 : Option Slot} : poolA (poolR o p n turn [] a b x8) = some (.nx (poolR o p n turn [] a b x8)) := by
  simp [poolA, many]
theorem poolA_3 {o : O} (ho : HandOk o) {p n : Int} {cs : List Int} {a b : Option D} {x8 : Option Slot} (hne : cs ≠ []) (hl : cs.length ≤ 7) : ∃ o' ds k, poolA (poolR o p n 3 cs a b x8) = some (.nx (poolR o' p n 3 ds a b (some (.sh (.int k))))) ∧ HandOk o' ∧ ds.length ≤ 7 ∧ ∀ x ∈ ds, x ∈ cs := by
  cases cs with
  | nil => exact absurd rfl hne
  | cons c r =>
    simp at hl
    obtain ⟨d, o4, e4, ho4, h41, h42⟩ := draw ho (many := (r.length : Int) + 1) (by omega) (by omega)
    obtain ⟨k, rfl⟩ : ∃ k : Nat, d = (k : Int) := ⟨d.toNat, by omega⟩
    have hk : k < r.length + 1 := by omega
    have hfi := fits_ints 7 r
    have q1 := cutL_take (.int c :: r.map D.int) k (by simp; omega)
    have q2 := cut_drop (.int c :: r.map D.int) k (by simp; omega)
    have nl := noLs_ints ((c :: r).take k)
    have nl2 := noLs_ints ((c :: r).drop (k + 1))
    simp at nl nl2
    have hf : (min k (r.length + 1) + (r.length - k)) ≤ 1000000 := by omega
    refine ⟨o4, (c :: r).take k ++ (c :: r).drop (k + 1), (k : Int), ?_, ho4, by simp; omega, fun x hx => ?_⟩
    · simp [poolA, e4, many, hfi, q1, q2, okO, nl, nl2, hf]
    · rcases List.mem_append.mp hx with hx | hx
      · exact List.mem_of_mem_take hx
      · exact List.mem_of_mem_drop hx
theorem poolA_4 {o : O} (ho : HandOk o) {p n turn : Int} (hp : 2 ≤ p) (hp5 : p ≤ 5) {cs : List Int} {a b : Option D} {x8 : Option Slot} (hne : cs ≠ []) (hl : cs.length ≤ 7) (ht : 4 ≤ turn) : ∃ o' k d, poolA (poolR o p n turn cs a b x8) = some (.nx (poolR o' p n turn (cs.set k (cs.sum / (p - 1) + 1 + 1 + d)) a b (some (.sh (.int (k : Int)))))) ∧ HandOk o' ∧ 0 ≤ d ∧ d < 3 := by
  cases cs with
  | nil => exact absurd rfl hne
  | cons c r =>
    simp at hl
    obtain ⟨d, o4, e4, ho4, h41, h42⟩ := draw ho (many := (r.length : Int) + 1) (by omega) (by omega)
    obtain ⟨k, rfl⟩ : ∃ k : Nat, d = (k : Int) := ⟨d.toNat, by omega⟩
    have hk : k < r.length + 1 := by omega
    obtain ⟨d5, o5, e5, ho5, h51, h52⟩ := draw ho4 (many := 3) (by decide) (by decide)
    have hfi := fits_ints 7 r
    have hix := ixN_nat hk
    have en := m_law_next (c :: r).sum p (by omega) hp5
    simp at en
    refine ⟨o5, k, d5, ?_, ho5, h51, h52⟩
    simp [poolA, e4, e5, many, hfi, hix, asI_cons, en, List.map_set, show ¬ turn = 3 by omega, ht]
theorem poolA_lo {o : O} (ho : HandOk o) {p n turn : Int} {cs : List Int} {a b : Option D} {x8 : Option Slot} (hne : cs ≠ []) (hl : cs.length ≤ 7) (ht : ¬ 4 ≤ turn) (ht3 : turn ≠ 3) : ∃ o' k, poolA (poolR o p n turn cs a b x8) = some (.nx (poolR o' p n turn cs a b (some (.sh (.int k))))) ∧ HandOk o' := by
  cases cs with
  | nil => exact absurd rfl hne
  | cons c r =>
    simp at hl
    obtain ⟨d, o4, e4, ho4, h41, h42⟩ := draw ho (many := (r.length : Int) + 1) (by omega) (by omega)
    have hfi := fits_ints 7 r
    refine ⟨o4, d, ?_, ho4⟩
    simp [poolA, e4, many, hfi, ht, ht3]
/-- what the pool is before it is multiplied -/
theorem poolA_any {o : O} (ho : HandOk o) {p n turn : Int} (hp : 2 ≤ p) (hp5 : p ≤ 5) {cs : List Int} {a b : Option D} {x8 : Option Slot} (hl : cs.length ≤ 7) (hc : ∀ c ∈ cs, 1 ≤ c ∧ c ≤ 127) (hs : cs.sum ≤ 127) : ∃ o' ds x, poolA (poolR o p n turn cs a b x8) = some (.nx (poolR o' p n turn ds a b x)) ∧ HandOk o' ∧ ds.length ≤ 7 ∧ ∀ c ∈ ds, 1 ≤ c ∧ c ≤ 200 := by
  by_cases hne : cs = []
  · subst hne
    exact ⟨o, [], x8, poolA_nil, ho, by simp, by simp⟩
  · by_cases h3 : turn = 3
    · subst h3
      obtain ⟨o', ds, k, e, h1, h2, h4⟩ := poolA_3 ho (p := p) (n := n) (a := a) (b := b) (x8 := x8) hne hl
      exact ⟨o', ds, _, e, h1, h2, fun c hx => by have := hc c (h4 c hx); omega⟩
    · by_cases h4 : 4 ≤ turn
      · obtain ⟨o', k, d, e, h1, h2, h5⟩ := poolA_4 ho (n := n) (a := a) (b := b) (x8 := x8) hp hp5 hne hl h4
        have hs0 := sum_nonneg fun c hx => (hc c hx).1
        obtain ⟨r1, r2⟩ := next_bound (p := p) hp hs0
        refine ⟨o', _, _, e, h1, by simpa using hl, fun c hx => ?_⟩
        rcases List.mem_or_eq_of_mem_set hx with hx | hx
        · have := hc c hx; omega
        · omega
      · obtain ⟨o', k, e, h1⟩ := poolA_lo ho (p := p) (n := n) (a := a) (b := b) (x8 := x8) hne hl h4 h3
        exact ⟨o', cs, _, e, h1, hl, fun c hx => by have := hc c hx; omega⟩
end K76
end

section
set_option linter.all false
set_option maxRecDepth 100000
set_option maxHeartbeats 2000000
namespace K76
open Fl PySem
theorem fArgs_of {α : Type} {g : List D → Option α} {fs : FA} {ρ ρ' : Fenv} {ds : List D} {z : α} (h : fs ρ = some (ds, ρ')) (h2 : g ds = some z) : fArgs g fs ρ = some (z, ρ') := by
  unfold fArgs
  rw [h]
  simp only [Option.bind_some]
  rw [h2]
  rfl
theorem fSeq_nx {f g : FS} {ρ ρ' : Fenv} (h : f ρ = some (.nx ρ')) : fSeq f g ρ = g ρ' := by simp only [fSeq, h, Option.bind_some]
theorem fnI_rt {fb : FS} {n : Nat} {o o' : O} {post : List D} {ρ0 ρ : Fenv} {s : Slot} (h0 : some (.own false o) :: (post.map (fun d => some (.sh d)) ++ List.replicate (n - (0 + 1 + post.length)) none) = ρ0) (h : fb ρ0 = some (.rt s ρ)) (hρ : ρ[0]? = some (some (.own false o'))) (h1 : o.one = true) (h2 : o'.one = true) : fnI fb n [] o post = some (s, o') := by
  subst h0
  unfold fnI outI
  simp only [List.map_nil, List.nil_append, List.length_nil, List.cons_append]
  rw [h]
  simp only [hρ, h1, h2, Bool.and_self, if_true]
theorem m_pool {p : Int} (hp : 2 ≤ p) (hp5 : p ≤ 5) {o : O} (ho : HandOk o) :
    ∃ (cs : List Int) (o' : O), F__law_pool [] o [.int p, .int 7] = some (.sh (.lst (cs.map .int)), o') ∧ HandOk o' ∧ cs.length ≤ 7 ∧ ∀ c ∈ cs, 1 ≤ c ∧ c ≤ 900000000 := by
  obtain ⟨d1, o1, e1, ho1, h11, h12⟩ := draw ho (many := 8) (by decide) (by decide)
  obtain ⟨turn, o2, e2, ho2, h21, h22⟩ := draw ho1 (many := 6) (by decide) (by decide)
  obtain ⟨n, rfl⟩ : ∃ n : Nat, d1 = (n : Int) := ⟨d1.toNat, by omega⟩
  obtain ⟨o3, cs, a', b', el, ho3, hS⟩ := loop_pool (turn := turn) hp hp5 (some (.sh (.int 7))) (some (.sh (.int (n : Int)))) none none n 0 [] o2 none none ⟨rfl, by simp, by simp⟩ (by omega) ho2
  have hs : small (n : Int) = true := by unfold small; exact decide_eq_true (by omega)
  have hp2 : (2 : Int) ^ (0 + n) ≤ 128 := by
    have : (2 : Nat) ^ (0 + n) ≤ 2 ^ 7 := Nat.pow_le_pow_right (by decide) (by omega)
    exact_mod_cast this
  have hsum := hS.2.2
  have hlen : cs.length ≤ 7 := by have := hS.1; omega
  have hc : ∀ c ∈ cs, 1 ≤ c ∧ c ≤ 127 := fun c hc => ⟨hS.2.1 c hc, by have := le_sum hS.2.1 c hc; omega⟩
  obtain ⟨o4, ds, x, eA, ho4, hd1, hd2⟩ := poolA_any ho3 (n := (n : Int)) (turn := turn) (a := a') (b := b') (x8 := none) hp hp5 hlen hc (by omega)
  have fin : ∀ out, poolB (poolR o4 p n turn ds a' b' x) = some out → f__law_pool [some (.own false o), some (.sh (.int p)), some (.sh (.int 7)), none, none, none, none, none, none, none] = some out := by
    intro out ho
    have s1 : (fSet 3 (fCallI 0 F__law_draw (fHere 0 (fCons (fBin dAdd (fVar 2) (fC (.int 1))) fNil)))) [some (.own false o), some (.sh (.int p)), some (.sh (.int 7)), none, none, none, none, none, none, none] =
        some (.nx [some (.own false o1), some (.sh (.int p)), some (.sh (.int 7)), some (.sh (.int (n : Int))), none, none, none, none, none, none]) := by simp [e1]
    have s2 : (fSet 4 (fCallI 0 F__law_draw (fHere 0 (fCons (fC (.int 6)) fNil)))) [some (.own false o1), some (.sh (.int p)), some (.sh (.int 7)), some (.sh (.int (n : Int))), none, none, none, none, none, none] =
        some (.nx [some (.own false o2), some (.sh (.int p)), some (.sh (.int 7)), some (.sh (.int (n : Int))), some (.sh (.int turn)), none, none, none, none, none]) := by simp [e2]
    have s3 : (fSetO 5 (fLst (fArgs dLst fNil))) [some (.own false o2), some (.sh (.int p)), some (.sh (.int 7)), some (.sh (.int (n : Int))), some (.sh (.int turn)), none, none, none, none, none] =
        some (.nx [some (.own false o2), some (.sh (.int p)), some (.sh (.int 7)), some (.sh (.int (n : Int))), some (.sh (.int turn)), some (.own true (.lst [])), none, none, none, none]) := by simp
    have s4 : (fFor (fArgs dRng1 (fCons (fVar 3) fNil)) t__law_pool_0 b__law_pool_1) [some (.own false o2), some (.sh (.int p)), some (.sh (.int 7)), some (.sh (.int (n : Int))), some (.sh (.int turn)), some (.own true (.lst [])), none, none, none, none] =
        some (.nx (poolR o3 p n turn cs a' b' none)) := by
      have h0 : dRng1 [.int (n : Int)] = some (rgD 0 n) := by rw [← rngL_rg]; exact dRng1_nat n (by omega)
      have h1 : (fArgs dRng1 (fCons (fVar 3) fNil)) [some (.own false o2), some (.sh (.int p)), some (.sh (.int 7)), some (.sh (.int (n : Int))), some (.sh (.int turn)), some (.own true (.lst [])), none, none, none, none] = some (rgD 0 n, [some (.own false o2), some (.sh (.int p)), some (.sh (.int 7)), some (.sh (.int (n : Int))), some (.sh (.int turn)), some (.own true (.lst [])), none, none, none, none]) := by
        exact fArgs_of (by simp) h0
      unfold fFor
      rw [h1]
      exact el
    rw [f_pool, fSeq_nx s1, fSeq_nx s2, fSeq_nx s3, fSeq_nx s4, fSeq_nx eA]
    exact ho
  have one := ho.one
  by_cases h5 : turn = 5
  · subst h5
    obtain ⟨ρ, t, o5, eB, hρ, ho5, t1, t2⟩ := poolB_yes ho4 (p := p) (n := (n : Int)) (cs := ds) (a := a') (b := b') (x8 := x) hd1
    refine ⟨ds.map fun c => c * (1 + t), o5, ?_, ho5, by simpa using hd1, fun c hx => ?_⟩
    · exact fnI_rt rfl (fin _ eB) hρ ho.one ho5.one
    · obtain ⟨d, hd, rfl⟩ := List.mem_map.mp hx
      have := hd2 d hd
      have q1 : 1 * 1 ≤ d * (1 + t) := Int.mul_le_mul this.1 (by omega) (by decide) (by omega)
      have q2 : d * (1 + t) ≤ 200 * 100000 := Int.mul_le_mul this.2 (by omega) (by omega) (by decide)
      omega
  · obtain ⟨ρ, eB, hρ⟩ := poolB_no (o := o4) (p := p) (n := (n : Int)) (cs := ds) (a := a') (b := b') (x8 := x) h5
    refine ⟨ds, o4, ?_, ho4, hd1, fun c hx => by have := hd2 c hx; omega⟩
    exact fnI_rt rfl (fin _ eB) hρ ho.one ho4.one
end K76
end

section
set_option linter.all false
set_option maxRecDepth 100000
set_option maxHeartbeats 2000000
namespace K76
open Fl PySem
theorem okCoins_snoc {cs : List Int} {c : Int} (h1 : cs.length ≤ 11) (h2 : ∀ x ∈ cs, 1 ≤ x ∧ x ≤ 1000000000) (hc : 1 ≤ c ∧ c ≤ 1000000000) : okCoins (cs ++ [c]) := by
  refine ⟨by simp; omega, fun n hn => ?_⟩
  rcases List.mem_append.mp hn with h | h
  · exact h2 n h
  · have e : n = c := by simpa using h
    rw [e]
    exact hc
theorem sortI_snoc (cs : List Int) (c : Int) : sortI (cs ++ [c]) = ins leI c (sortI cs) := by
  rw [← sortI_cons]
  exact sortI_congr (List.perm_append_comm)
theorem serves_fit {p : Int} (hp : 2 ≤ p) (hp5 : p ≤ 5) {cs : List Int} {c : Int} (h1 : cs.length ≤ 11) (h2 : ∀ x ∈ cs, 1 ≤ x ∧ x ≤ 1000000000) (hc : 1 ≤ c ∧ c ≤ 1000000000) :
    ∃ d, F_serves [.lst ((cs ++ [c]).map .int), .int p] = some (.sh d) ∧ dIsN d .non = some (.bl (inFit p (sortI cs) c)) ∧ (inFit p (sortI cs) c = true → d = .non) ∧ (inFit p (sortI cs) c = false → ∃ k w, d = .obj 1 [.int k, .tup w]) := by
  have ok := okCoins_snoc h1 h2 hc
  refine ⟨_, m_serves p hp hp5 _ _ rfl ok, ?_⟩
  rw [sortI_snoc]
  have hpos : ∀ y ∈ sortI cs, 1 ≤ y := fun y hy => (h2 y (sortI_mem.mp hy)).1
  have iff := fit_iff hp hc.1 (sortI_sorted cs) hpos
  cases e : inFit p (sortI cs) c with
  | true =>
    rw [serveD_good hp hp5 (iff.mpr e)]
    exact ⟨rfl, fun _ => rfl, fun z => (nomatch z)⟩
  | false =>
    have hno : ¬ okL p 0 (ins leI c (sortI cs)) := fun z => by rw [iff.mp z] at e; cases e
    have hpos2 : ∀ y ∈ ins leI c (sortI cs), 1 ≤ y := fun y hy => by
      rcases List.mem_cons.mp ((ins_perm leI c (sortI cs)).mem_iff.mp hy) with h | h
      · omega
      · exact hpos y h
    obtain ⟨k, w, e2⟩ := serveD_bad hp hp5 hpos2 hno
    rw [e2]
    exact ⟨rfl, fun z => (nomatch z), fun _ => ⟨k, w, rfl⟩⟩
theorem may_fit {p : Int} (hp : 2 ≤ p) (hp5 : p ≤ 5) {cs : List Int} {c : Int} (ok : okCoins cs) (hc : 1 ≤ c ∧ c ≤ 1000000000) : F_may_put [.lst (cs.map .int), .int c, .int p] = some (.sh (.bl (inFit p (sortI cs) c))) := by
  rw [m_may_put p (by omega) hp5 _ cs rfl ok c hc.1 hc.2]
  rfl
theorem loop_any {p : Int} (hp : 2 ≤ p) (hp5 : p ≤ 5) {cs : List Int} (h1 : cs.length ≤ 11) (h2 : ∀ x ∈ cs, 1 ≤ x ∧ x ≤ 1000000000) (x0 x4 : Option Slot) : ∀ (ts : List Int) (a b : Option Slot), (∀ t ∈ ts, 1 ≤ t) →
    ∃ a' b', forL t__law_any_right_0 b__law_any_right_1 (ts.map D.int) [x0, some (.sh (.int p)), some (.sh (.lst (cs.map .int))), some (.sh (pairD (fitR p (sortI cs)))), x4, a, b] =
      some (.nx [x0, some (.sh (.int p)), some (.sh (.lst (cs.map .int))), some (.sh (pairD (fitR p (sortI cs)))), x4, a', b'])
  | [], a, b, _ => ⟨a, b, by simp [forL]⟩
  | t :: ts, a, b, ht => by
    have ht1 := ht t (by simp)
    have ht2 : ∀ t ∈ ts, 1 ≤ t := fun x hx => ht x (by simp [hx])
    by_cases hb : t ≤ 1000000000
    · have ok : okCoins cs := ⟨by omega, h2⟩
      obtain ⟨d, es, en, _⟩ := serves_fit hp hp5 h1 h2 ⟨ht1, hb⟩
      have em := may_fit hp hp5 ok ⟨ht1, hb⟩
      obtain ⟨a', b', e⟩ := loop_any hp hp5 h1 h2 x0 x4 ts (some (.sh (.int t))) (some (.sh (.bl (inFit p (sortI cs) t)))) ht2
      refine ⟨a', b', ?_⟩
      rw [← e]
      simp at es
      have hlen : cs.length + 1 ≤ 1000000 := by omega
      unfold inFit at en em ⊢
      cases ef : fitR p (sortI cs) with
      | none =>
        rw [ef] at en em
        simp [-dIsN] at en
        simp [-dIsN, forL, t__law_any_right_0, b__law_any_right_1, hb, hlen, many, es, en, em, pairD]
      | some q =>
        obtain ⟨u, v⟩ := q
        rw [ef] at en em
        simp [-dIsN] at en
        by_cases hu : u ≤ t
        · simp [-dIsN, hu] at en em
          simp [-dIsN, forL, t__law_any_right_0, b__law_any_right_1, hb, hlen, many, es, en, em, pairD, L2.atI, L2.ixN, hu]
        · simp [-dIsN, hu] at en em
          simp [-dIsN, forL, t__law_any_right_0, b__law_any_right_1, hb, hlen, many, es, en, em, pairD, L2.atI, L2.ixN, hu]
    · obtain ⟨a', b', e⟩ := loop_any hp hp5 h1 h2 x0 x4 ts (some (.sh (.int t))) b ht2
      refine ⟨a', b', ?_⟩
      rw [← e]
      simp [forL, t__law_any_right_0, b__law_any_right_1, hb]
end K76
end

section
set_option linter.all false
set_option maxRecDepth 100000
set_option maxHeartbeats 2000000
namespace K76
open Fl PySem
def anyB : FS := (fSeq (fFor (fUn dSeq (fVar 4)) t__law_any_right_0 b__law_any_right_1) (fRet (fC (.bl true))))
def anyA2 : FS := (fSet 4 (fFrz (fLst (fArgs dLst (fCons (fC (.int 1)) (fCons (fBin dAdd (fC (.int 1)) (fCallI 0 F__law_draw (fHere 0 (fCons (fC (.int 9)) fNil)))) (fCons (fBin dAdd (fC (.int 1)) (fCallI 0 F__law_draw (fHere 0 (fCons (fBin dPow (fC (.int 10)) (fC (.int 9))) fNil)))) (fCons (fCall F__law_next [] (fCons (fArgs (d1 dSum) (fCons (fVar 2) fNil)) (fCons (fVar 1) fNil))) fNil))))))))
def anyA3 : FS := (fIfS (fTest (fBin dNotN (fVar 3) (fC .non))) (fSet 4 (fFrz (fLst (fBin dCatL (fVar 4) (fFrz (fLst (fArgs dLst (fCons (fBin dIx (fVar 3) (fC (.int 0))) (fCons (fBin dIx (fVar 3) (fC (.int 1))) (fCons (fArgs (d2 dMax2) (fCons (fC (.int 1)) (fCons (fBin (dI fun i j => i - j) (fBin dIx (fVar 3) (fC (.int 0))) (fC (.int 1))) fNil))) (fCons (fBin dAdd (fBin dIx (fVar 3) (fC (.int 1))) (fC (.int 1))) fNil))))))))))) fSkip)
theorem f_any : f__law_any_right = (fSeq (fSet 2 (fCallI 0 F__law_robbed (fHere 0 (fCons (fCallI 0 F__law_pool (fHere 0 (fCons (fVar 1) (fCons (fC (.int 7)) fNil)))) fNil))))
    (fSeq (fSet 3 (fCall F_fitting_coins [] (fCons (fVar 2) (fCons (fVar 1) fNil)))) (fSeq anyA2 (fSeq anyA3 anyB)))) := rfl
theorem frL_lo1 {p : Int} : ∀ (l : List Int) (r lo : Int) (hi : Option Int), lo ≤ (frL p l r lo hi).2.1
  | [], _, _, _ => Int.le_refl _
  | c :: cs, r, lo, hi => by
    unfold frL
    split
    · have := frL_lo1 (p := p) cs (r + c) (if lo < (p - 1) * (c - 1) - r then (p - 1) * (c - 1) - r else lo) (some (hi.getD (r / (p - 1) + 1)))
      have h2 : lo ≤ (if lo < (p - 1) * (c - 1) - r then (p - 1) * (c - 1) - r else lo) := by split <;> omega
      exact Int.le_trans h2 this
    · exact frL_lo1 cs (r + c) lo hi
theorem fitR_low {p : Int} {l : List Int} {a b : Int} (h : fitR p l = some (a, b)) : 1 ≤ a ∧ a ≤ b := by
  unfold fitR at h
  dsimp only at h
  split at h
  · cases h
  · cases h
    have := frL_lo1 (p := p) l 0 1 none
    omega
theorem m_any_right {p : Int} (hp : 2 ≤ p) (hp5 : p ≤ 5) {o : O} (ho : HandOk o) : ∃ o', F__law_any_right [] o [.int p] = some (.sh (.bl true), o') ∧ HandOk o' := by
  obtain ⟨cs0, o1, e1, ho1, hl0, hc0⟩ := m_pool hp hp5 ho
  obtain ⟨cs, o2, e2, ho2, hl, hsub⟩ := m_robbed ho1 cs0 (by omega)
  have hc : ∀ x ∈ cs, 1 ≤ x ∧ x ≤ 1000000000 := fun x hx => by have := hc0 x (hsub x hx); omega
  have ok : okCoins cs := ⟨by omega, hc⟩
  obtain ⟨d3, o3, e3, ho3, h31, h32⟩ := draw ho2 (many := 9) (by decide) (by decide)
  obtain ⟨d4, o4, e4, ho4, h41, h42⟩ := draw ho3 (many := 1000000000) (by decide) (by decide)
  have hs0 := sum_nonneg fun c hx => (hc c hx).1
  obtain ⟨r1, r2⟩ := next_bound (p := p) hp hs0
  have ef := m_fitting_coins p (by omega) hp5 (.lst (cs.map .int)) cs rfl ok
  have en := m_law_next cs.sum p (by omega) hp5
  have s1 : (fSet 2 (fCallI 0 F__law_robbed (fHere 0 (fCons (fCallI 0 F__law_pool (fHere 0 (fCons (fVar 1) (fCons (fC (.int 7)) fNil)))) fNil)))) [some (.own false o), some (.sh (.int p)), none, none, none, none, none] =
      some (.nx [some (.own false o2), some (.sh (.int p)), some (.sh (.lst (cs.map .int))), none, none, none, none]) := by simp [e1, e2]
  have s2 : (fSet 3 (fCall F_fitting_coins [] (fCons (fVar 2) (fCons (fVar 1) fNil)))) [some (.own false o2), some (.sh (.int p)), some (.sh (.lst (cs.map .int))), none, none, none, none] =
      some (.nx [some (.own false o2), some (.sh (.int p)), some (.sh (.lst (cs.map .int))), some (.sh (pairD (fitR p (sortI cs)))), none, none, none]) := by simp [ef]
  have s3 : anyA2 [some (.own false o2), some (.sh (.int p)), some (.sh (.lst (cs.map .int))), some (.sh (pairD (fitR p (sortI cs)))), none, none, none] =
      some (.nx [some (.own false o4), some (.sh (.int p)), some (.sh (.lst (cs.map .int))), some (.sh (pairD (fitR p (sortI cs)))), some (.sh (.lst ([1, 1 + d3, 1 + d4, cs.sum / (p - 1) + 1].map .int))), none, none]) := by
    simp [anyA2, e3, e4, en, many]
  have s4 : ∃ ts : List Int, anyA3 [some (.own false o4), some (.sh (.int p)), some (.sh (.lst (cs.map .int))), some (.sh (pairD (fitR p (sortI cs)))), some (.sh (.lst ([1, 1 + d3, 1 + d4, cs.sum / (p - 1) + 1].map .int))), none, none] =
      some (.nx [some (.own false o4), some (.sh (.int p)), some (.sh (.lst (cs.map .int))), some (.sh (pairD (fitR p (sortI cs)))), some (.sh (.lst (ts.map .int))), none, none]) ∧ ∀ t ∈ ts, 1 ≤ t := by
    have hb : ∀ t ∈ [1, 1 + d3, 1 + d4, cs.sum / (p - 1) + 1], 1 ≤ t := by
      intro t ht
      simp only [List.mem_cons, List.not_mem_nil, or_false] at ht
      rcases ht with rfl | rfl | rfl | rfl <;> omega
    cases q : fitR p (sortI cs) with
    | none => exact ⟨[1, 1 + d3, 1 + d4, cs.sum / (p - 1) + 1], by simp [anyA3, pairD], hb⟩
    | some ab =>
      obtain ⟨a, b⟩ := ab
      have hab := fitR_low q
      refine ⟨[1, 1 + d3, 1 + d4, cs.sum / (p - 1) + 1] ++ [a, b, if 1 < a - 1 then a - 1 else 1, b + 1], by simp [anyA3, pairD, L2.atI, L2.ixN, many], fun t ht => ?_⟩
      rcases List.mem_append.mp ht with ht | ht
      · exact hb t ht
      · simp only [List.mem_cons, List.not_mem_nil, or_false] at ht
        rcases ht with rfl | rfl | rfl | rfl
        · omega
        · omega
        · split <;> omega
        · omega
  obtain ⟨ts, e5, hts⟩ := s4
  obtain ⟨a', b', e6⟩ := loop_any hp hp5 (by omega) hc (some (.own false o4)) (some (.sh (.lst (ts.map .int)))) ts none none hts
  have s5 : ∃ ρ, anyB [some (.own false o4), some (.sh (.int p)), some (.sh (.lst (cs.map .int))), some (.sh (pairD (fitR p (sortI cs)))), some (.sh (.lst (ts.map .int))), none, none] = some (.rt (.sh (.bl true)) ρ) ∧ ρ[0]? = some (some (.own false o4)) := by
    refine ⟨[some (.own false o4), some (.sh (.int p)), some (.sh (.lst (cs.map .int))), some (.sh (pairD (fitR p (sortI cs)))), some (.sh (.lst (ts.map .int))), a', b'], ?_, rfl⟩
    unfold anyB
    rw [fSeq_nx (ρ' := [some (.own false o4), some (.sh (.int p)), some (.sh (.lst (cs.map .int))), some (.sh (pairD (fitR p (sortI cs)))), some (.sh (.lst (ts.map .int))), a', b'])]
    · rfl
    · rw [← e6]
      rfl
  obtain ⟨ρ, e7, hρ⟩ := s5
  have fin : f__law_any_right [some (.own false o), some (.sh (.int p)), none, none, none, none, none] = some (.rt (.sh (.bl true)) ρ) := by
    rw [f_any, fSeq_nx s1, fSeq_nx s2, fSeq_nx s3, fSeq_nx e5]
    exact e7
  exact ⟨o4, fnI_rt rfl fin hρ ho.one ho4.one, ho4⟩
end K76
end

section
set_option linter.all false
set_option maxRecDepth 100000
set_option maxHeartbeats 2000000
namespace K76
open Fl PySem
theorem inFit_good {p : Int} (hp : 2 ≤ p) {cs : List Int} (h : Good p cs) (c : Int) : inFit p (sortI cs) c = decide (1 ≤ c ∧ c ≤ cs.sum / (p - 1) + 1) := by
  unfold inFit
  rw [fitR_ok hp h, sortI_sum]
theorem m_far_right {p : Int} (hp : 2 ≤ p) (hp5 : p ≤ 5) {cs : List Int} (h : Good p cs) (hl : cs.length ≤ 11) : F__law_far_right [.lst (cs.map .int), .int p] = some (.sh (.bl true)) := by
  obtain ⟨r1, r2⟩ := room_bound hp h (by omega)
  have ok := okCoins_good hp h (by omega)
  have en := next_good hp hp5 h (by omega)
  obtain ⟨d1, e1, n1, y1, _⟩ := serves_fit hp hp5 hl ok.2 (c := cs.sum / (p - 1) + 1) (by omega)
  obtain ⟨d2, e2, n2, _, y2⟩ := serves_fit hp hp5 hl ok.2 (c := cs.sum / (p - 1) + 1 + 1) (by omega)
  have m1 := may_fit hp hp5 ok (c := cs.sum / (p - 1) + 1) (by omega)
  have m2 := may_fit hp hp5 ok (c := cs.sum / (p - 1) + 1 + 1) (by omega)
  have i1 : inFit p (sortI cs) (cs.sum / (p - 1) + 1) = true := by rw [inFit_good hp h]; exact decide_eq_true (by omega)
  have i2 : inFit p (sortI cs) (cs.sum / (p - 1) + 1 + 1) = false := by rw [inFit_good hp h]; exact decide_eq_false (by omega)
  rw [y1 i1] at e1
  obtain ⟨k, w, y2⟩ := y2 i2
  rw [y2] at e2
  rw [i1] at m1
  rw [i2] at m2
  simp at e1 e2
  have hlen : cs.length + 1 ≤ 1000000 := by omega
  simp [F__law_far_right, f__law_far_right, en, m_whole, many, hlen, e1, e2, m1, m2]
end K76
end

section
set_option linter.all false
set_option maxRecDepth 100000
set_option maxHeartbeats 2000000
set_option autoImplicit false
namespace K76
open Fl PySem
def putS (e : List Int) (i : Nat) (w : Int) : List Int := sortI (e.take i ++ [w] ++ e.drop (i + 1))
def tupI (e : List Int) : D := .tup (e.map .int)
theorem m_put_sorted (e : List Int) (i : Nat) (w : Int) (h : i < e.length) (hl : e.length ≤ 1000) : F_put_sorted [tupI e, .int (i : Int), .int w] = some (.sh (tupI (putS e i w))) := by
  have q1 := cutL_take (e.map D.int) i (by simp; omega)
  have q2 := cut_drop (e.map D.int) i (by simpa using h)
  have hs : (e.take i ++ [w] ++ e.drop (i + 1)).length ≤ 1000000 := by simp; omega
  have q3 := dSort_tup (e.take i ++ [w] ++ e.drop (i + 1)) hs
  have c1 := canSort_ints _ hs
  have c2 := isort_ints (e.take i ++ [w] ++ e.drop (i + 1))
  simp at c1 c2
  have hm : min i e.length + 1 + (e.length - (i + 1)) ≤ 1000000 := by omega
  have hm2 : min i e.length + 1 ≤ 1000000 := by omega
  have hm3 : min i e.length + (e.length - (i + 1) + 1) ≤ 1000000 := by omega
  simp [F_put_sorted, f_put_sorted, tupI, putS, q1, q2, many, hm, hm2, hm3, c1, c2]
/-! ### the keys of a layer -/
def kv (keys : List (List Int)) : List (List L2.Key × D) := keys.map fun k => (k.map Sum.inl, .bl true)
def addK (keys : List (List Int)) (k : List Int) : List (List Int) := if k ∈ keys then keys else keys ++ [k]
theorem inl_inj : ∀ a b : List Int, (a.map (Sum.inl : Int → L2.Key)) = b.map Sum.inl ↔ a = b := fun a b => by
  constructor
  · intro h
    exact (List.map_inj_right (fun x y z => Sum.inl.inj z)).mp h
  · rintro rfl; rfl
theorem putG_add (keys : List (List Int)) (k : List Int) : putG (kv keys) (k.map Sum.inl) (.bl true) = kv (addK keys k) := by
  have h1 : ((kv keys).any fun kv => decide (kv.1 = (k.map Sum.inl : List L2.Key))) = decide (k ∈ keys) := by
    unfold kv
    induction keys with
    | nil => simp
    | cons a l ih =>
      simp only [List.map_cons, List.any_cons, ih]
      by_cases h : a = k
      · subst h; simp
      · have : ¬ (a.map (Sum.inl : Int → L2.Key)) = k.map Sum.inl := fun z => h ((inl_inj a k).mp z)
        simp [this, h, Ne.symm h]
  have h2 : (kv keys).map (fun kv => if kv.1 = (k.map Sum.inl : List L2.Key) then (kv.1, D.bl true) else kv) = kv keys := by
    unfold kv
    rw [List.map_map]
    apply List.map_congr_left
    intro a _
    simp
  unfold putG addK
  rw [h1, h2]
  by_cases h : k ∈ keys
  · simp [h]
  · simp [h, kv]
theorem keysOf_ints : ∀ e : List Int, keysOf (e.map D.int) = some (e.map Sum.inl)
  | [] => rfl
  | x :: e => by simp [keysOf, keyOf, keysOf_ints e]
theorem keyT_tup (e : List Int) : keyT (tupI e) = some (e.map Sum.inl) := keysOf_ints e
theorem addK_len (keys : List (List Int)) (k : List Int) : (addK keys k).length ≤ keys.length + 1 := by
  unfold addK
  split
  · omega
  · simp
theorem kv_len (keys : List (List Int)) : (kv keys).length = keys.length := by simp [kv]
def addIn (coin : Int) (entry : List Int) : Nat → List Int → List (List Int) → List (List Int)
  | _, [], keys => keys
  | k, lack :: r, keys => if coin ≤ lack then addIn coin entry (k + 1) r (addK keys (putS entry k (lack - coin))) else addIn coin entry (k + 1) r keys
theorem addIn_len (coin : Int) (entry : List Int) : ∀ (k : Nat) (r : List Int) (keys : List (List Int)), (addIn coin entry k r keys).length ≤ keys.length + r.length
  | _, [], keys => by simp [addIn]
  | k, lack :: r, keys => by
    unfold addIn
    split
    · have := addIn_len coin entry (k + 1) r (addK keys (putS entry k (lack - coin)))
      have := addK_len keys (putS entry k (lack - coin))
      simp; omega
    · have := addIn_len coin entry (k + 1) r keys
      simp; omega
theorem loop_in (x : Option Slot) (coin : Int) (entry : List Int) (hl : entry.length ≤ 1000) : ∀ (r : List Int) (k : Nat) (keys : List (List Int)) (a b : Option Slot), k + r.length ≤ entry.length → keys.length + r.length ≤ 100000 →
    ∃ a' b', forL t_next_entries_0 b_next_entries_1 (enumL k (r.map D.int)) [x, some (.sh (.int coin)), some (.own true (.dT (kv keys))), some (.sh (tupI entry)), a, b] =
      some (.nx [x, some (.sh (.int coin)), some (.own true (.dT (kv (addIn coin entry k r keys)))), some (.sh (tupI entry)), a', b'])
  | [], k, keys, a, b, _, _ => ⟨a, b, by simp [enumL, forL, addIn]⟩
  | lack :: r, k, keys, a, b, h, hk => by
    simp at h hk
    by_cases hc : coin ≤ lack
    · have := addK_len keys (putS entry k (lack - coin))
      obtain ⟨a', b', e⟩ := loop_in x coin entry hl r (k + 1) (addK keys (putS entry k (lack - coin))) (some (.sh (.int (k : Int)))) (some (.sh (.int lack))) (by omega) (by omega)
      refine ⟨a', b', ?_⟩
      unfold addIn
      rw [if_pos hc, ← e]
      have q := m_put_sorted entry k (lack - coin) (by omega) hl
      have hkl : keys.length < 1000000 := by omega
      simp [enumL, forL, t_next_entries_0, b_next_entries_1, hc, q, isOwnT, keyT_tup, kv_len, many, hkl, putG_add]
    · obtain ⟨a', b', e⟩ := loop_in x coin entry hl r (k + 1) keys (some (.sh (.int (k : Int)))) (some (.sh (.int lack))) (by omega) (by omega)
      refine ⟨a', b', ?_⟩
      unfold addIn
      rw [if_neg hc, ← e]
      simp [enumL, forL, t_next_entries_0, b_next_entries_1, hc]
end K76
end

section
set_option linter.all false
set_option maxRecDepth 100000
set_option maxHeartbeats 2000000
set_option autoImplicit false
namespace K76
open Fl PySem
def addAll (coin : Int) : List (List Int) → List (List Int) → List (List Int)
  | [], keys => keys
  | e :: r, keys => addAll coin r (addIn coin e 0 e keys)
theorem addAll_len (coin : Int) (p : Nat) : ∀ (r keys : List (List Int)), (∀ e ∈ r, e.length = p) → (addAll coin r keys).length ≤ keys.length + p * r.length
  | [], keys, _ => by simp [addAll]
  | e :: r, keys, h => by
    have h1 := addAll_len coin p r (addIn coin e 0 e keys) fun x hx => h x (by simp [hx])
    have h2 := addIn_len coin e 0 e keys
    have h3 := h e (by simp)
    simp only [addAll, List.length_cons, Nat.mul_add, Nat.mul_one]
    omega
theorem mem_addK (keys : List (List Int)) (k x : List Int) : x ∈ addK keys k ↔ x ∈ keys ∨ x = k := by
  unfold addK
  split
  · rename_i h
    constructor
    · exact Or.inl
    · rintro (h1 | rfl)
      · exact h1
      · exact h
  · simp
theorem mem_addIn (coin : Int) (entry x : List Int) : ∀ (k : Nat) (r : List Int) (keys : List (List Int)), x ∈ addIn coin entry k r keys ↔ x ∈ keys ∨ ∃ i lack, r[i]? = some lack ∧ coin ≤ lack ∧ x = putS entry (k + i) (lack - coin)
  | k, [], keys => by simp [addIn]
  | k, lack :: r, keys => by
    have hs : (∃ i l, (lack :: r)[i]? = some l ∧ coin ≤ l ∧ x = putS entry (k + i) (l - coin)) ↔ (coin ≤ lack ∧ x = putS entry k (lack - coin)) ∨ (∃ i l, r[i]? = some l ∧ coin ≤ l ∧ x = putS entry (k + 1 + i) (l - coin)) := by
      constructor
      · rintro ⟨i, l, h1, h2, h3⟩
        cases i with
        | zero => simp at h1; subst h1; exact .inl ⟨h2, h3⟩
        | succ i => exact .inr ⟨i, l, by simpa using h1, h2, by rw [h3]; congr 1; omega⟩
      · rintro (⟨h2, h3⟩ | ⟨i, l, h1, h2, h3⟩)
        · exact ⟨0, lack, rfl, h2, h3⟩
        · exact ⟨i + 1, l, by simpa using h1, h2, by rw [h3]; congr 1; omega⟩
    rw [hs]
    unfold addIn
    split
    · rename_i hc
      rw [mem_addIn coin entry x (k + 1) r, mem_addK, or_assoc]
      simp [hc]
    · rename_i hc
      rw [mem_addIn coin entry x (k + 1) r]
      simp [hc]
theorem mem_addAll (coin : Int) (x : List Int) : ∀ (r keys : List (List Int)), x ∈ addAll coin r keys ↔ x ∈ keys ∨ ∃ e ∈ r, ∃ i lack, e[i]? = some lack ∧ coin ≤ lack ∧ x = putS e i (lack - coin)
  | [], keys => by simp [addAll]
  | e :: r, keys => by
    unfold addAll
    rw [mem_addAll coin x r, mem_addIn, or_assoc]
    simp
theorem loop_all (l0 : Option Slot) (coin : Int) (p : Nat) (hp : p ≤ 5) : ∀ (r keys : List (List Int)) (a b c : Option Slot), (∀ e ∈ r, e.length = p) → keys.length + p * r.length ≤ 100000 →
    ∃ a' b' c', forL t_next_entries_2 b_next_entries_3 (r.map tupI) [l0, some (.sh (.int coin)), some (.own true (.dT (kv keys))), a, b, c] =
      some (.nx [l0, some (.sh (.int coin)), some (.own true (.dT (kv (addAll coin r keys)))), a', b', c'])
  | [], keys, a, b, c, _, _ => ⟨a, b, c, by simp [forL, addAll]⟩
  | e :: r, keys, a, b, c, h, hk => by
    have he := h e (by simp)
    simp only [List.length_cons, Nat.mul_add, Nat.mul_one] at hk
    have hl := addIn_len coin e 0 e keys
    obtain ⟨b1, c1, e1⟩ := loop_in l0 coin e (by omega) e 0 keys b c (by omega) (by omega)
    obtain ⟨a', b', c', e2⟩ := loop_all l0 coin p hp r (addIn coin e 0 e keys) (some (.sh (tupI e))) b1 c1 (fun x hx => h x (by simp [hx])) (by omega)
    refine ⟨a', b', c', ?_⟩
    unfold addAll
    rw [← e2]
    have ed : dEnum [tupI e] = some (enumL 0 (e.map D.int)) := by simp [dEnum, tupI]
    simp [-dEnum, forL, t_next_entries_2, b_next_entries_3, ed, e1]
def leT (a b : List Int) : Bool := leD (tupI a) (tupI b)
def nextE (coin : Int) (layer : List (List Int)) : List (List Int) := isort leT (addAll coin layer [])
theorem mem_nextE (coin : Int) (layer : List (List Int)) (x : List Int) : x ∈ nextE coin layer ↔ ∃ e ∈ layer, ∃ i lack, e[i]? = some lack ∧ coin ≤ lack ∧ x = putS e i (lack - coin) := by
  unfold nextE
  rw [(isort_perm leT _).mem_iff, mem_addAll]
  simp
theorem putS_len {e : List Int} {i : Nat} {w : Int} (h : i < e.length) : (putS e i w).length = e.length := by
  unfold putS
  rw [sortI_len]
  simp; omega
theorem nextE_lens {coin : Int} {layer : List (List Int)} {p : Nat} (h : ∀ e ∈ layer, e.length = p) : ∀ e ∈ nextE coin layer, e.length = p := by
  intro x hx
  obtain ⟨e, he, i, l, h1, h2, rfl⟩ := (mem_nextE coin layer x).mp hx
  rw [putS_len (by exact (List.getElem?_eq_some_iff.mp h1).1)]
  exact h e he
theorem nextE_len (coin : Int) (layer : List (List Int)) {p : Nat} (h : ∀ e ∈ layer, e.length = p) : (nextE coin layer).length ≤ p * layer.length := by
  unfold nextE
  rw [isort_length]
  have := addAll_len coin p layer [] h
  simpa using this
theorem likeDs_ints : ∀ a b : List Int, likeDs (a.map .int) (b.map .int) = true
  | [], [] => by simp [likeDs]
  | [], _ :: _ => by simp [likeDs]
  | _ :: _, [] => by simp [likeDs]
  | a :: l, b :: m => by simp [likeDs, likeD, likeDs_ints l m]
theorem fits_tups (n : Nat) : ∀ l : List (List Int), fits (n + 1) (l.map tupI) = true
  | [] => by simp
  | a :: l => by simp [tupI, fits_ints]; exact fits_tups n l
theorem canSort_tups (l : List (List Int)) {p : Nat} (hp : 0 < p) (h : ∀ e ∈ l, e.length = p) (hl : l.length ≤ 1000000) : canSort (l.map tupI) = true := by
  unfold canSort
  rw [fits_tups 6]
  have h1 : likeAll (l.map tupI) = true := by
    unfold likeAll
    rw [List.all_eq_true]
    intro x hx
    rw [List.all_eq_true]
    intro y hy
    obtain ⟨a, _, rfl⟩ := List.mem_map.mp hx
    obtain ⟨b, _, rfl⟩ := List.mem_map.mp hy
    simp [tupI, likeD, likeDs_ints]
  have h2 : (l.map tupI).all tup1 = true := by
    rw [List.all_eq_true]
    intro x hx
    obtain ⟨a, ha, rfl⟩ := List.mem_map.mp hx
    have := h a ha
    cases a with
    | nil => simp at this; omega
    | cons x r => simp [tupI, tup1]
  rw [h1, h2]
  simp [many]
  exact hl
theorem dSort_tups (l : List (List Int)) {p : Nat} (hp : 0 < p) (h : ∀ e ∈ l, e.length = p) (hl : l.length ≤ 1000000) : dSort (.lst (l.map tupI)) = some ((isort leT l).map tupI) := by
  show (if canSort (l.map tupI) then some (isort leD (l.map tupI)) else none) = _
  rw [if_pos (canSort_tups l hp h hl), isort_map tupI (leb := leT) (fun _ _ => rfl)]
def lay (l : List (List Int)) : D := .tup (l.map tupI)
theorem keys_kv (keys : List (List Int)) : (kv keys).map (fun kv => D.tup (kv.1.map keyD)) = keys.map tupI := by
  unfold kv tupI
  rw [List.map_map]
  apply List.map_congr_left
  intro a _
  simp
  intro x _
  rfl
theorem addIn_lens (coin : Int) (layer : List (List Int)) {p : Nat} (h : ∀ e ∈ layer, e.length = p) : ∀ e ∈ addAll coin layer [], e.length = p := by
  intro x hx
  exact nextE_lens h x ((isort_perm leT _).mem_iff.mpr hx)
theorem m_next_entries (layer : List (List Int)) (coin : Int) {p : Nat} (hp : 0 < p) (hp5 : p ≤ 5) (h : ∀ e ∈ layer, e.length = p) (hl : layer.length ≤ 10000) :
    F_next_entries [lay layer, .int coin] = some (.sh (lay (nextE coin layer))) := by
  have hm : p * layer.length ≤ 5 * layer.length := Nat.mul_le_mul_right _ hp5
  obtain ⟨a, b, c, e⟩ := loop_all (some (.sh (lay layer))) coin p hp5 layer [] none none none h (by simp; omega)
  have h2 := addAll_len coin p layer [] h
  simp at h2
  have hs := dSort_tups (addAll coin layer []) hp (addIn_lens coin layer h) (by omega)
  have hk := keys_kv (addAll coin layer [])
  rw [show kv [] = [] from rfl] at e
  simp only [lay] at e
  simp [-dSort, F_next_entries, f_next_entries, lay, nextE, e, hk, hs]
end K76
end

section
set_option linter.all false
set_option maxRecDepth 100000
set_option maxHeartbeats 2000000
set_option autoImplicit false
namespace K76
open Fl PySem
/-! ### the checked couple -/
theorem perm_sum {l m : List Int} (h : l.Perm m) : l.sum = m.sum := by
  induction h with
  | nil => rfl
  | cons x _ ih => simp [ih]
  | swap x y l => simp; omega
  | trans _ _ h1 h2 => rw [h1, h2]
structure okWish (ws : List Int) : Prop where
  one : 1 ≤ ws.length
  five : ws.length ≤ 5
  all : ∀ w ∈ ws, 0 ≤ w ∧ w ≤ 12000000000
theorem loop_wish (x : Option Slot) : ∀ (ws : List Int) (k : Nat) (a b : Option Slot), (∀ n ∈ ws, 0 ≤ n ∧ n ≤ 12000000000) →
    ∃ a' b', forL t_checked_amounts_0 b_checked_amounts_1 (enumL k (ws.map D.int)) [x, a, b] = some (.nx [x, a', b'])
  | [], k, a, b, _ => ⟨a, b, by simp [enumL, forL]⟩
  | w :: ws, k, a, b, h => by
    obtain ⟨a', b', e⟩ := loop_wish x ws (k + 1) (some (.sh (.int (k : Int)))) (some (.sh (.int w))) fun n hn => h n (by simp [hn])
    have hw := h w (by simp)
    refine ⟨a', b', ?_⟩
    rw [← e]
    simp [enumL, forL, t_checked_amounts_0, b_checked_amounts_1, m_is_whole, hw]
theorem m_checked_amounts (d : D) (ws : List Int) (hd : d = .lst (ws.map .int) ∨ d = .tup (ws.map .int)) (ok : okWish ws) : F_checked_amounts [d] = some (.sh (tupI ws)) := by
  obtain ⟨a, b, e⟩ := loop_wish (some (.sh d)) ws 0 none none ok.all
  have hs : dSeq d = some (ws.map .int) := by rcases hd with rfl | rfl <;> rfl
  have h1 := m_is_sequence d (ws.map .int) hs 1 5
  have g1 := ok.one
  have g2 := ok.five
  have g3 : (1 : Int) ≤ ws.length := by omega
  have g4 : (ws.length : Int) ≤ 5 := by omega
  simp [g3, g4] at h1
  rcases hd with rfl | rfl <;> simp [F_checked_amounts, f_checked_amounts, h1, e, tupI]
theorem m_check_wish (d : D) (ws : List Int) (s : Int) (hd : d = .lst (ws.map .int) ∨ d = .tup (ws.map .int)) (ok : okWish ws) (hs : ws.sum = s) : F_check_wish [d, .int s] = some (.sh (tupI ws)) := by
  simp [F_check_wish, f_check_wish, m_checked_amounts d ws hd ok, tupI, hs]
theorem m_checked_couple (d e : D) (ns ws : List Int) (hd : dSeq d = some (ns.map .int)) (ok : okCoins ns) (he : e = .lst (ws.map .int) ∨ e = .tup (ws.map .int)) (okw : okWish ws) (hs : ws.sum = ns.sum) :
    F_checked_couple [d, e] = some (.sh (.tup [tupI (sortI ns), tupI ws])) := by
  have h := m_check_wish e ws (sortI ns).sum he okw (by rw [hs, perm_sum (sortI_perm ns)])
  simp [F_checked_couple, f_checked_couple, m_check_pool d ns hd ok, h, tupI, many]
/-! ### the layers -/
def lays : List Int → List (List Int) → List (List (List Int))
  | [], L => [L]
  | c :: r, L => if nextE c L = [] then [L, []] else L :: lays r (nextE c L)
theorem noLs_tups : ∀ l : List (List Int), noLs (l.map tupI) = true
  | [] => by simp [noLs]
  | a :: l => by simp [noLs, tupI, noLs_ints]; exact noLs_tups l
theorem noL_lay (l : List (List Int)) : noL (lay l) = true := by simp [lay, noLs_tups]
theorem noLs_lays : ∀ l : List (List (List Int)), noLs (l.map lay) = true
  | [] => by simp [noLs]
  | a :: l => by simp [noLs, noL_lay]; exact noLs_lays l
theorem lay_last (ds : List (List (List Int))) (L : List (List Int)) : dIx (.lst ((ds ++ [L]).map lay)) (.int (-1)) = some (lay L) := by
  have h1 : (1 : Int) ≤ (ds.length : Int) + 1 := by omega
  have h2 : (-1 + ((ds.length : Int) + 1)).toNat = ds.length := by omega
  simp [L2.atI, L2.ixN, h1, h2]
theorem loop_lays (p : Nat) (hp : 0 < p) (hp5 : p ≤ 5) (x0 x1 x2 x3 : Option Slot) : ∀ (r : List Int) (ds : List (List (List Int))) (L : List (List Int)) (a b : Option Slot), (∀ e ∈ L, e.length = p) → (∀ l ∈ lays r L, l.length ≤ 400) → ds.length + r.length ≤ 1000 →
    (∃ ρ, forL t_layers_of_0 b_layers_of_1 (r.map D.int) [x0, x1, x2, x3, some (.own true (.lst ((ds ++ [L]).map lay))), a, b] = some (.rt (.sh (.tup ((ds ++ lays r L).map lay))) ρ)) ∨
    (∃ a' b', forL t_layers_of_0 b_layers_of_1 (r.map D.int) [x0, x1, x2, x3, some (.own true (.lst ((ds ++ [L]).map lay))), a, b] = some (.nx [x0, x1, x2, x3, some (.own true (.lst ((ds ++ lays r L).map lay))), a', b']))
  | [], ds, L, a, b, h, _, _ => .inr ⟨a, b, by simp [forL, lays]⟩
  | c :: r, ds, L, a, b, h, h4, hl => by
    have hL : L.length ≤ 400 := h4 L (by unfold lays; split <;> simp)
    have hn := m_next_entries L c hp hp5 h (by omega)
    have hi := lay_last ds L
    have nl := noL_lay L
    have hlen : ds.length + 1 < 1000000 := by simp at hl; omega
    by_cases he : nextE c L = []
    · left
      have nls := noLs_lays (ds ++ [L, []])
      refine ⟨[x0, x1, x2, x3, some (.own true (.lst ((ds ++ [L, []]).map lay))), some (.sh (.int c)), some (.sh (lay []))], ?_⟩
      rw [he] at hn
      simp [-dIx, lay] at hn hi nl nls
      unfold lays
      rw [if_pos he]
      simp [-dIx, forL, t_layers_of_0, b_layers_of_1, lay, hn, hi, nl, nls, many, hlen]
    · have h5 : (nextE c L).length ≤ 400 := h4 _ (by
        unfold lays
        rw [if_neg he]
        cases r with
        | nil => simp [lays]
        | cons c2 r2 => unfold lays; split <;> simp)
      have hrec := loop_lays p hp hp5 x0 x1 x2 x3 r (ds ++ [L]) (nextE c L) (some (.sh (.int c))) (some (.sh (lay (nextE c L)))) (nextE_lens h) (fun l hx => h4 l (by
        unfold lays
        rw [if_neg he]
        exact .tail _ hx)) (by simp at hl ⊢; omega)
      have hst : forL t_layers_of_0 b_layers_of_1 ((c :: r).map D.int) [x0, x1, x2, x3, some (.own true (.lst ((ds ++ [L]).map lay))), a, b] =
          forL t_layers_of_0 b_layers_of_1 (r.map D.int) [x0, x1, x2, x3, some (.own true (.lst ((ds ++ [L] ++ [nextE c L]).map lay))), some (.sh (.int c)), some (.sh (lay (nextE c L)))] := by
        have h6 : ¬ (400 : Int) < (nextE c L).length := by omega
        have h7 : dTruth (lay (nextE c L)) = some true := by
          cases hx : nextE c L with
          | nil => exact absurd hx he
          | cons y ys => simp [lay]
        have h8 : dLen (lay (nextE c L)) = some (.int (nextE c L).length) := by simp [lay]
        simp [-dIx] at hi
        simp [-dIx, -dTruth, -dLen, forL, t_layers_of_0, b_layers_of_1, hn, hi, nl, h6, h7, h8, many, hlen]
      rw [hst]
      have el : ds ++ lays (c :: r) L = (ds ++ [L]) ++ lays r (nextE c L) := by
        conv => lhs; unfold lays
        rw [if_neg he]; simp
      rw [el]
      exact hrec
theorem m_layers_of (d e : D) (ns ws : List Int) (hd : dSeq d = some (ns.map .int)) (ok : okCoins ns) (he : e = .lst (ws.map .int) ∨ e = .tup (ws.map .int)) (okw : okWish ws) (hs : ws.sum = ns.sum)
    (h4 : ∀ l ∈ lays (sortI ns).reverse [sortI ws], l.length ≤ 400) (hns : ns.length ≤ 1000) : F_layers_of [d, e] = some (.sh (.tup ((lays (sortI ns).reverse [sortI ws]).map lay))) := by
  have h1 := m_checked_couple d e ns ws hd ok he okw hs
  have g2 := okw.five
  have h2 := dSort_tup ws (by omega)
  have hlen : (sortI ns).length ≤ 1000 := by rw [sortI_len]; exact hns
  have nls := noLs_lays (lays (sortI ns).reverse [sortI ws])
  have hl := loop_lays ws.length okw.one okw.five (some (.sh d)) (some (.sh e)) (some (.sh (tupI (sortI ns)))) (some (.sh (tupI ws))) (sortI ns).reverse [] [sortI ws] none none (by simp [sortI_len]) h4 (by simpa using hlen)
  simp [tupI] at h1
  simp [lay, tupI] at hl nls
  rcases hl with ⟨ρ, h⟩ | ⟨a, b, h⟩ <;> simp [-dSort, F_layers_of, f_layers_of, h1, h2, h, nls, lay, tupI, many]
end K76
end

section
set_option linter.all false
set_option maxRecDepth 100000
set_option maxHeartbeats 2000000
set_option autoImplicit false
namespace K76
open Fl PySem
/-! ### an earlier entry -/
def foundE (coin : Int) (entry : List Int) : Nat → List Int → List (List Int)
  | _, [] => []
  | k, lack :: r => putS entry k (lack + coin) :: foundE coin entry (k + 1) r
theorem foundE_len (coin : Int) (entry : List Int) : ∀ (k : Nat) (r : List Int), (foundE coin entry k r).length = r.length
  | _, [] => rfl
  | k, lack :: r => by simp [foundE, foundE_len coin entry (k + 1) r]
theorem mem_foundE (coin : Int) (entry x : List Int) : ∀ (k : Nat) (r : List Int), x ∈ foundE coin entry k r ↔ ∃ i lack, r[i]? = some lack ∧ x = putS entry (k + i) (lack + coin)
  | k, [] => by simp [foundE]
  | k, lack :: r => by
    simp only [foundE, List.mem_cons, mem_foundE coin entry x (k + 1) r]
    constructor
    · rintro (rfl | ⟨i, l, h1, h3⟩)
      · exact ⟨0, lack, rfl, rfl⟩
      · exact ⟨i + 1, l, by simpa using h1, by rw [h3]; congr 1; omega⟩
    · rintro ⟨i, l, h1, h3⟩
      cases i with
      | zero => simp at h1; subst h1; exact .inl h3
      | succ i => exact .inr ⟨i, l, by simpa using h1, by rw [h3]; congr 1; omega⟩
theorem eqD_tupI (a b : List Int) : eqD (tupI a) (tupI b) = decide (a = b) := by simp [tupI, eqDs_ints]
theorem in_lay (x : List Int) (layer : List (List Int)) : dInS false (tupI x) (lay layer) = some (.bl (decide (x ∈ layer))) := by
  have h1 := fits_tups 6 layer
  have h2 : fit 8 (tupI x) = true := by simp [tupI, fits_ints]
  have h3 : ((layer.map tupI).any fun z => eqD z (tupI x)) = decide (x ∈ layer) := by
    clear h1 h2
    induction layer with
    | nil => simp
    | cons a l ih =>
      simp only [List.map_cons, List.any_cons, ih, eqD_tupI]
      by_cases h : a = x
      · subst h; simp
      · simp [h, Ne.symm h]
  show (some (layer.map tupI)).bind _ = _
  simp [h1, h2, h3]
theorem loop_found (x0 x3 x6 : Option Slot) (entry : List Int) (coin : Int) (hl : entry.length ≤ 1000) : ∀ (r : List Int) (k : Nat), k + r.length ≤ entry.length →
    lcL t_earlier_entry_0 c_earlier_entry_1 e_earlier_entry_2 [4, 5] (enumL k (r.map D.int)) [x0, some (.sh (tupI entry)), some (.sh (.int coin)), x3, none, none, x6] =
      some ((foundE coin entry k r).map tupI, [x0, some (.sh (tupI entry)), some (.sh (.int coin)), x3, none, none, x6])
  | [], k, _ => by simp [enumL, lcL, foundE]
  | lack :: r, k, h => by
    simp at h
    have e := loop_found x0 x3 x6 entry coin hl r (k + 1) (by omega)
    have q := m_put_sorted entry k (lack + coin) (by omega) hl
    simp [t_earlier_entry_0, c_earlier_entry_1, e_earlier_entry_2] at e
    simp [enumL, lcL, noOwn, noOwn1, wipeF, backF, t_earlier_entry_0, c_earlier_entry_1, e_earlier_entry_2, q, foundE, e]
theorem loop_known (layer : List (List Int)) (x1 x2 x3 x4 x5 : Option Slot) : ∀ (r : List (List Int)),
    lcL t_earlier_entry_3 c_earlier_entry_4 e_earlier_entry_5 [6] (r.map tupI) [some (.sh (lay layer)), x1, x2, x3, x4, x5, none] =
      some ((r.filter fun e => decide (e ∈ layer)).map tupI, [some (.sh (lay layer)), x1, x2, x3, x4, x5, none])
  | [] => by simp [lcL]
  | a :: r => by
    have e := loop_known layer x1 x2 x3 x4 x5 r
    have q := in_lay a layer
    simp [t_earlier_entry_3, c_earlier_entry_4, e_earlier_entry_5, -dInS] at e
    by_cases h : a ∈ layer <;> simp [-dInS, lcL, noOwn, noOwn1, wipeF, backF, t_earlier_entry_3, c_earlier_entry_4, e_earlier_entry_5, q, h, e]
theorem m_earlier_entry (layer : List (List Int)) (entry x : List Int) (coin : Int) (xs : List (List Int)) (hl : entry.length ≤ 5) (hx : (foundE coin entry 0 entry).filter (fun e => decide (e ∈ layer)) = x :: xs) : F_earlier_entry [lay layer, tupI entry, .int coin] = some (.sh (tupI x)) := by
  have e1 := loop_found (some (.sh (lay layer))) none none entry coin (by omega) entry 0 (by omega)
  have e2 := loop_known layer (some (.sh (tupI entry))) (some (.sh (.int coin))) (some (.sh (.lst ((foundE coin entry 0 entry).map tupI)))) none none (foundE coin entry 0 entry)
  rw [hx] at e2
  have hd : dEnum [tupI entry] = some (enumL 0 (entry.map D.int)) := by simp [dEnum, tupI]
  have hn : (enumL 0 (entry.map D.int)).length < 1000000 := by rw [enumL_ints_len]; omega
  have hn2 : (foundE coin entry 0 entry).length < 1000000 := by rw [foundE_len]; omega
  simp [-dEnum, -dInS, F_earlier_entry, f_earlier_entry, hd, hn, hn2, many, e1, e2, L2.atI, L2.ixN]
end K76
end

section
set_option linter.all false
set_option maxRecDepth 100000
set_option maxHeartbeats 2000000
set_option autoImplicit false
namespace K76
open Fl PySem
/-! ### steps from layer to layer -/
theorem putS_set {e : List Int} {i : Nat} {w : Int} (h : i < e.length) : putS e i w = sortI (e.set i w) := by
  unfold putS
  rw [List.set_eq_take_append_cons_drop, if_pos h]
  simp
theorem set_mid {x : List Int} {i : Nat} (h : i < x.length) (v : Int) : (x.set i v).Perm (v :: (x.take i ++ x.drop (i + 1))) := by
  rw [List.set_eq_take_append_cons_drop, if_pos h]
  exact List.perm_middle
theorem self_mid {x : List Int} {i : Nat} {w : Int} (hi : x[i]? = some w) : x.Perm (w :: (x.take i ++ x.drop (i + 1))) := by
  obtain ⟨h1, e1⟩ := List.getElem?_eq_some_iff.mp hi
  have := set_mid h1 x[i]
  rw [List.set_getElem_self] at this
  rwa [e1] at this
theorem swap_perm {x m : List Int} {w v : Int} {i j : Nat} (p : x.Perm m) (hi : x[i]? = some w) (hj : m[j]? = some w) : (x.set i v).Perm (m.set j v) := by
  have h1 := (List.getElem?_eq_some_iff.mp hi).1
  have h2 := (List.getElem?_eq_some_iff.mp hj).1
  have a3 := ((self_mid hi).symm.trans (p.trans (self_mid hj))).cons_inv
  exact (set_mid h1 v).trans ((a3.cons v).trans (set_mid h2 v).symm)
/-- y follows from x when coin c is handed out -/
def Step (c : Int) (x y : List Int) : Prop := ∃ i l, x[i]? = some l ∧ c ≤ l ∧ y = putS x i (l - c)
theorem mem_next {c : Int} {L : List (List Int)} {y : List Int} : y ∈ nextE c L ↔ ∃ x ∈ L, Step c x y := mem_nextE c L y
/-- an entry behind: whatever steps to y is found among y's earlier ones -/
theorem step_back {c : Int} {x y : List Int} (hx : x.Pairwise (· ≤ ·)) (s : Step c x y) : x ∈ foundE c y 0 y := by
  obtain ⟨i, l, h1, h2, rfl⟩ := s
  have hi := (List.getElem?_eq_some_iff.mp h1).1
  rw [putS_set hi]
  have p := sortI_perm (x.set i (l - c))
  have hm : (l - c) ∈ sortI (x.set i (l - c)) := p.mem_iff.mpr (List.mem_set hi _)
  obtain ⟨j, hj, ej⟩ := List.mem_iff_getElem.mp hm
  have hj2 : (sortI (x.set i (l - c)))[j]? = some (l - c) := List.getElem?_eq_some_iff.mpr ⟨hj, ej⟩
  refine (mem_foundE c _ x 0 _).mpr ⟨j, l - c, hj2, ?_⟩
  rw [Nat.zero_add, putS_set hj, show l - c + c = l by omega]
  have q := swap_perm (v := l) p hj2 (List.getElem?_set_self hi)
  rw [List.set_set] at q
  have ex : x.set i l = x := by
    obtain ⟨_, e⟩ := List.getElem?_eq_some_iff.mp h1
    rw [← e]; exact List.set_getElem_self _
  rw [ex] at q
  exact (sorted_uniq (sortI_sorted _) hx ((sortI_perm _).trans q)).symm
theorem step_of_back {c : Int} {x y : List Int} (hy : y.Pairwise (· ≤ ·)) (hp : ∀ l ∈ y, 0 ≤ l) (h : x ∈ foundE c y 0 y) : Step c x y := by
  obtain ⟨j, l, h1, rfl⟩ := (mem_foundE c y x 0 y).mp h
  rw [Nat.zero_add]
  have hj := (List.getElem?_eq_some_iff.mp h1).1
  rw [putS_set hj]
  have p := sortI_perm (y.set j (l + c))
  have hm : (l + c) ∈ sortI (y.set j (l + c)) := p.mem_iff.mpr (List.mem_set hj _)
  obtain ⟨i, hi, ei⟩ := List.mem_iff_getElem.mp hm
  have hi2 : (sortI (y.set j (l + c)))[i]? = some (l + c) := List.getElem?_eq_some_iff.mpr ⟨hi, ei⟩
  have h0 := hp l (List.mem_iff_getElem?.mpr ⟨j, h1⟩)
  refine ⟨i, l + c, hi2, by omega, ?_⟩
  rw [putS_set hi, show l + c - c = l by omega]
  have q := swap_perm (v := l) p hi2 (List.getElem?_set_self hj)
  rw [List.set_set] at q
  have ey : y.set j l = y := by
    obtain ⟨_, e⟩ := List.getElem?_eq_some_iff.mp h1
    rw [← e]; exact List.set_getElem_self _
  rw [ey] at q
  exact (sorted_uniq (sortI_sorted _) hy ((sortI_perm _).trans q)).symm
/-- entries: ascending, from 0 -/
def Ent (p : Nat) (y : List Int) : Prop := y.length = p ∧ y.Pairwise (· ≤ ·) ∧ ∀ l ∈ y, 0 ≤ l
theorem Step.ent {p : Nat} {c : Int} {x y : List Int} (hx : Ent p x) (s : Step c x y) : Ent p y := by
  obtain ⟨i, l, h1, h2, rfl⟩ := s
  have hi := (List.getElem?_eq_some_iff.mp h1).1
  refine ⟨by rw [putS_len hi]; exact hx.1, ?_, fun z hz => ?_⟩
  · unfold putS; exact sortI_sorted _
  · rw [putS_set hi] at hz
    rcases List.mem_or_eq_of_mem_set ((sortI_perm _).mem_iff.mp hz) with hz | rfl
    · exact hx.2.2 z hz
    · omega
end K76
end

section
set_option linter.all false
set_option maxRecDepth 100000
set_option maxHeartbeats 2000000
set_option autoImplicit false
namespace K76
open Fl PySem
/-- the entries behind x, one for each coin -/
def Way : List Int → List Int → List (List Int) → Prop
  | [], _, es => es = []
  | c :: r, x, es => ∃ y t, es = y :: t ∧ Step c x y ∧ Way r y t
theorem back_some {c : Int} {M : List (List Int)} {p : Nat} {y : List Int} (hM : ∀ x ∈ M, Ent p x) (hy : y ∈ nextE c M) :
    ∃ x xs, (foundE c y 0 y).filter (fun e => decide (e ∈ M)) = x :: xs ∧ x ∈ M ∧ Step c x y := by
  obtain ⟨x, hx, s⟩ := mem_next.mp hy
  have ey := s.ent (hM x hx)
  have hf : x ∈ (foundE c y 0 y).filter (fun e => decide (e ∈ M)) := List.mem_filter.mpr ⟨step_back (hM x hx).2.1 s, by simpa using hx⟩
  cases h : (foundE c y 0 y).filter (fun e => decide (e ∈ M)) with
  | nil => rw [h] at hf; cases hf
  | cons z zs =>
    have hz : z ∈ (foundE c y 0 y).filter (fun e => decide (e ∈ M)) := by rw [h]; simp
    obtain ⟨h1, h2⟩ := List.mem_filter.mp hz
    exact ⟨z, zs, rfl, by simpa using h2, step_of_back ey.2.1 ey.2.2 h1⟩
theorem atI_lay {Ls : List (List (List Int))} {j : Nat} {M : List (List Int)} (h : Ls[j]? = some M) (z : Int) (hz : z = (j : Int)) : L2.atI (Ls.map lay) z = some (lay M) := by
  subst hz
  rw [atI_nat']
  simp [h]
theorem loop_chain (x1 : Option Slot) (cs : List Int) (Ls : List (List (List Int))) (p : Nat) (hp5 : p ≤ 5) (hLs : ∀ j, j < cs.length → ∃ M c, Ls[j]? = some M ∧ cs.reverse[j]? = some c ∧ Ls[j + 1]? = some (nextE c M))
    (hE : ∀ M ∈ Ls, ∀ y ∈ M, Ent p y) (hlen : cs.length ≤ 100) : ∀ (n k : Nat) (y : List Int) (t : List (List Int)) (a : Option Slot), k + n = cs.length → 1 ≤ k → (∃ M, Ls[n + 1]? = some M ∧ y ∈ M) → Way (cs.take (k - 1)).reverse y t → t.length ≤ k →
    ∃ y' t' a', forL t_chained_entries_0 b_chained_entries_1 (rgD k n) [some (.sh (tupI cs)), some (.sh (.tup (Ls.map lay))), some (.sh (tupI y)), some (.own true (.lst ((y :: t).reverse.map tupI))), a] =
      some (.nx [some (.sh (tupI cs)), some (.sh (.tup (Ls.map lay))), some (.sh (tupI y')), some (.own true (.lst ((y' :: t').reverse.map tupI))), a']) ∧ Way (cs.take (cs.length - 1)).reverse y' t' ∧ ∃ M, Ls[1]? = some M ∧ y' ∈ M
  | 0, k, y, t, a, hk, h1, hM, hw, ht => ⟨y, t, a, by simp [rgD, forL], by rw [show cs.length = k by omega]; exact hw, by simpa using hM⟩
  | n + 1, k, y, t, a, hk, h1, hM, hw, ht => by
    obtain ⟨M, c, e1, e2, e3⟩ := hLs (n + 1) (by omega)
    obtain ⟨M', f1, f2⟩ := hM
    rw [e3] at f1
    cases f1
    have hEM : ∀ x ∈ M, Ent p x := hE M (List.mem_of_getElem? e1)
    obtain ⟨x, xs, g1, g2, g3⟩ := back_some hEM f2
    have ey := g3.ent (hEM x g2)
    have q := m_earlier_entry M y x c xs (by rw [ey.1]; exact hp5) g1
    have hc : cs[k - 1]? = some c := by
      rw [List.getElem?_reverse (by omega)] at e2
      rw [← e2]; congr 1; omega
    have hw2 : Way (cs.take (k + 1 - 1)).reverse x (y :: t) := by
      have : cs.take k = cs.take (k - 1) ++ [c] := by
        have := List.take_succ (l := cs) (i := k - 1)
        rw [show k - 1 + 1 = k by omega, hc] at this
        simpa using this
      rw [Nat.add_sub_cancel, this]
      simp only [List.reverse_append, List.reverse_cons, List.reverse_nil, List.nil_append, List.cons_append]
      exact ⟨y, t, rfl, g3, hw⟩
    obtain ⟨y', t', a', r1, r2, r3⟩ := loop_chain x1 cs Ls p hp5 hLs hE hlen n (k + 1) x (y :: t) (some (.sh (.int (k : Int)))) (by omega) (by omega) ⟨M, e1, g2⟩ hw2 (by simp; omega)
    refine ⟨y', t', a', ?_, r2, r3⟩
    rw [← r1]
    have i1 := atI_lay e1 ((cs.length : Int) - k) (by omega)
    have i2 : L2.atI (cs.map D.int) ((k : Int) - 1) = some (.int c) := by
      rw [show (k : Int) - 1 = ((k - 1 : Nat) : Int) by omega, atI_nat']
      simp [hc]
    have hm : t.length + 1 < 1000000 := by omega
    simp [rgD, List.range'_succ, forL, t_chained_entries_0, b_chained_entries_1, tupI, many, hm] at q i1 i2 ⊢
    simp [i1, i2, q, hm]
end K76
end

section
set_option linter.all false
set_option maxRecDepth 100000
set_option maxHeartbeats 2000000
set_option autoImplicit false
namespace K76
open Fl PySem
theorem rngL_rg1 (n : Nat) : rngL 1 n = rgD 1 n := by
  unfold rngL rgD
  rw [List.range'_eq_map_range]
  simp
def layF : List Int → List (List Int) → List (List (List Int))
  | [], L => [L]
  | c :: r, L => L :: layF r (nextE c L)
theorem layF_len : ∀ (r : List Int) (L : List (List Int)), (layF r L).length = r.length + 1
  | [], L => rfl
  | c :: r, L => by simp [layF, layF_len r]
theorem layF_get : ∀ (r : List Int) (L : List (List Int)) (j : Nat), j < r.length → ∃ M c, (layF r L)[j]? = some M ∧ r[j]? = some c ∧ (layF r L)[j + 1]? = some (nextE c M)
  | c :: r, L, 0, _ => by
    refine ⟨L, c, rfl, rfl, ?_⟩
    cases r <;> rfl
  | c :: r, L, j + 1, h => by
    obtain ⟨M, d, h1, h2, h3⟩ := layF_get r (nextE c L) j (by simpa using h)
    exact ⟨M, d, by simpa [layF] using h1, by simpa using h2, by simpa [layF] using h3⟩
theorem lays_full : ∀ (r : List Int) (L : List (List Int)), (∀ M ∈ layF r L, M ≠ []) → lays r L = layF r L
  | [], L, _ => rfl
  | c :: r, L, h => by
    have hn : nextE c L ≠ [] := h _ (by cases r <;> simp [layF])
    unfold lays layF
    rw [if_neg hn, lays_full r (nextE c L) fun M hM => h M (by simp [layF, hM])]
theorem layF_ent {p : Nat} : ∀ (r : List Int) (L : List (List Int)), (∀ y ∈ L, Ent p y) → ∀ M ∈ layF r L, ∀ y ∈ M, Ent p y
  | [], L, h, M, hM, y, hy => by simp [layF] at hM; subst hM; exact h y hy
  | c :: r, L, h, M, hM, y, hy => by
    simp only [layF, List.mem_cons] at hM
    rcases hM with rfl | hM
    · exact h y hy
    · refine layF_ent r (nextE c L) (fun z hz => ?_) M hM y hy
      obtain ⟨x, hx, s⟩ := mem_next.mp hz
      exact s.ent (h x hx)
theorem dRng2_one (n : Nat) (h : n ≤ 100) : dRng2 [.int 1, .int (n : Int)] = some (rgD 1 (n - 1)) := by
  have hs1 : small 1 = true := by unfold small; exact decide_eq_true (by decide)
  have hs2 := small_nat n (by omega)
  have hn : ((n : Int) - 1).toNat = n - 1 := by omega
  unfold dRng2
  simp only [hs1, hs2, hn, rngL_rg1, Bool.and_self, if_true]
theorem Way.len : ∀ {r : List Int} {x : List Int} {es : List (List Int)}, Way r x es → es.length = r.length
  | [], _, _, h => by cases h; rfl
  | _ :: _, _, _, ⟨_, _, e, _, w⟩ => by subst e; simp [w.len]
theorem m_chained_entries (cs e0 : List Int) {p : Nat} (hp5 : p ≤ 5) (he : Ent p e0) (h1 : 1 ≤ cs.length) (hlen : cs.length ≤ 100) (hne : ∀ M ∈ layF cs.reverse [e0], M ≠ []) :
    ∃ es, F_chained_entries [tupI cs, .tup ((layF cs.reverse [e0]).map lay)] = some (.sh (.lst (es.map tupI))) ∧ Way cs.reverse e0 es := by
  have hn := layF_len cs.reverse [e0]
  simp only [List.length_reverse] at hn
  have hg : ∀ j, j < cs.length → ∃ M c, (layF cs.reverse [e0])[j]? = some M ∧ cs.reverse[j]? = some c ∧ (layF cs.reverse [e0])[j + 1]? = some (nextE c M) := fun j hj => layF_get _ _ j (by simpa using hj)
  have hE := layF_ent (p := p) cs.reverse [e0] (by simpa using he)
  have h00 : (layF cs.reverse [e0])[0]? = some [e0] := by cases cs.reverse <;> rfl
  generalize hL : layF cs.reverse [e0] = Ls at *
  obtain ⟨M, hM⟩ : ∃ M, Ls[cs.length]? = some M := ⟨_, List.getElem?_eq_getElem (by omega)⟩
  have hMm := List.mem_of_getElem? hM
  cases hy : M with
  | nil => exact absurd hy (hne M hMm)
  | cons y ys =>
    obtain ⟨y', t', a', e, w, N, n1, n2⟩ := loop_chain none cs Ls p hp5 hg hE hlen (cs.length - 1) 1 y [] none (by omega) (by omega) ⟨M, by rw [show cs.length - 1 + 1 = cs.length by omega]; exact hM, by rw [hy]; simp⟩ (by simp [Way]) (by simp)
    refine ⟨y' :: t', ?_, ?_⟩
    · have i1 : dIx (.tup (Ls.map lay)) (.int (-1)) = some (lay M) := by
        have h2 : (1 : Int) ≤ (cs.length : Int) + 1 := by omega
        have h3 : (-1 + ((cs.length : Int) + 1)).toNat = cs.length := by omega
        have h4 : L2.ixN (Ls.map lay).length (-1) = some cs.length := by simp [L2.ixN, hn, h2, h3]
        show L2.atI (Ls.map lay) (-1) = _
        unfold L2.atI
        rw [h4]
        show (Ls.map lay)[cs.length]? = _
        rw [List.getElem?_map, hM]
        rfl
      have i2 : dIx (lay M) (.int 0) = some (tupI y) := by
        have : (0 : Int) < (ys.length : Int) + 1 := by omega
        simp [L2.atI, L2.ixN, lay, hy, this]
      have i3 := dRng2_one cs.length hlen
      have i4 : dLen (tupI cs) = some (.int cs.length) := by simp [tupI]
      have nl := noLs_tups (t'.reverse ++ [y'])
      have nl2 := noLs_tups (y' :: t')
      simp at e nl nl2
      have wl := w.len
      have hm : t'.length + 1 ≤ 1000000 := by simp at wl; omega
      have s3 : (fFor (fArgs dRng2 (fCons (fC (.int 1)) (fCons (fArgs (d1 dLen) (fCons (fVar 0) fNil)) fNil))) t_chained_entries_0 b_chained_entries_1) [some (.sh (tupI cs)), some (.sh (.tup (Ls.map lay))), some (.sh (tupI y)), some (.own true (.lst [tupI y])), none] =
          some (.nx [some (.sh (tupI cs)), some (.sh (.tup (Ls.map lay))), some (.sh (tupI y')), some (.own true (.lst ((t'.map tupI).reverse ++ [tupI y']))), a']) := by
        have h1 : (fArgs dRng2 (fCons (fC (.int 1)) (fCons (fArgs (d1 dLen) (fCons (fVar 0) fNil)) fNil))) [some (.sh (tupI cs)), some (.sh (.tup (Ls.map lay))), some (.sh (tupI y)), some (.own true (.lst [tupI y])), none] =
            some (rgD 1 (cs.length - 1), [some (.sh (tupI cs)), some (.sh (.tup (Ls.map lay))), some (.sh (tupI y)), some (.own true (.lst [tupI y])), none]) := by
          exact fArgs_of (by simp [-dLen, i4]) i3
        unfold fFor
        rw [h1]
        exact e
      have s1 : (fSet 2 (fBin dIx (fBin dIx (fVar 1) (fUn dNeg (fC (.int 1)))) (fC (.int 0)))) [some (.sh (tupI cs)), some (.sh (.tup (Ls.map lay))), none, none, none] =
          some (.nx [some (.sh (tupI cs)), some (.sh (.tup (Ls.map lay))), some (.sh (tupI y)), none, none]) := by simp [-dIx, i1, i2]
      have s2 : (fSetO 3 (fLst (fArgs dLst (fCons (fVar 2) fNil)))) [some (.sh (tupI cs)), some (.sh (.tup (Ls.map lay))), some (.sh (tupI y)), none, none] =
          some (.nx [some (.sh (tupI cs)), some (.sh (.tup (Ls.map lay))), some (.sh (tupI y)), some (.own true (.lst [tupI y])), none]) := by simp [many]
      show outD 5 (f_chained_entries [some (.sh (tupI cs)), some (.sh (.tup (Ls.map lay))), none, none, none]) = _
      unfold f_chained_entries
      rw [fSeq_nx s1, fSeq_nx s2, fSeq_nx s3]
      simp [nl, nl2, okO, many, hm]
    · have h2 : cs.reverse[0]? = some (cs[cs.length - 1]'(by omega)) := by simp [List.getElem?_reverse (show 0 < cs.length by omega)]
      obtain ⟨M0, c, g1, g2, g3⟩ := hg 0 (by omega)
      rw [h00] at g1
      cases g1
      rw [n1] at g3
      cases g3
      obtain ⟨x, hx, s⟩ := mem_next.mp n2
      simp at hx
      subst hx
      have hr : cs.reverse = c :: (cs.take (cs.length - 1)).reverse := by
        have hc : cs[cs.length - 1]? = some c := by
          rw [List.getElem?_reverse (by omega)] at g2
          simpa using g2
        have := List.take_succ (l := cs) (i := cs.length - 1)
        rw [show cs.length - 1 + 1 = cs.length by omega, hc, List.take_length] at this
        conv => lhs; rw [this]
        simp
      rw [hr]
      exact ⟨y', t', rfl, s, w⟩
end K76
end

section
set_option linter.all false
set_option maxRecDepth 100000
set_option maxHeartbeats 2000000
set_option autoImplicit false
namespace K76
open Fl PySem
/-! ### layers of a serving pool: none is empty; their sizes; a failing one is stuck -/
theorem putS_sum {x : List Int} {i : Nat} {l c : Int} (h : x[i]? = some l) : (putS x i (l - c)).sum = x.sum - c := by
  have hi := (List.getElem?_eq_some_iff.mp h).1
  rw [putS_set hi, sortI_sum, Fl.sum_perm (set_mid hi (l - c)), Fl.sum_perm (self_mid h), List.sum_cons, List.sum_cons]
  omega
theorem sum_le_mul (m : Int) : ∀ (y : List Int), (∀ l ∈ y, l ≤ m) → y.sum ≤ y.length * m
  | [], _ => by simp
  | a :: y, h => by
    have h1 := h a (by simp)
    have h2 := sum_le_mul m y fun l hl => h l (by simp [hl])
    rw [List.sum_cons, List.length_cons]
    have : ((y.length + 1 : Nat) : Int) * m = y.length * m + m := by rw [Int.natCast_add, Int.add_mul]; simp
    omega
theorem room_mul {p c r : Int} (hp : 2 ≤ p) (hc : c ≤ r / (p - 1) + 1) : p * (c - 1) < r + c := by
  have h := Int.ediv_mul_le r (show p - 1 ≠ 0 by omega)
  have h1 : (c - 1) * (p - 1) ≤ r / (p - 1) * (p - 1) := Int.mul_le_mul_of_nonneg_right (by omega) (by omega)
  have h2 : p * (c - 1) = (c - 1) * (p - 1) + (c - 1) := by
    rw [Int.mul_comm p, Int.mul_sub]; omega
  omega
theorem step_exists {p : Nat} (hp : 2 ≤ p) {c r : Int} {y : List Int} (hl : y.length = p) (hc : c ≤ r / ((p : Int) - 1) + 1) (hs : y.sum = r + c) : ∃ z, Step c y z := by
  by_cases h : ∀ l ∈ y, l ≤ c - 1
  · have h1 := sum_le_mul (c - 1) y h
    have h2 := room_mul (p := (p : Int)) (by omega) hc
    rw [hl] at h1
    omega
  · have ⟨l, h1, h2⟩ : ∃ l, l ∈ y ∧ ¬ l ≤ c - 1 := by
      by_cases q : ∃ l, l ∈ y ∧ ¬ l ≤ c - 1
      · exact q
      · exact absurd (fun l hl => by by_cases z : l ≤ c - 1; exact z; exact absurd ⟨l, hl, z⟩ q) h
    obtain ⟨i, hi⟩ := List.mem_iff_getElem?.mp h1
    exact ⟨_, i, l, hi, by omega, rfl⟩
theorem okL_snoc {p : Int} {c : Int} : ∀ {l : List Int} {r : Int}, okL p r (l ++ [c]) ↔ okL p r l ∧ 1 ≤ c ∧ c ≤ (r + l.sum) / (p - 1) + 1
  | [], r => by simp [okL]
  | d :: l, r => by
    simp only [List.cons_append, okL, okL_snoc (l := l), List.sum_cons, Int.add_assoc, and_assoc]
theorem sum_reverse' (l : List Int) : l.reverse.sum = l.sum := Fl.sum_perm (List.reverse_perm l)
theorem lay_full {p : Nat} (hp : 2 ≤ p) : ∀ (r : List Int) (L : List (List Int)), okL p 0 r.reverse → L ≠ [] → (∀ y ∈ L, y.length = p ∧ y.sum = r.sum) → ∀ M ∈ layF r L, M ≠ []
  | [], L, _, hL, _, M, hM => by simp [layF] at hM; subst hM; exact hL
  | c :: r, L, ho, hL, hy, M, hM => by
    rw [List.reverse_cons, okL_snoc, sum_reverse', Int.zero_add] at ho
    obtain ⟨ho1, ho2, ho3⟩ := ho
    simp only [layF, List.mem_cons] at hM
    rcases hM with rfl | hM
    · exact hL
    · refine lay_full hp r (nextE c L) ho1 ?_ (fun z hz => ?_) M hM
      · cases L with
        | nil => exact absurd rfl hL
        | cons y ys =>
          have h1 := hy y (by simp)
          obtain ⟨z, hz⟩ := step_exists hp h1.1 ho3 (by rw [h1.2, List.sum_cons]; omega)
          intro e
          have : z ∈ nextE c (y :: ys) := mem_next.mpr ⟨y, by simp, hz⟩
          rw [e] at this
          cases this
      · obtain ⟨y, hy1, i, l, h1, h2, rfl⟩ := mem_next.mp hz
        have h3 := hy y hy1
        refine ⟨by rw [putS_len (List.getElem?_eq_some_iff.mp h1).1]; exact h3.1, ?_⟩
        rw [putS_sum h1, h3.2, List.sum_cons]
        omega
theorem lay_size {p : Nat} (hp : 1 ≤ p) : ∀ (r : List Int) (L : List (List Int)), (∀ y ∈ L, y.length = p) → ∀ M ∈ lays r L, M.length ≤ p ^ r.length * L.length
  | [], L, _, M, hM => by simp [lays] at hM; subst hM; simp
  | c :: r, L, h, M, hM => by
    have h1 : 1 ≤ p ^ (r.length + 1) := Nat.one_le_pow _ _ hp
    have h2 : L.length ≤ p ^ (r.length + 1) * L.length := Nat.le_mul_of_pos_left _ h1
    have h3 := nextE_len c L h
    have h4 : p ^ r.length * (nextE c L).length ≤ p ^ r.length * (p * L.length) := Nat.mul_le_mul_left _ h3
    have h5 : p ^ r.length * (p * L.length) = p ^ (r.length + 1) * L.length := by rw [← Nat.mul_assoc, Nat.pow_succ]
    unfold lays at hM
    split at hM
    · simp only [List.mem_cons, List.not_mem_nil, or_false] at hM
      rcases hM with rfl | rfl
      · simpa using h2
      · simp
    · rcases List.mem_cons.mp hM with rfl | hM
      · simpa using h2
      · have := lay_size hp r (nextE c L) (nextE_lens h) M hM
        simp only [List.length_cons]
        omega
theorem lays_stuck {u c : Int} {es rest : List Int} (he : ∀ e ∈ es, e ≤ u) (huc : u < c) : ∀ (A : List Int) (L : List (List Int)), (∀ d ∈ A, u < d) → (∀ y ∈ L, y.Perm ((u + A.sum) :: es)) → ∃ init, lays (A ++ c :: rest) L = init ++ [[]]
  | [], L, _, hL => by
    have hn : nextE c L = [] := by
      cases h : nextE c L with
      | nil => rfl
      | cons z zs =>
        obtain ⟨y, hy, i, l, h1, h2, _⟩ := mem_next.mp (show z ∈ nextE c L by rw [h]; simp)
        have hm := (hL y hy).mem_iff.mp (List.mem_of_getElem? h1)
        simp only [List.sum_nil, List.mem_cons] at hm
        rcases hm with hm | hm
        · omega
        · have := he l hm; omega
    refine ⟨[L], ?_⟩
    simp [lays, hn]
  | d :: A, L, hA, hL => by
    have hd := hA d (by simp)
    by_cases hn : nextE d L = []
    · exact ⟨[L], by simp [lays, hn]⟩
    · obtain ⟨init, e⟩ := lays_stuck (rest := rest) he huc A (nextE d L) (fun x hx => hA x (by simp [hx])) (fun z hz => by
        obtain ⟨y, hy, i, l, h1, h2, rfl⟩ := mem_next.mp hz
        have hp := hL y hy
        have hm := hp.mem_iff.mp (List.mem_of_getElem? h1)
        have hi := (List.getElem?_eq_some_iff.mp h1).1
        have hl : l = u + (d :: A).sum := by
          rcases List.mem_cons.mp hm with hm | hm
          · exact hm
          · have := he l hm; omega
        rw [putS_set hi]
        refine (sortI_perm _).trans ((set_mid hi _).trans ?_)
        have q := (self_mid h1).symm.trans hp
        rw [← hl] at q
        have q := q.cons_inv
        rw [List.sum_cons] at hl
        rw [show l - d = u + A.sum by omega]
        exact q.cons _)
      refine ⟨L :: init, ?_⟩
      show lays (d :: (A ++ c :: rest)) L = _
      unfold lays
      rw [if_neg hn, e]
      rfl
/-! ### the wish of the first failing place -/
theorem failL_head {p : Int} : ∀ {cs : List Int} {k : Nat} {r z : Int} {zs : List Int}, failL p cs k r = z :: zs → ∃ j c, z = ((k + j : Nat) : Int) ∧ cs[j]? = some c ∧ -(-(r + (cs.take (j + 1)).sum) / p) < c
  | [], _, _, _, _, h => by simp [failL] at h
  | c :: cs, k, r, z, zs, h => by
    simp only [failL] at h
    split at h
    · rename_i hc
      injection h with h1 h2
      exact ⟨0, c, by simpa using h1.symm, rfl, by simpa using hc⟩
    · obtain ⟨j, d, e1, e2, e3⟩ := failL_head h
      exact ⟨j + 1, d, by rw [e1]; congr 1; omega, by simpa using e2, by
        rw [List.take_succ_cons, List.sum_cons, ← Int.add_assoc]; exact e3⟩
theorem evenly_sum {a q : Int} (h1 : 1 ≤ q) (h4 : q ≤ 4) : (evenly a q).sum = a := by
  have : q = 1 ∨ q = 2 ∨ q = 3 ∨ q = 4 := by omega
  rcases this with rfl | rfl | rfl | rfl
  · simp [evenly, List.range_succ]
  · simp [evenly, List.range_succ]; split <;> split <;> omega
  · simp [evenly, List.range_succ]; split <;> split <;> split <;> omega
  · simp [evenly, List.range_succ]; split <;> split <;> split <;> split <;> omega
theorem evenly_le {S p : Int} (hp : 2 ≤ p) (hp5 : p ≤ 5) (hS : 0 ≤ S) : ∀ e ∈ evenly (S - -(-S / p)) (p - 1), 0 ≤ e ∧ e ≤ -(-S / p) := by
  intro e he
  unfold evenly at he
  obtain ⟨i, _, rfl⟩ := List.mem_map.mp he
  have : p = 2 ∨ p = 3 ∨ p = 4 ∨ p = 5 := by omega
  rcases this with rfl | rfl | rfl | rfl
  · split <;> omega
  · simp only [show (3 : Int) - 1 = 2 by rfl]; split <;> omega
  · simp only [show (4 : Int) - 1 = 3 by rfl]; split <;> omega
  · simp only [show (5 : Int) - 1 = 4 by rfl]; split <;> omega
theorem wish_stuck {p : Int} (hp : 2 ≤ p) (hp5 : p ≤ 5) {l : List Int} (hs : l.Pairwise (· ≤ ·)) (h1 : ∀ c ∈ l, 1 ≤ c) {z : Int} {zs : List Int} (hf : failL p l 0 0 = z :: zs) :
    (wishS p l z.toNat).sum = l.sum ∧ (wishS p l z.toNat).length = p.toNat ∧ (∀ w ∈ wishS p l z.toNat, 0 ≤ w ∧ w ≤ l.sum) ∧ ∃ init, lays l.reverse [sortI (wishS p l z.toNat)] = init ++ [[]] := by
  obtain ⟨j, c, rfl, hj, hc⟩ := failL_head hf
  rw [Nat.zero_add, Int.toNat_natCast]
  rw [Int.zero_add] at hc
  have hjl := (List.getElem?_eq_some_iff.mp hj).1
  have hS : 0 ≤ (l.take (j + 1)).sum := sum_nonneg fun c hx => h1 c (List.mem_of_mem_take hx)
  have hD : 0 ≤ (l.drop (j + 1)).sum := sum_nonneg fun c hx => h1 c (List.mem_of_mem_drop hx)
  have hsum : (l.take (j + 1)).sum + (l.drop (j + 1)).sum = l.sum := by rw [← List.sum_append, List.take_append_drop]
  have hev := evenly_le hp hp5 hS
  have hu : 0 ≤ -(-(l.take (j + 1)).sum / p) ∧ -(-(l.take (j + 1)).sum / p) ≤ (l.take (j + 1)).sum := by
    have : p = 2 ∨ p = 3 ∨ p = 4 ∨ p = 5 := by omega
    rcases this with rfl | rfl | rfl | rfl <;> omega
  have hes := evenly_sum (a := (l.take (j + 1)).sum - -(-(l.take (j + 1)).sum / p)) (q := p - 1) (by omega) (by omega)
  have hw : wishS p l j = (-(-(l.take (j + 1)).sum / p) + (l.drop (j + 1)).sum) :: evenly ((l.take (j + 1)).sum - -(-(l.take (j + 1)).sum / p)) (p - 1) := rfl
  generalize (l.take (j + 1)).sum = S at *
  generalize -(-S / p) = u at *
  refine ⟨?_, ?_, ?_, ?_⟩
  · rw [hw, List.sum_cons, hes]; omega
  · rw [hw, List.length_cons, evenly_len]; omega
  · intro w hx
    rw [hw] at hx
    rcases List.mem_cons.mp hx with rfl | hx
    · omega
    · have := hev w hx; omega
  · have hsplit : l.reverse = (l.drop (j + 1)).reverse ++ c :: (l.take j).reverse := by
      have e : l = l.take j ++ c :: l.drop (j + 1) := by
        have := List.getElem?_eq_some_iff.mp hj
        obtain ⟨a, b⟩ := this
        conv => lhs; rw [← List.take_append_drop j l, List.drop_eq_getElem_cons a, b]
      conv => lhs; rw [e]
      simp
    have hge : ∀ d ∈ l.drop (j + 1), c ≤ d := by
      intro d hd
      have e : l = l.take j ++ c :: l.drop (j + 1) := by
        obtain ⟨a, b⟩ := List.getElem?_eq_some_iff.mp hj
        conv => lhs; rw [← List.take_append_drop j l, List.drop_eq_getElem_cons a, b]
      rw [e] at hs
      have := (List.pairwise_append.mp hs).2.1
      exact (List.pairwise_cons.mp this).1 d hd
    rw [hsplit]
    refine lays_stuck (u := u) (es := evenly (S - u) (p - 1)) (fun e he => (hev e he).2) hc _ _ (fun d hd => ?_) (fun y hy => ?_)
    · have := hge d (List.mem_reverse.mp hd); omega
    · simp only [List.mem_singleton] at hy
      subst hy
      rw [sum_reverse']
      refine (sortI_perm _).trans ?_
      rw [hw]
end K76
end

section
set_option linter.all false
set_option maxRecDepth 100000
set_option maxHeartbeats 2000000
set_option autoImplicit false
namespace K76
open Fl PySem
/-! ### any_split: none -/
theorem lay_lastT (ds : List (List (List Int))) (L : List (List Int)) : dIx (.tup ((ds ++ [L]).map lay)) (.int (-1)) = some (lay L) := by
  have h1 : (1 : Int) ≤ (ds.length : Int) + 1 := by omega
  have h2 : (-1 + ((ds.length : Int) + 1)).toNat = ds.length := by omega
  simp [L2.atI, L2.ixN, h1, h2]
theorem m_any_split_no (d e : D) (ns ws : List Int) (hd : dSeq d = some (ns.map .int)) (ok : okCoins ns) (he : e = .lst (ws.map .int) ∨ e = .tup (ws.map .int)) (okw : okWish ws) (hs : ws.sum = ns.sum)
    (h4 : ∀ l ∈ lays (sortI ns).reverse [sortI ws], l.length ≤ 400) (hl : ∃ init, lays (sortI ns).reverse [sortI ws] = init ++ [[]]) : ∃ x, F_any_split [d, e] = some (.sh (.obj 0 [x])) := by
  obtain ⟨init, hl⟩ := hl
  have h1 := m_checked_couple d e ns ws hd ok he okw hs
  have h2 := m_layers_of (tupI (sortI ns)) (tupI ws) (sortI ns) ws rfl ok.sort (.inr rfl) okw (by rw [sortI_sum]; exact hs) (by rw [sortI_sortI]; exact h4) (by rw [sortI_len]; have := ok.1; omega)
  rw [sortI_sortI, hl] at h2
  have h3 := lay_lastT init []
  generalize (init ++ [[]]).map lay = Ls at h2 h3
  refine ⟨.tup Ls, ?_⟩
  have h5 : dTruth (lay []) = some false := by simp [lay]
  simp [-dIx, -dTruth, F_any_split, f_any_split, h1, h2, h3, h5]
/-! ### any_split: the person who takes a coin -/
def goodAt (lacks : List Int) (c : Int) (y : List Int) (i : Nat) : Prop := ∃ l, lacks[i]? = some l ∧ c ≤ l ∧ putS lacks i (l - c) = y
theorem atI_ints {l : List Int} {k : Nat} {v : Int} (h : l[k]? = some v) : L2.atI (l.map D.int) (k : Int) = some (.int v) := by
  rw [atI_nat', List.getElem?_map, h]
  rfl
abbrev asE (x0 x1 x2 x3 x4 : Option Slot) (lacks : List Int) (x6 : Option Slot) (x7 a b c x11 : Option Slot) : Fenv := [x0, x1, x2, x3, x4, some (.own true (.lst (lacks.map .int))), x6, x7, a, b, c, x11]
theorem test_val (x0 x1 x2 x3 x4 x6 x7 x11 : Option Slot) (lacks : List Int) (hl : lacks.length ≤ 5) (c l : Int) (y : List Int) (k : Nat) (hk : lacks[k]? = some l) :
    c_any_split_1 (asE x0 x1 x2 x3 x4 lacks x6 x7 (some (.sh (.int c))) (some (.sh (tupI y))) (some (.sh (.int (k : Int)))) x11) =
      some (!decide (c ≤ l ∧ putS lacks k (l - c) = y), asE x0 x1 x2 x3 x4 lacks x6 x7 (some (.sh (.int c))) (some (.sh (tupI y))) (some (.sh (.int (k : Int)))) x11) := by
  have hkl := (List.getElem?_eq_some_iff.mp hk).1
  have q := m_put_sorted lacks k (l - c) hkl (by omega)
  have q2 := atI_ints hk
  have hm : lacks.length ≤ 1000000 := by omega
  simp only [tupI] at q
  by_cases h : l < c
  · have h2 : ¬ c ≤ l := by omega
    simp [c_any_split_1, asE, q2, h, h2]
  · have h2 : c ≤ l := by omega
    have f1 := fits_ints 7 (putS lacks k (l - c))
    have f2 := fits_ints 7 y
    simp [c_any_split_1, asE, q2, h, h2, q, many, hm, tupI, f1, f2, eqDs_ints, noLs_ints]
theorem while_find (x0 x1 x2 x3 x4 x6 x7 x11 : Option Slot) (lacks : List Int) (hl : lacks.length ≤ 5) (c : Int) (y : List Int) : ∀ (n k : Nat), lacks.length < k + n → (∃ j, k ≤ j ∧ goodAt lacks c y j) →
    ∃ j, goodAt lacks c y j ∧ fWhile c_any_split_1 b_any_split_2 n (asE x0 x1 x2 x3 x4 lacks x6 x7 (some (.sh (.int c))) (some (.sh (tupI y))) (some (.sh (.int (k : Int)))) x11) =
      some (.nx (asE x0 x1 x2 x3 x4 lacks x6 x7 (some (.sh (.int c))) (some (.sh (tupI y))) (some (.sh (.int (j : Int)))) x11))
  | 0, k, hn, ⟨j, hj, l, h1, _⟩ => by
    have := (List.getElem?_eq_some_iff.mp h1).1
    omega
  | n + 1, k, hn, ⟨j, hj, g⟩ => by
    have hjl : j < lacks.length := by obtain ⟨l, h1, _⟩ := g; exact (List.getElem?_eq_some_iff.mp h1).1
    obtain ⟨l, hk⟩ : ∃ l, lacks[k]? = some l := ⟨_, List.getElem?_eq_getElem (by omega)⟩
    have tv := test_val x0 x1 x2 x3 x4 x6 x7 x11 lacks hl c l y k hk
    by_cases hg : c ≤ l ∧ putS lacks k (l - c) = y
    · refine ⟨k, ⟨l, hk, hg⟩, ?_⟩
      unfold fWhile
      rw [tv]
      simp [hg]
    · obtain ⟨j', g', e⟩ := while_find x0 x1 x2 x3 x4 x6 x7 x11 lacks hl c y n (k + 1) (by omega) ⟨j, by
        have : j ≠ k := by
          rintro rfl
          obtain ⟨l2, h1, h2, h3⟩ := g
          rw [hk] at h1
          cases h1
          exact hg ⟨h2, h3⟩
        omega, g⟩
      refine ⟨j', g', ?_⟩
      rw [← e]
      conv => lhs; unfold fWhile
      rw [tv]
      simp [hg, b_any_split_2, asE]
theorem good_of_step {c : Int} {lacks y : List Int} (s : Step c (sortI lacks) y) : ∃ j, goodAt lacks c y j := by
  obtain ⟨i, l, h1, h2, rfl⟩ := s
  have hi := (List.getElem?_eq_some_iff.mp h1).1
  obtain ⟨j, hj⟩ := List.mem_iff_getElem?.mp (sortI_mem.mp (List.mem_of_getElem? h1))
  refine ⟨j, l, hj, h2, ?_⟩
  rw [putS_set hi, putS_set (List.getElem?_eq_some_iff.mp hj).1]
  exact sortI_congr (swap_perm (sortI_perm lacks) h1 hj).symm
/-! ### any_split: the coins handed out -/
def Giv : List Int → List Int → List (List Int) → List Int → List (List Int) → Prop
  | [], lacks, gs, lacks', gs' => lacks' = lacks ∧ gs' = gs
  | c :: r, lacks, gs, lacks', gs' => ∃ i l g, lacks[i]? = some l ∧ c ≤ l ∧ gs[i]? = some g ∧ Giv r (lacks.set i (l - c)) (gs.set i (g ++ [c])) lacks' gs'
def llO (gs : List (List Int)) : Option Slot := some (.own true (.ll (gs.map fun g => g.map .int)))
theorem loop_give (x0 x1 x2 x3 x4 x7 x11 : Option Slot) {p : Nat} (hp : p ≤ 5) : ∀ (r x : List Int) (es : List (List Int)) (lacks : List Int) (gs : List (List Int)) (a b c : Option Slot), Way r x es → sortI lacks = x → lacks.length = p → gs.length = p → (∀ g ∈ gs, g.length + r.length ≤ 1000) →
    ∃ lacks' gs' a' b' c', forL t_any_split_3 b_any_split_4 (zipL (r.map D.int) (es.map tupI)) (asE x0 x1 x2 x3 x4 lacks (llO gs) x7 a b c x11) = some (.nx (asE x0 x1 x2 x3 x4 lacks' (llO gs') x7 a' b' c' x11)) ∧ Giv r lacks gs lacks' gs'
  | [], x, es, lacks, gs, a, b, c, w, hx, h1, h2, h3 => ⟨lacks, gs, a, b, c, by simp [zipL, forL], rfl, rfl⟩
  | d :: r, x, es, lacks, gs, a, b, c, ⟨y, t, e, s, w⟩, hx, h1, h2, h3 => by
    subst e
    subst hx
    obtain ⟨j, g, ew⟩ := while_find x0 x1 x2 x3 x4 (llO gs) x7 x11 lacks (by omega) d y 64 0 (by omega) (by obtain ⟨j, hj⟩ := good_of_step s; exact ⟨j, Nat.zero_le _, hj⟩)
    obtain ⟨l, g1, g2, g3⟩ := g
    have hjl := (List.getElem?_eq_some_iff.mp g1).1
    obtain ⟨q, hq⟩ : ∃ q, gs[j]? = some q := ⟨_, List.getElem?_eq_getElem (by omega)⟩
    have hql := h3 q (List.mem_of_getElem? hq)
    obtain ⟨lacks', gs', a', b', c', ef, G⟩ := loop_give x0 x1 x2 x3 x4 x7 x11 hp r y t (lacks.set j (l - d)) (gs.set j (q ++ [d])) (some (.sh (.int d))) (some (.sh (tupI y))) (some (.sh (.int (j : Int)))) w (by rw [← g3, putS_set hjl]) (by simpa using h1) (by simpa using h2) (fun g hg => by
      rcases List.mem_or_eq_of_mem_set hg with hg | rfl
      · have := h3 g hg; simp at this; omega
      · simp at hql ⊢; omega)
    refine ⟨lacks', gs', a', b', c', ?_, j, l, q, g1, g2, hq, G⟩
    rw [← ef]
    have i1 := atI_ints g1
    have i2 : L2.ixN lacks.length (j : Int) = some j := by simp [L2.ixN, hjl]
    have i3 : L2.ixN gs.length (j : Int) = some j := by simp [L2.ixN, h2, ← h1, hjl]
    have i4 : q.length < 1000000 := by omega
    simp only [Int.natCast_zero] at ew
    simp [zipL, forL, t_any_split_3, b_any_split_4, asE, llO, i1, i2, i3, hq, many, i4, List.map_set] at ew ⊢
    simp [ew, isOwnL, i1, i2, i3, hq, many, i4, List.map_set]
theorem loop_purses (x0 x1 x2 x3 x4 x5 x6 x7 x8 x9 x10 : Option Slot) : ∀ (gs : List (List Int)), (∀ g ∈ gs, g.length ≤ 1000) →
    lcL t_any_split_5 c_any_split_6 e_any_split_7 [11] (gs.map fun g => .lst (g.map .int)) [x0, x1, x2, x3, x4, x5, x6, x7, x8, x9, x10, none] = some (gs.map fun g => tupI g.reverse, [x0, x1, x2, x3, x4, x5, x6, x7, x8, x9, x10, none])
  | [], _ => by simp [lcL]
  | g :: gs, h => by
    have e := loop_purses x0 x1 x2 x3 x4 x5 x6 x7 x8 x9 x10 gs fun g hg => h g (by simp [hg])
    have hg : g.length ≤ 1000000 := by have := h g (by simp); omega
    simp [t_any_split_5, c_any_split_6, e_any_split_7] at e
    simp [lcL, noOwn, noOwn1, wipeF, backF, t_any_split_5, c_any_split_6, e_any_split_7, e, many, hg, tupI]
/-! ### any_split: what is given -/
theorem flat_set {gs : List (List Int)} {i : Nat} {g : List Int} (h : gs[i]? = some g) (c : Int) : (gs.set i (g ++ [c])).flatten.Perm (gs.flatten ++ [c]) := by
  obtain ⟨hi, e⟩ := List.getElem?_eq_some_iff.mp h
  have e1 : gs = gs.take i ++ g :: gs.drop (i + 1) := by
    conv => lhs; rw [← List.take_append_drop i gs, List.drop_eq_getElem_cons hi, e]
  have e2 : gs.set i (g ++ [c]) = gs.take i ++ (g ++ [c]) :: gs.drop (i + 1) := by
    rw [List.set_eq_take_append_cons_drop, if_pos hi]
  rw [e2]
  conv => rhs; rw [e1]
  simp only [List.flatten_append, List.flatten_cons, List.append_assoc]
  exact List.Perm.append_left _ (List.Perm.append_left _ List.perm_append_comm)
theorem set_sum {x : List Int} {i : Nat} {l c : Int} (h : x[i]? = some l) : (x.set i (l - c)).sum = x.sum - c := by
  rw [Fl.sum_perm (set_mid (List.getElem?_eq_some_iff.mp h).1 (l - c)), Fl.sum_perm (self_mid h), List.sum_cons, List.sum_cons]
  omega
structure Gvn (r lacks : List Int) (gs : List (List Int)) (lacks' : List Int) (gs' : List (List Int)) : Prop where
  l1 : lacks'.length = lacks.length
  l2 : gs'.length = gs.length
  nn : ∀ l ∈ lacks', 0 ≤ l
  sm : lacks'.sum = lacks.sum - r.sum
  ea : ∀ (i : Nat) (l : Int) (g : List Int), lacks'[i]? = some l → gs'[i]? = some g → ∃ l0 g0, lacks[i]? = some l0 ∧ gs[i]? = some g0 ∧ l + g.sum = l0 + g0.sum
  fl : gs'.flatten.Perm (gs.flatten ++ r)
  so : ∀ g ∈ gs', g.Pairwise (fun a b => b ≤ a)
  le : ∀ g ∈ gs', g.length ≤ gs.flatten.length + r.length
theorem Giv.props : ∀ {r lacks : List Int} {gs : List (List Int)} {lacks' : List Int} {gs' : List (List Int)}, Giv r lacks gs lacks' gs' → (∀ l ∈ lacks, 0 ≤ l) → r.Pairwise (fun a b => b ≤ a) → (∀ g ∈ gs, g.Pairwise (fun a b => b ≤ a) ∧ ∀ x ∈ g, ∀ d ∈ r, d ≤ x) → Gvn r lacks gs lacks' gs'
  | [], lacks, gs, _, _, ⟨rfl, rfl⟩, h1, h2, h3 => by
    refine ⟨rfl, rfl, h1, by simp, fun i l g a b => ⟨l, g, a, b, rfl⟩, by simp, fun g hg => (h3 g hg).1, fun g hg => ?_⟩
    have : g.length ≤ gs.flatten.length := (List.sublist_flatten_of_mem hg).length_le
    simpa using this
  | c :: r, lacks, gs, lacks', gs', ⟨i, l, g, e1, e2, e3, G⟩, h1, h2, h3 => by
    obtain ⟨h21, h22⟩ := List.pairwise_cons.mp h2
    have hi1 := (List.getElem?_eq_some_iff.mp e1).1
    have hi2 := (List.getElem?_eq_some_iff.mp e3).1
    have P := Giv.props G (fun x hx => by
      rcases List.mem_or_eq_of_mem_set hx with hx | rfl
      · exact h1 x hx
      · omega) h22 (fun x hx => by
      rcases List.mem_or_eq_of_mem_set hx with hx | rfl
      · exact ⟨(h3 x hx).1, fun y hy d hd => (h3 x hx).2 y hy d (by simp [hd])⟩
      · obtain ⟨q1, q2⟩ := h3 g (List.mem_of_getElem? e3)
        refine ⟨List.pairwise_append.mpr ⟨q1, by simp, fun a ha b hb => ?_⟩, fun y hy d hd => ?_⟩
        · simp only [List.mem_singleton] at hb
          subst hb
          exact q2 a ha b (by simp)
        · rcases List.mem_append.mp hy with hy | hy
          · exact q2 y hy d (by simp [hd])
          · simp only [List.mem_singleton] at hy
            subst hy
            exact h21 d hd)
    have fl := P.fl
    have le := P.le
    have fs := flat_set e3 c
    refine ⟨by simpa using P.l1, by simpa using P.l2, P.nn, ?_, fun k m q a b => ?_, ?_, P.so, fun x hx => ?_⟩
    · rw [P.sm, set_sum e1, List.sum_cons]; omega
    · obtain ⟨l0, g0, b1, b2, b3⟩ := P.ea k m q a b
      by_cases hk : k = i
      · subst hk
        rw [List.getElem?_set_self hi1] at b1
        rw [List.getElem?_set_self hi2] at b2
        cases b1
        cases b2
        refine ⟨l, g, e1, e3, ?_⟩
        rw [b3, List.sum_append]
        simp
        omega
      · rw [List.getElem?_set_ne (by omega)] at b1
        rw [List.getElem?_set_ne (by omega)] at b2
        exact ⟨l0, g0, b1, b2, b3⟩
    · refine fl.trans ?_
      refine (fs.append_right r).trans ?_
      rw [List.append_assoc]
      exact List.Perm.refl _
    · have := le x hx
      have := fs.length_eq
      simp only [List.length_append, List.length_cons, List.length_nil] at *
      omega
theorem all_zero : ∀ {l : List Int}, (∀ x ∈ l, 0 ≤ x) → l.sum = 0 → ∀ x ∈ l, x = 0
  | [], _, _, x, hx => by simp at hx
  | a :: l, h, hs, x, hx => by
    have h1 := h a (by simp)
    have h2 : ∀ (m : List Int), (∀ x ∈ m, 0 ≤ x) → 0 ≤ m.sum := by
      intro m
      induction m with
      | nil => simp
      | cons b m ih =>
        intro q
        have := ih fun x hx => q x (by simp [hx])
        have := q b (by simp)
        rw [List.sum_cons]; omega
    have h3 := h2 l fun x hx => h x (by simp [hx])
    rw [List.sum_cons] at hs
    rcases List.mem_cons.mp hx with rfl | hx
    · omega
    · exact all_zero (fun x hx => h x (by simp [hx])) (by omega) x hx
theorem m_any_split (d e : D) (ns ws : List Int) (hd : dSeq d = some (ns.map .int)) (ok : okCoins ns) (he : e = .lst (ws.map .int) ∨ e = .tup (ws.map .int)) (okw : okWish ws) (hs : ws.sum = ns.sum)
    (h4 : ∀ l ∈ lays (sortI ns).reverse [sortI ws], l.length ≤ 400) (hn1 : 1 ≤ ns.length) (hne : ∀ M ∈ layF (sortI ns).reverse [sortI ws], M ≠ []) :
    ∃ gs : List (List Int), F_any_split [d, e] = some (.sh (.tup (gs.map tupI))) ∧ gs.length = ws.length ∧ (∀ (i : Nat) (g : List Int), gs[i]? = some g → ws[i]? = some g.sum) ∧ (∀ g ∈ gs, g.Pairwise (· ≤ ·)) ∧ gs.flatten.Perm ns := by
  have h1 := m_checked_couple d e ns ws hd ok he okw hs
  have h2 := m_layers_of (tupI (sortI ns)) (tupI ws) (sortI ns) ws rfl ok.sort (.inr rfl) okw (by rw [sortI_sum]; exact hs) (by rw [sortI_sortI]; exact h4) (by rw [sortI_len]; have := ok.1; omega)
  rw [sortI_sortI, lays_full _ _ hne] at h2
  have hEnt : Ent ws.length (sortI ws) := ⟨sortI_len ws, sortI_sorted ws, fun l hl => (okw.all l (sortI_mem.mp hl)).1⟩
  obtain ⟨es, h3, hW⟩ := m_chained_entries (sortI ns) (sortI ws) okw.five hEnt (by rw [sortI_len]; exact hn1) (by rw [sortI_len]; have := ok.1; omega) hne
  obtain ⟨init, M, hM⟩ : ∃ init M, layF (sortI ns).reverse [sortI ws] = init ++ [M] := by
    rcases List.eq_nil_or_concat (layF (sortI ns).reverse [sortI ws]) with h | ⟨a, b, h⟩
    · have := layF_len (sortI ns).reverse [sortI ws]
      rw [h] at this
      simp at this
    · exact ⟨a, b, by simpa using h⟩
  have hM0 : M ≠ [] := hne M (by rw [hM]; simp)
  have hT : dTruth (lay M) = some true := by
    cases M with
    | nil => exact absurd rfl hM0
    | cons a l => simp [lay]
  have h5 := lay_lastT init M
  rw [← hM] at h5
  generalize (layF (sortI ns).reverse [sortI ws]).map lay = Ls at h2 h3 h5
  have g5 := okw.five
  obtain ⟨lacks', gs', a', b', c', e6, G⟩ := loop_give (some (.sh d)) (some (.sh e)) (some (.sh (tupI (sortI ns)))) (some (.sh (tupI ws))) (some (.sh (.tup Ls))) none none g5 (sortI ns).reverse (sortI ws) es ws (ws.map fun _ => []) none none none hW rfl rfl (by simp) (fun g hg => by
    obtain ⟨_, _, rfl⟩ := List.mem_map.mp hg
    have := ok.1
    simp [sortI_len]; omega)
  have hf0 : (ws.map fun _ => ([] : List Int)).flatten = [] := by
    induction ws with
    | nil => rfl
    | cons a l ih => simp
  have P := Giv.props G (fun l hl => (okw.all l hl).1) (by rw [List.pairwise_reverse]; exact sortI_sorted ns) (fun g hg => by
    obtain ⟨_, _, rfl⟩ := List.mem_map.mp hg
    simp)
  have hlen : ∀ g ∈ gs', g.length ≤ 1000 := fun g hg => by
    have := P.le g hg
    rw [hf0] at this
    have := ok.1
    simp [sortI_len] at *; omega
  have e7 := loop_purses (some (.sh d)) (some (.sh e)) (some (.sh (tupI (sortI ns)))) (some (.sh (tupI ws))) (some (.sh (.tup Ls))) (some (.own true (.lst (lacks'.map .int)))) (some (.sh (.lst (gs'.map fun g => .lst (g.map .int))))) none a' b' c' gs' hlen
  have hz := all_zero P.nn (by rw [P.sm, sum_reverse', sortI_sum, hs]; omega)
  refine ⟨gs'.map List.reverse, ?_, ?_, ?_, ?_, ?_⟩
  · have s1 : (fTo (gTp 2 (gCn (gNm 2) (gCn (gNm 3) gNl))) (fCall F_checked_couple [] (fCons (fVar 0) (fCons (fVar 1) fNil)))) [some (.sh d), some (.sh e), none, none, none, none, none, none, none, none, none, none] =
        some (.nx [some (.sh d), some (.sh e), some (.sh (tupI (sortI ns))), some (.sh (tupI ws)), none, none, none, none, none, none, none, none]) := by simp [h1]
    have s2 : (fSet 4 (fCall F_layers_of [] (fCons (fVar 2) (fCons (fVar 3) fNil)))) [some (.sh d), some (.sh e), some (.sh (tupI (sortI ns))), some (.sh (tupI ws)), none, none, none, none, none, none, none, none] =
        some (.nx [some (.sh d), some (.sh e), some (.sh (tupI (sortI ns))), some (.sh (tupI ws)), some (.sh (.tup Ls)), none, none, none, none, none, none, none]) := by simp [h2]
    have s3 : (fIfS (fNot (fUn dTruth (fBin dIx (fVar 4) (fUn dNeg (fC (.int 1)))))) (fRet (fArgs (dMake 0 1) (fCons (fVar 4) fNil))) fSkip) [some (.sh d), some (.sh e), some (.sh (tupI (sortI ns))), some (.sh (tupI ws)), some (.sh (.tup Ls)), none, none, none, none, none, none, none] =
        some (.nx [some (.sh d), some (.sh e), some (.sh (tupI (sortI ns))), some (.sh (tupI ws)), some (.sh (.tup Ls)), none, none, none, none, none, none, none]) := by simp [-dIx, -dTruth, h5, hT]
    have s4 : (fSetO 5 (fLst (fArgs (d1 dItems) (fCons (fVar 3) fNil)))) [some (.sh d), some (.sh e), some (.sh (tupI (sortI ns))), some (.sh (tupI ws)), some (.sh (.tup Ls)), none, none, none, none, none, none, none] =
        some (.nx [some (.sh d), some (.sh e), some (.sh (tupI (sortI ns))), some (.sh (tupI ws)), some (.sh (.tup Ls)), some (.own true (.lst (ws.map .int))), none, none, none, none, none, none]) := by
      have hw : ws.length ≤ 1000000 := by omega
      simp [tupI, many, hw]
    have s5 : (fSetO 6 (fLc0 (fUn dSeq (fVar 3)) t_any_split_0 [7])) [some (.sh d), some (.sh e), some (.sh (tupI (sortI ns))), some (.sh (tupI ws)), some (.sh (.tup Ls)), some (.own true (.lst (ws.map .int))), none, none, none, none, none, none] =
        some (.nx [some (.sh d), some (.sh e), some (.sh (tupI (sortI ns))), some (.sh (tupI ws)), some (.sh (.tup Ls)), some (.own true (.lst (ws.map .int))), llO (ws.map fun _ => []), none, none, none, none, none]) := by
      have hw : ws.length < 1000000 := by omega
      simp [tupI, many, noOwn, noOwn1, wipeF, t_any_split_0, llO, hw]
    have s6 : (fFor (fArgs dZip (fCons (fUn dRevT (fVar 2)) (fCons (fCall F_chained_entries [] (fCons (fVar 2) (fCons (fVar 4) fNil))) fNil))) t_any_split_3 b_any_split_4) [some (.sh d), some (.sh e), some (.sh (tupI (sortI ns))), some (.sh (tupI ws)), some (.sh (.tup Ls)), some (.own true (.lst (ws.map .int))), llO (ws.map fun _ => []), none, none, none, none, none] =
        some (.nx (asE (some (.sh d)) (some (.sh e)) (some (.sh (tupI (sortI ns)))) (some (.sh (tupI ws))) (some (.sh (.tup Ls))) lacks' (llO gs') none a' b' c' none)) := by
      have q1 : (fArgs dZip (fCons (fUn dRevT (fVar 2)) (fCons (fCall F_chained_entries [] (fCons (fVar 2) (fCons (fVar 4) fNil))) fNil))) [some (.sh d), some (.sh e), some (.sh (tupI (sortI ns))), some (.sh (tupI ws)), some (.sh (.tup Ls)), some (.own true (.lst (ws.map .int))), llO (ws.map fun _ => []), none, none, none, none, none] =
          some (zipL ((sortI ns).reverse.map D.int) (es.map tupI), [some (.sh d), some (.sh e), some (.sh (tupI (sortI ns))), some (.sh (tupI ws)), some (.sh (.tup Ls)), some (.own true (.lst (ws.map .int))), llO (ws.map fun _ => []), none, none, none, none, none]) := by
        have hw : ns.length ≤ 1000000 := by have := ok.1; omega
        simp only [tupI] at h3
        simp [tupI, h3, many, sortI_len, hw]
      unfold fFor
      rw [q1]
      exact e6
    show outD 12 (f_any_split [some (.sh d), some (.sh e), none, none, none, none, none, none, none, none, none, none]) = _
    unfold f_any_split
    rw [fSeq_nx s1, fSeq_nx s2, fSeq_nx s3, fSeq_nx s4, fSeq_nx s5, fSeq_nx s6]
    have hgl : gs'.length < 1000000 := by rw [P.l2]; simp; omega
    have nl := noLs_tups (gs'.map List.reverse)
    have e8 : (fRet (fLend 6 noL (fArgs (d1 dTupOf) (fCons (fFrz (fLst (fLc (fUn dSeq (fVar 6)) t_any_split_5 c_any_split_6 e_any_split_7 [11]))) fNil)))) (asE (some (.sh d)) (some (.sh e)) (some (.sh (tupI (sortI ns)))) (some (.sh (tupI ws))) (some (.sh (.tup Ls))) lacks' (llO gs') none a' b' c' none) =
        some (.rt (.sh (.tup (gs'.map fun g => tupI g.reverse))) (asE (some (.sh d)) (some (.sh e)) (some (.sh (tupI (sortI ns)))) (some (.sh (tupI ws))) (some (.sh (.tup Ls))) lacks' (llO gs') none a' b' c' none)) := by
      have hgl2 : gs'.length ≤ 1000000 := by omega
      rw [List.map_map] at nl
      simp only [Function.comp_def] at nl
      simp [asE, llO, Function.comp_def, many, hgl, hgl2, e7, nl]
    rw [e8]
    simp [asE, Function.comp_def]
  · rw [List.length_map, P.l2, List.length_map]
  · intro i g hg
    rw [List.getElem?_map] at hg
    obtain ⟨g0, e0, rfl⟩ := Option.map_eq_some_iff.mp hg
    have hi := (List.getElem?_eq_some_iff.mp e0).1
    obtain ⟨l, hl⟩ : ∃ l, lacks'[i]? = some l := ⟨_, List.getElem?_eq_getElem (by rw [P.l1, ← (show gs'.length = ws.length by rw [P.l2, List.length_map])]; exact hi)⟩
    obtain ⟨l0, q0, b1, b2, b3⟩ := P.ea i l g0 hl e0
    have hl0 := hz l (List.mem_of_getElem? hl)
    rw [List.getElem?_map, b1] at b2
    cases b2
    rw [b1, sum_reverse']
    simp at b3
    congr 1
    omega
  · intro g hg
    obtain ⟨g0, h0, rfl⟩ := List.mem_map.mp hg
    rw [List.pairwise_reverse]
    exact P.so g0 h0
  · have q1 : (gs'.map List.reverse).flatten.Perm gs'.flatten := by
      clear e6 e7 G P hlen hz
      induction gs' with
      | nil => exact List.Perm.refl _
      | cons a l ih => simp only [List.map_cons, List.flatten_cons]; exact (List.reverse_perm a).append ih
    have q2 := P.fl
    rw [hf0, List.nil_append] at q2
    exact q1.trans (q2.trans ((List.reverse_perm _).trans (sortI_perm ns)))
end K76
end

section
set_option linter.all false
set_option maxRecDepth 100000
set_option maxHeartbeats 2000000
set_option autoImplicit false
namespace K76
open Fl PySem
/-! ### the law's own judges -/
theorem loop_coins (x0 : Option Slot) : ∀ (l : List Int), (∀ x ∈ l, 1 ≤ x) → lcL t__law_is_coins_0 c__law_is_coins_1 e__law_is_coins_2 [1] (l.map D.int) [x0, none] = some ([], [x0, none])
  | [], _ => by simp [lcL]
  | a :: l, h => by
    have e := loop_coins x0 l fun x hx => h x (by simp [hx])
    have ha : ¬ a < 1 := by have := h a (by simp); omega
    simp [t__law_is_coins_0, c__law_is_coins_1, e__law_is_coins_2] at e
    simp [lcL, noOwn, noOwn1, wipeF, backF, t__law_is_coins_0, c__law_is_coins_1, e__law_is_coins_2, m_whole, ha, e]
theorem m_is_coins (l : List Int) (hs : l.Pairwise (· ≤ ·)) (h1 : ∀ x ∈ l, 1 ≤ x) (hl : l.length ≤ 1000) : F__law_is_coins [tupI l] = some (.sh (.bl true)) := by
  have e := loop_coins (some (.sh (tupI l))) l h1
  have c1 := canSort_ints l (by omega)
  have c2 := isort_ints l
  rw [sortI_id hs] at c2
  have f1 := fits_ints 7 l
  have hm : l.length < 1000000 := by omega
  have hm2 : l.length ≤ 1000000 := by omega
  simp only [tupI] at e
  simp [F__law_is_coins, f__law_is_coins, tupI, isB, okN, e, c1, c2, f1, many, hm, hm2, eqDs_ints]
theorem loop_split (x1 : Option Slot) (gs : List (List Int)) (ws : List Int) (hsum : ∀ (i : Nat) (g : List Int), gs[i]? = some g → ws[i]? = some g.sum) (hso : ∀ g ∈ gs, g.Pairwise (· ≤ ·)) (hge : ∀ g ∈ gs, ∀ x ∈ g, 1 ≤ x) (hle : ∀ g ∈ gs, g.length ≤ 1000) :
    ∀ (n k : Nat) (acc : List Int) (a : Option Slot), k + n = gs.length → acc.length + (gs.drop k).flatten.length ≤ 1000 →
    ∃ a', forL t__law_is_split_0 b__law_is_split_1 (rgD k n) [some (.sh (.tup (gs.map tupI))), x1, some (.sh (.lst (ws.map .int))), some (.sh (.lst (acc.map .int))), a] =
      some (.nx [some (.sh (.tup (gs.map tupI))), x1, some (.sh (.lst (ws.map .int))), some (.sh (.lst ((acc ++ (gs.drop k).flatten).map .int))), a'])
  | 0, k, acc, a, hk, _ => ⟨a, by
    rw [List.drop_eq_nil_of_le (by omega)]
    simp [rgD, forL]⟩
  | n + 1, k, acc, a, hk, hl => by
    have hkl : k < gs.length := by omega
    have hg : gs[k]? = some gs[k] := List.getElem?_eq_getElem hkl
    have hgm : gs[k] ∈ gs := List.getElem_mem hkl
    have hd : gs.drop k = gs[k] :: gs.drop (k + 1) := List.drop_eq_getElem_cons hkl
    rw [hd, List.flatten_cons] at hl ⊢
    generalize gs[k] = g at *
    obtain ⟨a', e⟩ := loop_split x1 gs ws hsum hso hge hle n (k + 1) (acc ++ g) (some (.sh (.int (k : Int)))) (by omega) (by simp at hl ⊢; omega)
    refine ⟨a', ?_⟩
    rw [← List.append_assoc, ← e]
    have hr : rgD k (n + 1) = .int (k : Int) :: rgD (k + 1) n := by simp [rgD, List.range'_succ]
    rw [hr]
    have q := m_is_coins g (hso g hgm) (hge g hgm) (hle g hgm)
    have i1 : L2.atI (gs.map tupI) (k : Int) = some (tupI g) := by rw [atI_nat', List.getElem?_map, hg]; rfl
    have i2 : L2.atI (ws.map D.int) (k : Int) = some (.int g.sum) := by rw [atI_nat', List.getElem?_map, hsum k g hg]; rfl
    have i3 : dSum (tupI g) = some (.int g.sum) := by simp [tupI]
    have hgl := hle g hgm
    have i4 : dItems (tupI g) = some (g.map .int) := by
      have : g.length ≤ 1000000 := by omega
      simp [tupI, many, this]
    have i5 : acc.length + g.length ≤ 1000000 := by simp at hl; omega
    simp [-dSum, -dItems, forL, t__law_is_split_0, b__law_is_split_1, i1, i2, i3, i4, q, many, i5]
theorem dRng1_rg (n : Nat) (h : n ≤ 1000) : dRng1 [.int (n : Int)] = some (rgD 0 n) := by rw [← rngL_rg]; exact dRng1_nat n (by omega)
theorem m_is_split (gs : List (List Int)) (ns ws : List Int) (hlen : gs.length = ws.length) (hsum : ∀ (i : Nat) (g : List Int), gs[i]? = some g → ws[i]? = some g.sum) (hso : ∀ g ∈ gs, g.Pairwise (· ≤ ·)) (hp : gs.flatten.Perm ns) (hge : ∀ x ∈ ns, 1 ≤ x) (hle : ns.length ≤ 100) (hw : ws.length ≤ 100) :
    F__law_is_split [.tup (gs.map tupI), .lst (ns.map .int), .lst (ws.map .int)] = some (.sh (.bl true)) := by
  have hpl := hp.length_eq
  have hg1 : ∀ g ∈ gs, ∀ x ∈ g, 1 ≤ x := fun g hg x hx => hge x (hp.mem_iff.mp (List.mem_flatten.mpr ⟨g, hg, hx⟩))
  have hg2 : ∀ g ∈ gs, g.length ≤ 1000 := fun g hg => by have := (List.sublist_flatten_of_mem hg).length_le; omega
  obtain ⟨a', e⟩ := loop_split (some (.sh (.lst (ns.map .int)))) gs ws hsum hso hg1 hg2 gs.length 0 [] none (by omega) (by simp; simp at hpl; omega)
  have hr := dRng1_rg ws.length (by omega)
  rw [← hlen] at hr
  have s3 : (fFor (fArgs dRng1 (fCons (fArgs (d1 dLen) (fCons (fVar 2) fNil)) fNil)) t__law_is_split_0 b__law_is_split_1) [some (.sh (.tup (gs.map tupI))), some (.sh (.lst (ns.map .int))), some (.sh (.lst (ws.map .int))), some (.sh (.lst [])), none] =
      some (.nx [some (.sh (.tup (gs.map tupI))), some (.sh (.lst (ns.map .int))), some (.sh (.lst (ws.map .int))), some (.sh (.lst (gs.flatten.map .int))), a']) := by
    have h1 : (fArgs dRng1 (fCons (fArgs (d1 dLen) (fCons (fVar 2) fNil)) fNil)) [some (.sh (.tup (gs.map tupI))), some (.sh (.lst (ns.map .int))), some (.sh (.lst (ws.map .int))), some (.sh (.lst [])), none] =
        some (rgD 0 gs.length, [some (.sh (.tup (gs.map tupI))), some (.sh (.lst (ns.map .int))), some (.sh (.lst (ws.map .int))), some (.sh (.lst [])), none]) :=
      fArgs_of (by simp [hlen]) hr
    unfold fFor
    rw [h1]
    simpa using e
  have s1 : (fIfS (fOr (fNot (fUn dTruth (fUn (dIsi "tuple") (fVar 0)))) (fTest (fBin dNe (fArgs (d1 dLen) (fCons (fVar 0) fNil)) (fArgs (d1 dLen) (fCons (fVar 2) fNil))))) (fRet (fC (.bl false))) fSkip) [some (.sh (.tup (gs.map tupI))), some (.sh (.lst (ns.map .int))), some (.sh (.lst (ws.map .int))), none, none] =
      some (.nx [some (.sh (.tup (gs.map tupI))), some (.sh (.lst (ns.map .int))), some (.sh (.lst (ws.map .int))), none, none]) := by simp [isB, okN, hlen]
  have s2 : (fSet 3 (fFrz (fLst (fArgs dLst fNil)))) [some (.sh (.tup (gs.map tupI))), some (.sh (.lst (ns.map .int))), some (.sh (.lst (ws.map .int))), none, none] =
      some (.nx [some (.sh (.tup (gs.map tupI))), some (.sh (.lst (ns.map .int))), some (.sh (.lst (ws.map .int))), some (.sh (.lst [])), none]) := by simp [many]
  show outD 5 (f__law_is_split [some (.sh (.tup (gs.map tupI))), some (.sh (.lst (ns.map .int))), some (.sh (.lst (ws.map .int))), none, none]) = _
  unfold f__law_is_split
  rw [fSeq_nx s1, fSeq_nx s2, fSeq_nx s3]
  have c1 := canSort_ints gs.flatten (by omega)
  have c2 := isort_ints gs.flatten
  have c3 := canSort_ints ns (by omega)
  have c4 := isort_ints ns
  have c5 := sortI_congr hp
  have f1 := fits_ints 7 (sortI ns)
  have hm : ns.length ≤ 1000000 := by omega
  generalize gs.flatten = fl at *
  simp [c1, c2, c3, c4, c5, f1, many, hm, eqDs_ints]
/-! ### a wish -/
theorem loop_wishl {t : Int} (ht : 0 ≤ t) (ht2 : t ≤ 1000000000000) (x2 : Option Slot) : ∀ (n k : Nat) (ws : List Int) (o : O) (a : Option Slot), HandOk o → (∀ w ∈ ws, 0 ≤ w) → ws.sum ≤ t → 0 ≤ ws.sum → ws.length + n ≤ 100 →
    ∃ (o' : O) (ws' : List Int) (a' : Option Slot), forL t__law_wish_0 b__law_wish_1 (rgD k n) [some (.own false o), some (.sh (.int t)), x2, some (.own true (.lst (ws.map .int))), a] =
      some (.nx [some (.own false o'), some (.sh (.int t)), x2, some (.own true (.lst (ws'.map .int))), a']) ∧ HandOk o' ∧ (∀ w ∈ ws', 0 ≤ w) ∧ ws'.sum ≤ t ∧ ws'.length = ws.length + n
  | 0, k, ws, o, a, ho, h1, h2, h3, h4 => ⟨o, ws, a, by simp [rgD, forL], ho, h1, h2, rfl⟩
  | n + 1, k, ws, o, a, ho, h1, h2, h3, h4 => by
    obtain ⟨d, o1, e1, ho1, hd1, hd2⟩ := draw ho (many := t - ws.sum + 1) (by omega) (by omega)
    obtain ⟨o', ws', a', e, q1, q2, q3, q4⟩ := loop_wishl ht ht2 x2 n (k + 1) (ws ++ [d]) o1 (some (.sh (.int (k : Int)))) ho1 (fun w hw => by
      rcases List.mem_append.mp hw with hw | hw
      · exact h1 w hw
      · simp at hw; omega) (by simp [List.sum_append]; omega) (by simp [List.sum_append]; omega) (by simp; omega)
    refine ⟨o', ws', a', ?_, q1, q2, q3, by simp at q4; omega⟩
    rw [← e]
    have hr : rgD k (n + 1) = .int (k : Int) :: rgD (k + 1) n := by simp [rgD, List.range'_succ]
    rw [hr]
    have hm : ws.length < 1000000 := by omega
    simp [forL, t__law_wish_0, b__law_wish_1, e1, many, hm]
theorem m_law_wish {t p : Int} (ht : 0 ≤ t) (ht2 : t ≤ 1000000000000) (hp : 2 ≤ p) (hp5 : p ≤ 5) {o : O} (ho : HandOk o) :
    ∃ (ws : List Int) (o' : O), F__law_wish [] o [.int t, .int p] = some (.sh (.lst (ws.map .int)), o') ∧ HandOk o' ∧ ws.length = p.toNat ∧ (∀ w ∈ ws, 0 ≤ w) ∧ ws.sum = t := by
  obtain ⟨o1, ws, a1, e1, ho1, h1, h2, h3⟩ := loop_wishl ht ht2 (some (.sh (.int p))) (p - 1).toNat 0 [] o none ho (by simp) (by simpa using ht) (by simp) (by simp; omega)
  obtain ⟨d, o2, e2, ho2, hd1, hd2⟩ := draw ho1 (many := p) (by omega) (by omega)
  have hP := ins_perm' ws d.toNat (t - ws.sum)
  refine ⟨ws.take d.toNat ++ [t - ws.sum] ++ ws.drop d.toNat, o2, ?_, ho2, ?_, ?_, ?_⟩
  · have hr : dRng1 [.int (p - 1)] = some (rgD 0 (p - 1).toNat) := by
      have := dRng1_rg (p - 1).toNat (by omega)
      rwa [show (((p - 1).toNat : Nat) : Int) = p - 1 by omega] at this
    have s1 : (fSetO 3 (fLst (fArgs dLst fNil))) [some (.own false o), some (.sh (.int t)), some (.sh (.int p)), none, none] = some (.nx [some (.own false o), some (.sh (.int t)), some (.sh (.int p)), some (.own true (.lst [])), none]) := by simp [many]
    have s2 : (fFor (fArgs dRng1 (fCons (fBin (dI fun i j => i - j) (fVar 2) (fC (.int 1))) fNil)) t__law_wish_0 b__law_wish_1) [some (.own false o), some (.sh (.int t)), some (.sh (.int p)), some (.own true (.lst [])), none] =
        some (.nx [some (.own false o1), some (.sh (.int t)), some (.sh (.int p)), some (.own true (.lst (ws.map .int))), a1]) := by
      have h1 : (fArgs dRng1 (fCons (fBin (dI fun i j => i - j) (fVar 2) (fC (.int 1))) fNil)) [some (.own false o), some (.sh (.int t)), some (.sh (.int p)), some (.own true (.lst [])), none] =
          some (rgD 0 (p - 1).toNat, [some (.own false o), some (.sh (.int t)), some (.sh (.int p)), some (.own true (.lst [])), none]) := fArgs_of (by simp) hr
      unfold fFor
      rw [h1]
      exact e1
    have s3 : (fIns 3 (fCallI 0 F__law_draw (fHere 0 (fCons (fVar 2) fNil))) (fBin (dI fun i j => i - j) (fVar 1) (fLend 3 noL (fArgs (d1 dSum) (fCons (fVar 3) fNil))))) [some (.own false o1), some (.sh (.int t)), some (.sh (.int p)), some (.own true (.lst (ws.map .int))), a1] =
        some (.nx [some (.own false o2), some (.sh (.int t)), some (.sh (.int p)), some (.own true (.lst ((ws.take d.toNat ++ [t - ws.sum] ++ ws.drop d.toNat).map .int))), a1]) := by
      have hm : ws.length < 1000000 := by simp at h3; omega
      have hd3 : d < 1000000000 := by omega
      simp [e2, many, hm, hd1, hd3]
    have fin : f__law_wish [some (.own false o), some (.sh (.int t)), some (.sh (.int p)), none, none] = some (.rt (.sh (.lst ((ws.take d.toNat ++ [t - ws.sum] ++ ws.drop d.toNat).map .int))) [some (.own false o2), some (.sh (.int t)), some (.sh (.int p)), some (.sh (.lst ((ws.take d.toNat ++ [t - ws.sum] ++ ws.drop d.toNat).map .int))), a1]) := by
      unfold f__law_wish
      rw [fSeq_nx s1, fSeq_nx s2, fSeq_nx s3]
      simp
    exact fnI_rt rfl fin rfl ho.one ho2.one
  · rw [hP.length_eq, List.length_cons, h3]; simp; omega
  · intro w hw
    rcases List.mem_cons.mp (hP.mem_iff.mp hw) with rfl | hw
    · omega
    · exact h1 w hw
  · rw [Fl.sum_perm hP, List.sum_cons]; omega
end K76
end

section
set_option linter.all false
set_option maxRecDepth 100000
set_option maxHeartbeats 2000000
set_option autoImplicit false
namespace K76
open Fl PySem
/-! ### the wishes -/
theorem le_sum0 : ∀ {l : List Int}, (∀ w ∈ l, 0 ≤ w) → ∀ w ∈ l, w ≤ l.sum
  | [], _, w, h => by simp at h
  | a :: l, h, w, hw => by
    have h1 := h a (by simp)
    have h2 : 0 ≤ l.sum := by
      clear hw
      have : ∀ (m : List Int), (∀ x ∈ m, 0 ≤ x) → 0 ≤ m.sum := by
        intro m
        induction m with
        | nil => simp
        | cons b m ih =>
          intro q
          have := ih fun x hx => q x (by simp [hx])
          have := q b (by simp)
          rw [List.sum_cons]; omega
      exact this l fun x hx => h x (by simp [hx])
    rw [List.sum_cons]
    rcases List.mem_cons.mp hw with rfl | hw
    · omega
    · have := le_sum0 (l := l) (fun x hx => h x (by simp [hx])) w hw
      omega
theorem lays_400 {p : Int} (hp : 2 ≤ p) {ns ws : List Int} (hw : ws.length = p.toNat) (h4 : p.toNat ^ ns.length ≤ 400) : ∀ l ∈ lays (sortI ns).reverse [sortI ws], l.length ≤ 400 := by
  intro l hl
  have := lay_size (p := p.toNat) (by omega) (sortI ns).reverse [sortI ws] (by simp [sortI_len, hw]) l hl
  simp [sortI_len] at this
  omega
theorem good_split {p : Int} (hp : 2 ≤ p) (hp5 : p ≤ 5) {ns ws : List Int} (hg : Good p ns) (hl : ns.length ≤ 12) (h1 : 1 ≤ ns.length) (h4 : p.toNat ^ ns.length ≤ 400) (hw : ws.length = p.toNat) (h0 : ∀ w ∈ ws, 0 ≤ w) (hs : ws.sum = ns.sum) :
    ∃ gs : List (List Int), F_any_split [.lst (ns.map .int), .lst (ws.map .int)] = some (.sh (.tup (gs.map tupI))) ∧ F__law_is_split [.tup (gs.map tupI), .lst (ns.map .int), .lst (ws.map .int)] = some (.sh (.bl true)) := by
  have hb := hg.sum hp 12 hl
  have okw : okWish ws := ⟨by omega, by omega, fun w hx => ⟨h0 w hx, by have := le_sum0 h0 w hx; omega⟩⟩
  have hne : ∀ M ∈ layF (sortI ns).reverse [sortI ws], M ≠ [] := by
    refine lay_full (p := p.toNat) (by omega) (sortI ns).reverse [sortI ws] ?_ (by simp) ?_
    · rw [List.reverse_reverse, show ((p.toNat : Nat) : Int) = p by omega]
      exact hg
    · intro y hy
      simp only [List.mem_singleton] at hy
      subst hy
      exact ⟨by rw [sortI_len, hw], by rw [sum_reverse', sortI_sum, sortI_sum, hs]⟩
  obtain ⟨gs, e, q1, q2, q3, q4⟩ := m_any_split (.lst (ns.map .int)) (.lst (ws.map .int)) ns ws rfl (okCoins_good hp hg hl) (.inl rfl) okw hs (lays_400 hp hw h4) h1 hne
  exact ⟨gs, e, m_is_split gs ns ws q1 q2 q3 q4 hg.pos (by omega) (by omega)⟩
theorem loop_wr {p : Int} (hp : 2 ≤ p) (hp5 : p ≤ 5) (x1 x3 x7 x8 : Option Slot) {ns : List Int} (hg : Good p ns) (hl : ns.length ≤ 12) (h1 : 1 ≤ ns.length) (h4 : p.toNat ^ ns.length ≤ 400) : ∀ (n k : Nat) (o : O) (a b : Option Slot), HandOk o →
    ∃ o' a' b', forL t__law_wishes_right_0 b__law_wishes_right_1 (rgD k n) [some (.own false o), x1, some (.sh (.int p)), x3, some (.sh (.lst (ns.map .int))), a, b, x7, x8] =
      some (.nx [some (.own false o'), x1, some (.sh (.int p)), x3, some (.sh (.lst (ns.map .int))), a', b', x7, x8]) ∧ HandOk o'
  | 0, k, o, a, b, ho => ⟨o, a, b, by simp [rgD, forL], ho⟩
  | n + 1, k, o, a, b, ho => by
    have hs0 := sum_nonneg hg.pos
    have hb := hg.sum hp 12 hl
    obtain ⟨ws, o1, e1, ho1, w1, w2, w3⟩ := m_law_wish hs0 (by omega) hp hp5 ho
    obtain ⟨gs, e2, e3⟩ := good_split hp hp5 hg hl h1 h4 w1 w2 w3
    obtain ⟨o', a', b', e, q⟩ := loop_wr hp hp5 x1 x3 x7 x8 hg hl h1 h4 n (k + 1) o1 (some (.sh (.int (k : Int)))) (some (.sh (.lst (ws.map .int)))) ho1
    refine ⟨o', a', b', ?_, q⟩
    rw [← e]
    have hr : rgD k (n + 1) = .int (k : Int) :: rgD (k + 1) n := by simp [rgD, List.range'_succ]
    rw [hr]
    simp [forL, t__law_wishes_right_0, b__law_wishes_right_1, e1, e2, e3]
theorem bad_split {p : Int} (hp : 2 ≤ p) (hp5 : p ≤ 5) {ns : List Int} (ok : okCoins ns) (hb : ¬ Good p ns) (h4 : p.toNat ^ ns.length ≤ 400) :
    ∃ k ws x, F_serves [.lst (ns.map .int), .int p] = some (.sh (.obj 1 [.int k, tupI ws])) ∧ ws.sum = ns.sum ∧ F_any_split [.lst (ns.map .int), tupI ws] = some (.sh (.obj 0 [x])) := by
  have hpos : ∀ c ∈ sortI ns, 1 ≤ c := fun c hc => (ok.sort.2 c hc).1
  have es := m_serves p hp hp5 (.lst (ns.map .int)) ns rfl ok
  cases hf : failL p (sortI ns) 0 0 with
  | nil => exact absurd (failL_bad hp hp5 hpos hf) hb
  | cons z zs =>
    obtain ⟨w1, w2, w3, w4⟩ := wish_stuck hp hp5 (sortI_sorted ns) hpos hf
    have hbd : ns.sum ≤ 12000000000 := by
      have := sum_le_mul 1000000000 ns fun c hc => (ok.2 c hc).2
      have := ok.1
      omega
    rw [sortI_sum] at w1
    have hs : (wishS p (sortI ns) z.toNat).sum = ns.sum := w1
    have okw : okWish (wishS p (sortI ns) z.toNat) := ⟨by omega, by omega, fun w hx => by have := w3 w hx; rw [sortI_sum] at this; omega⟩
    obtain ⟨x, ex⟩ := m_any_split_no (.lst (ns.map .int)) (tupI (wishS p (sortI ns) z.toNat)) ns _ rfl ok (.inr rfl) okw hs (lays_400 hp w2 h4) w4
    refine ⟨z, _, x, ?_, hs, ex⟩
    rw [es]
    unfold serveD
    rw [hf]
    rfl
theorem m_wishes_right {p : Int} (hp : 2 ≤ p) (hp5 : p ≤ 5) {cs : List Int} (h : Good p cs) (hl : cs.length ≤ 11) (h4 : p.toNat ^ (cs.length + 1) ≤ 400) {o : O} (ho : HandOk o) : ∃ o', F__law_wishes_right [] o [.lst (cs.map .int), .int p] = some (.sh (.bl true), o') ∧ HandOk o' := by
  obtain ⟨r1, r2⟩ := room_bound hp h (by omega)
  have ok := okCoins_good hp h (by omega)
  have en := next_good hp hp5 h (by omega)
  have ef := m_fitting_coins p (by omega) hp5 (.lst (cs.map .int)) cs rfl ok
  rw [fitR_ok hp h, sortI_sum] at ef
  have hg : Good p (cs ++ [cs.sum / (p - 1) + 1]) := (Good.put hp h (by omega) (Int.le_refl _)).perm (List.perm_append_comm (l₁ := [cs.sum / (p - 1) + 1]) (l₂ := cs))
  have es := serves_good hp hp5 hg (by simp; omega)
  obtain ⟨o', a', b', el, ho'⟩ := loop_wr hp hp5 (some (.sh (.lst (cs.map .int)))) (some (.sh (.int (cs.sum / (p - 1) + 1)))) none none hg (by simp; omega) (by simp) (by simpa using h4) 3 0 o none none ho
  have okb : okCoins (cs ++ [cs.sum / (p - 1) + 1 + 1]) := okCoins_snoc hl ok.2 (by omega)
  have nb : ¬ Good p (cs ++ [cs.sum / (p - 1) + 1 + 1]) := by
    unfold Good
    rw [sortI_snoc, fit_iff hp (by omega) (sortI_sorted cs) (fun y hy => h.pos y (sortI_mem.mp hy)), inFit_good hp h]
    simp
    omega
  obtain ⟨k, ws, x, e1, e2, e3⟩ := bad_split hp hp5 okb nb (by simpa using h4)
  generalize cs.sum / (p - 1) + 1 = top at *
  have hm : cs.length + 1 ≤ 1000000 := by omega
  have s1 : (fSet 3 (fCall F_next_coin [] (fCons (fVar 1) (fCons (fVar 2) fNil)))) [some (.own false o), some (.sh (.lst (cs.map .int))), some (.sh (.int p)), none, none, none, none, none, none] =
      some (.nx [some (.own false o), some (.sh (.lst (cs.map .int))), some (.sh (.int p)), some (.sh (.int top)), none, none, none, none, none]) := by simp [en]
  have s2 : (fIfS (fNot (fUn dTruth (fCall F__law_is_whole [] (fCons (fVar 3) fNil)))) (fRet (fC (.bl false))) fSkip) [some (.own false o), some (.sh (.lst (cs.map .int))), some (.sh (.int p)), some (.sh (.int top)), none, none, none, none, none] =
      some (.nx [some (.own false o), some (.sh (.lst (cs.map .int))), some (.sh (.int p)), some (.sh (.int top)), none, none, none, none, none]) := by simp [m_whole]
  have s3 : (fSet 4 (fFrz (fLst (fBin dCatL (fVar 1) (fFrz (fLst (fArgs dLst (fCons (fVar 3) fNil)))))))) [some (.own false o), some (.sh (.lst (cs.map .int))), some (.sh (.int p)), some (.sh (.int top)), none, none, none, none, none] =
      some (.nx [some (.own false o), some (.sh (.lst (cs.map .int))), some (.sh (.int p)), some (.sh (.int top)), some (.sh (.lst ((cs ++ [top]).map .int))), none, none, none, none]) := by simp [many, hm]
  have s4 : (fIfS (fOr (fTest (fBin dNotN (fCall F_serves [] (fCons (fVar 4) (fCons (fVar 2) fNil))) (fC .non))) (fTest (fBin dNe (fCall F_fitting_coins [] (fCons (fVar 1) (fCons (fVar 2) fNil))) (fArgs dTup (fCons (fC (.int 1)) (fCons (fVar 3) fNil)))))) (fRet (fC (.bl false))) fSkip) [some (.own false o), some (.sh (.lst (cs.map .int))), some (.sh (.int p)), some (.sh (.int top)), some (.sh (.lst ((cs ++ [top]).map .int))), none, none, none, none] =
      some (.nx [some (.own false o), some (.sh (.lst (cs.map .int))), some (.sh (.int p)), some (.sh (.int top)), some (.sh (.lst ((cs ++ [top]).map .int))), none, none, none, none]) := by
    simp [-List.map_append, es, ef, pairD, many]
  have s5 : (fFor (fArgs dRng1 (fCons (fC (.int 3)) fNil)) t__law_wishes_right_0 b__law_wishes_right_1) [some (.own false o), some (.sh (.lst (cs.map .int))), some (.sh (.int p)), some (.sh (.int top)), some (.sh (.lst ((cs ++ [top]).map .int))), none, none, none, none] =
      some (.nx [some (.own false o'), some (.sh (.lst (cs.map .int))), some (.sh (.int p)), some (.sh (.int top)), some (.sh (.lst ((cs ++ [top]).map .int))), a', b', none, none]) := by
    have h1 : (fArgs dRng1 (fCons (fC (.int 3)) fNil)) [some (.own false o), some (.sh (.lst (cs.map .int))), some (.sh (.int p)), some (.sh (.int top)), some (.sh (.lst ((cs ++ [top]).map .int))), none, none, none, none] =
        some (rgD 0 3, [some (.own false o), some (.sh (.lst (cs.map .int))), some (.sh (.int p)), some (.sh (.int top)), some (.sh (.lst ((cs ++ [top]).map .int))), none, none, none, none]) := fArgs_of (by simp) (dRng1_rg 3 (by decide))
    unfold fFor
    rw [h1]
    exact el
  have s6 : (fSet 7 (fFrz (fLst (fBin dCatL (fVar 1) (fFrz (fLst (fArgs dLst (fCons (fBin dAdd (fVar 3) (fC (.int 1))) fNil)))))))) [some (.own false o'), some (.sh (.lst (cs.map .int))), some (.sh (.int p)), some (.sh (.int top)), some (.sh (.lst ((cs ++ [top]).map .int))), a', b', none, none] =
      some (.nx [some (.own false o'), some (.sh (.lst (cs.map .int))), some (.sh (.int p)), some (.sh (.int top)), some (.sh (.lst ((cs ++ [top]).map .int))), a', b', some (.sh (.lst ((cs ++ [top + 1]).map .int))), none]) := by simp [many, hm]
  have s7 : (fSet 8 (fCall F_serves [] (fCons (fVar 7) (fCons (fVar 2) fNil)))) [some (.own false o'), some (.sh (.lst (cs.map .int))), some (.sh (.int p)), some (.sh (.int top)), some (.sh (.lst ((cs ++ [top]).map .int))), a', b', some (.sh (.lst ((cs ++ [top + 1]).map .int))), none] =
      some (.nx [some (.own false o'), some (.sh (.lst (cs.map .int))), some (.sh (.int p)), some (.sh (.int top)), some (.sh (.lst ((cs ++ [top]).map .int))), a', b', some (.sh (.lst ((cs ++ [top + 1]).map .int))), some (.sh (.obj 1 [.int k, tupI ws]))]) := by simp [-List.map_append, e1]
  have s8 : (fIfS (fOr (fNot (fUn dTruth (fUn (dIsiC 1) (fVar 8)))) (fOr (fNot (fUn dTruth (fUn (dIsi "tuple") (fUn (dFld 1 1) (fVar 8))))) (fTest (fBin dNe (fArgs (d1 dSum) (fCons (fUn (dFld 1 1) (fVar 8)) fNil)) (fArgs (d1 dSum) (fCons (fVar 7) fNil)))))) (fRet (fC (.bl false))) fSkip) [some (.own false o'), some (.sh (.lst (cs.map .int))), some (.sh (.int p)), some (.sh (.int top)), some (.sh (.lst ((cs ++ [top]).map .int))), a', b', some (.sh (.lst ((cs ++ [top + 1]).map .int))), some (.sh (.obj 1 [.int k, tupI ws]))] =
      some (.nx [some (.own false o'), some (.sh (.lst (cs.map .int))), some (.sh (.int p)), some (.sh (.int top)), some (.sh (.lst ((cs ++ [top]).map .int))), a', b', some (.sh (.lst ((cs ++ [top + 1]).map .int))), some (.sh (.obj 1 [.int k, tupI ws]))]) := by
    have q := asI_map (cs ++ [top + 1])
    simp [-List.map_append, -List.sum_append, tupI, isB, okN, e2, q]
  have s9 : (fRet (fUn (dIsiC 0) (fCall F_any_split [] (fCons (fVar 7) (fCons (fUn (dFld 1 1) (fVar 8)) fNil))))) [some (.own false o'), some (.sh (.lst (cs.map .int))), some (.sh (.int p)), some (.sh (.int top)), some (.sh (.lst ((cs ++ [top]).map .int))), a', b', some (.sh (.lst ((cs ++ [top + 1]).map .int))), some (.sh (.obj 1 [.int k, tupI ws]))] =
      some (.rt (.sh (.bl true)) [some (.own false o'), some (.sh (.lst (cs.map .int))), some (.sh (.int p)), some (.sh (.int top)), some (.sh (.lst ((cs ++ [top]).map .int))), a', b', some (.sh (.lst ((cs ++ [top + 1]).map .int))), some (.sh (.obj 1 [.int k, tupI ws]))]) := by
    simp [-List.map_append, e3]
  have fin : f__law_wishes_right [some (.own false o), some (.sh (.lst (cs.map .int))), some (.sh (.int p)), none, none, none, none, none, none] = some (.rt (.sh (.bl true)) [some (.own false o'), some (.sh (.lst (cs.map .int))), some (.sh (.int p)), some (.sh (.int top)), some (.sh (.lst ((cs ++ [top]).map .int))), a', b', some (.sh (.lst ((cs ++ [top + 1]).map .int))), some (.sh (.obj 1 [.int k, tupI ws]))]) := by
    unfold f__law_wishes_right
    rw [fSeq_nx s1, fSeq_nx s2, fSeq_nx s3, fSeq_nx s4, fSeq_nx s5, fSeq_nx s6, fSeq_nx s7, fSeq_nx s8]
    exact s9
  exact ⟨o', fnI_rt rfl fin rfl ho.one ho'.one, ho'⟩
/-! ### the law -/
theorem hand_ok (ns : List Int) : HandOk (handO ns) := ⟨ns.map absI, 0, 0, handTot 0 0 ns, by unfold handO hdO; simp [Function.comp_def]⟩
theorem row4 (d : Int) (h0 : 0 ≤ d) (h4 : d < 4) : ∃ m : Int, L2.atI [D.int 5, .int 5, .int 4, .int 3] (2 + d - 2) = some (.int m) ∧ 0 < m ∧ m ≤ 5 ∧ ∀ n : Int, 0 ≤ n → n < m → (2 + d).toNat ^ (n.toNat + 1) ≤ 400 := by
  have : d = 0 ∨ d = 1 ∨ d = 2 ∨ d = 3 := by omega
  rcases this with rfl | rfl | rfl | rfl
  · refine ⟨5, by simp [L2.atI, L2.ixN], by decide, by decide, fun n h0 h1 => ?_⟩
    have : n = 0 ∨ n = 1 ∨ n = 2 ∨ n = 3 ∨ n = 4 := by omega
    rcases this with rfl | rfl | rfl | rfl | rfl <;> decide
  · refine ⟨5, by simp [L2.atI, L2.ixN], by decide, by decide, fun n h0 h1 => ?_⟩
    have : n = 0 ∨ n = 1 ∨ n = 2 ∨ n = 3 ∨ n = 4 := by omega
    rcases this with rfl | rfl | rfl | rfl | rfl <;> decide
  · refine ⟨4, by simp [L2.atI, L2.ixN], by decide, by decide, fun n h0 h1 => ?_⟩
    have : n = 0 ∨ n = 1 ∨ n = 2 ∨ n = 3 := by omega
    rcases this with rfl | rfl | rfl | rfl <;> decide
  · refine ⟨3, by simp [L2.atI, L2.ixN], by decide, by decide, fun n h0 h1 => ?_⟩
    have : n = 0 ∨ n = 1 ∨ n = 2 := by omega
    rcases this with rfl | rfl | rfl <;> decide
theorem law_true : Fl.LawTrue f_law 2 := fun ns hns => by
  have ho := hand_ok ns
  generalize handO ns = o at *
  obtain ⟨d, o1, e1, ho1, hd1, hd2⟩ := draw ho (many := 4) (by decide) (by decide)
  obtain ⟨m, em, hm0, hm5, hm⟩ := row4 d hd1 hd2
  obtain ⟨n, o2, e2, ho2, hn1, hn2⟩ := draw ho1 (many := m) hm0 (by omega)
  have hp : 2 ≤ 2 + d := by omega
  have hp5 : 2 + d ≤ 5 := by omega
  have h4 := hm n hn1 hn2
  generalize hP : 2 + d = p at *
  obtain ⟨cs, o3, e3, ho3, hg, hlen⟩ := m_put hp hp5 hn1 (by omega) ho2
  obtain ⟨o4, e4, ho4⟩ := m_wishes_right hp hp5 hg (by omega) (by rw [hlen]; exact h4) ho3
  obtain ⟨n2, o5, e5, ho5, hn21, hn22⟩ := draw ho4 (many := 12) (by decide) (by decide)
  obtain ⟨cs2, o6, e6, ho6, hg2, hlen2⟩ := m_put hp hp5 hn21 (by omega) ho5
  have e7 := m_far_right hp hp5 hg2 (by omega)
  obtain ⟨o8, e8, ho8⟩ := m_any_right hp hp5 ho6
  obtain ⟨o9, e9, ho9⟩ := m_any_right hp hp5 ho8
  refine ⟨[none, some (.own true o9), some (.sh (.int p)), some (.sh (.lst (cs2.map .int)))], ?_⟩
  show f_law [none, some (.own true o), none, none] = _
  simp [f_law, e1, hP, em, many, e2, e3, e4, e5, e6, e7, e8, e9]
end K76
end
open PySem PySem.W PyProof.Rows
set_option maxRecDepth 100000 in
set_option maxHeartbeats 0 in
theorem PySem.Challenge.cw_anyworths_k76_whole_next_coins_and_one_m_holds : PySem.Challenge.rw_anyworths_k76_whole_next_coins_and_one_m.Holds := by
  w_on; o_law; k_head; (case hw => w_witness2)
  k_fill
  refine L2.walk_of (l := PySem.Challenge.rw_anyworths_k76_whole_next_coins_and_one_m) (n := 63) (k := 9) (x := "_law_script") (CX := fun _ => L2.CX0) (sp := fun w => Fl.spLaw _) rfl (by decide) rfl ⟨rfl, by decide, by decide⟩ (fun w h Y => PySem.W.kIn_of Y) ?F (fun _ _ a ns hl _ hS => ⟨a, ns, rfl, hS, hl, fun _ => rfl⟩) (fun _ _ _ _ _ h => h)
  case F =>
    intro w mg fa h KX G hmg
    refine' K76.all_mk K76.law_true KX G hmg ?a0 ?l0 ?c0 ?k0 ?a1 ?l1 ?c1 ?k1 ?a2 ?l2 ?c2 ?k2 ?a3 ?l3 ?c3 ?k3 ?a4 ?l4 ?c4 ?k4 ?lT4 ?a5 ?l5 ?c5 ?k5 ?a6 ?l6 ?c6 ?k6 ?a7 ?l7 ?c7 ?k7 ?a8 ?l8 ?c8 ?k8 ?a9 ?l9 ?c9 ?k9 ?a10 ?l10 ?c10 ?k10 ?a11 ?l11 ?c11 ?k11 ?a12 ?l12 ?c12 ?k12 ?a13 ?l13 ?c13 ?k13 ?a14 ?l14 ?c14 ?k14 ?a15 ?l15 ?c15 ?k15 ?a16 ?l16 ?c16 ?k16 ?a17 ?l17 ?c17 ?k17 ?a18 ?l18 ?c18 ?k18 ?a19 ?l19 ?c19 ?k19 ?a20 ?l20 ?c20 ?k20 ?a21 ?l21 ?c21 ?k21 ?a22 ?l22 ?c22 ?k22 ?a23 ?l23 ?c23 ?k23 ?a24 ?l24 ?c24 ?k24 ?a25 ?l25 ?c25 ?k25 ?a26 ?l26 ?c26 ?k26 ?a27 ?l27 ?c27 ?k27 ?a28 ?l28 ?c28 ?k28 ?a29 ?l29 ?c29 ?k29 ?a30 ?l30 ?c30 ?k30 ?a31 ?l31 ?c31 ?k31 ?a32 ?l32 ?c32 ?k32 ?a33 ?l33 ?c33 ?k33 ?a34 ?l34 ?c34 ?k34 ?a35 ?l35 ?c35 ?k35 ?a36 ?l36 ?c36 ?k36 ?a37 ?l37 ?c37 ?k37 ?a38 ?l38 ?c38 ?k38 ?A0 ?pg0 ?hd0 ?po0 ?sa0 ?ha0 ?hn0 ?ht0 ?hm0 ?ic0 ?ty0 ?na0_0 ?m10 ?m20 ?m30 ?m40 ?L0 ?Oc0 ?Ok0 ?A1 ?pg1 ?hd1 ?po1 ?sa1 ?ha1 ?hn1 ?ht1 ?hm1 ?ic1 ?ty1 ?na1_0 ?na1_1 ?m11 ?m21 ?m31 ?m41 ?L1 ?Oc1 ?Ok1 ?z_abs ?z_bool ?z_divmod ?z_enumerate ?z_int ?z_isinstance ?z_len ?z_list ?z_max ?z_range ?z_sorted ?z_sum ?z_tuple ?z_zip ?v_MOST_AMOUNT ?v_MOST_COINS ?v_MOST_ENTRIES ?v_MOST_PEOPLE ?v_MOST_WORTH
    (case a0 => k_is); (case l0 => k_is); (case c0 => k_is); (case k0 => k_is); (case a1 => k_is); (case l1 => k_is); (case c1 => k_is); (case k1 => k_is); (case a2 => k_is); (case l2 => k_is); (case c2 => k_is); (case k2 => k_is); (case a3 => k_is); (case l3 => k_is); (case c3 => k_is); (case k3 => k_is); (case a4 => k_is); (case l4 => k_is); (case c4 => k_is); (case k4 => k_is); (case lT4 => k_is); (case a5 => k_is); (case l5 => k_is); (case c5 => k_is); (case k5 => k_is); (case a6 => k_is); (case l6 => k_is); (case c6 => k_is); (case k6 => k_is); (case a7 => k_is); (case l7 => k_is); (case c7 => k_is); (case k7 => k_is); (case a8 => k_is); (case l8 => k_is); (case c8 => k_is); (case k8 => k_is); (case a9 => k_is); (case l9 => k_is); (case c9 => k_is); (case k9 => k_is); (case a10 => k_is); (case l10 => k_is); (case c10 => k_is); (case k10 => k_is); (case a11 => k_is); (case l11 => k_is); (case c11 => k_is); (case k11 => k_is); (case a12 => k_is); (case l12 => k_is); (case c12 => k_is); (case k12 => k_is); (case a13 => k_is); (case l13 => k_is); (case c13 => k_is); (case k13 => k_is); (case a14 => k_is); (case l14 => k_is); (case c14 => k_is); (case k14 => k_is); (case a15 => k_is); (case l15 => k_is); (case c15 => k_is); (case k15 => k_is); (case a16 => k_is); (case l16 => k_is); (case c16 => k_is); (case k16 => k_is); (case a17 => k_is); (case l17 => k_is); (case c17 => k_is); (case k17 => k_is); (case a18 => k_is); (case l18 => k_is); (case c18 => k_is); (case k18 => k_is); (case a19 => k_is); (case l19 => k_is); (case c19 => k_is); (case k19 => k_is); (case a20 => k_is); (case l20 => k_is); (case c20 => k_is); (case k20 => k_is); (case a21 => k_is); (case l21 => k_is); (case c21 => k_is); (case k21 => k_is); (case a22 => k_is); (case l22 => k_is); (case c22 => k_is); (case k22 => k_is); (case a23 => k_is); (case l23 => k_is); (case c23 => k_is); (case k23 => k_is); (case a24 => k_is); (case l24 => k_is); (case c24 => k_is); (case k24 => k_is); (case a25 => k_is); (case l25 => k_is); (case c25 => k_is); (case k25 => k_is); (case a26 => k_is); (case l26 => k_is); (case c26 => k_is); (case k26 => k_is); (case a27 => k_is); (case l27 => k_is); (case c27 => k_is); (case k27 => k_is); (case a28 => k_is); (case l28 => k_is); (case c28 => k_is); (case k28 => k_is); (case a29 => k_is); (case l29 => k_is); (case c29 => k_is); (case k29 => k_is); (case a30 => k_is); (case l30 => k_is); (case c30 => k_is); (case k30 => k_is); (case a31 => k_is); (case l31 => k_is); (case c31 => k_is); (case k31 => k_is); (case a32 => k_is); (case l32 => k_is); (case c32 => k_is); (case k32 => k_is); (case a33 => k_is); (case l33 => k_is); (case c33 => k_is); (case k33 => k_is); (case a34 => k_is); (case l34 => k_is); (case c34 => k_is); (case k34 => k_is); (case a35 => k_is); (case l35 => k_is); (case c35 => k_is); (case k35 => k_is); (case a36 => k_is); (case l36 => k_is); (case c36 => k_is); (case k36 => k_is); (case a37 => k_is); (case l37 => k_is); (case c37 => k_is); (case k37 => k_is); (case a38 => k_is); (case l38 => k_is); (case c38 => k_is); (case k38 => k_is); (case A0 => k_is); (case pg0 => k_is); (case hd0 => k_is); (case po0 => k_is); (case sa0 => k_is); (case ha0 => k_is); (case hn0 => k_is); (case ht0 => k_is); (case hm0 => k_is); (case ic0 => k_is); (case ty0 => k_is); (case na0_0 => k_is); (case m10 => k_is); (case m20 => k_is); (case m30 => k_is); (case m40 => k_is); (case L0 => k_is); (case Oc0 => k_is); (case Ok0 => k_is); (case A1 => k_is); (case pg1 => k_is); (case hd1 => k_is); (case po1 => k_is); (case sa1 => k_is); (case ha1 => k_is); (case hn1 => k_is); (case ht1 => k_is); (case hm1 => k_is); (case ic1 => k_is); (case ty1 => k_is); (case na1_0 => k_is); (case na1_1 => k_is); (case m11 => k_is); (case m21 => k_is); (case m31 => k_is); (case m41 => k_is); (case L1 => k_is); (case Oc1 => k_is); (case Ok1 => k_is); (case z_abs => k_is); (case z_bool => k_is); (case z_divmod => k_is); (case z_enumerate => k_is); (case z_int => k_is); (case z_isinstance => k_is); (case z_len => k_is); (case z_list => k_is); (case z_max => k_is); (case z_range => k_is); (case z_sorted => k_is); (case z_sum => k_is); (case z_tuple => k_is); (case z_zip => k_is); (case v_MOST_AMOUNT => k_is); (case v_MOST_COINS => k_is); (case v_MOST_ENTRIES => k_is); (case v_MOST_PEOPLE => k_is); (case v_MOST_WORTH => k_is)
