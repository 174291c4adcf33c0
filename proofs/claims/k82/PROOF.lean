import PyProof.Rows.All
import Wide.All
import OpenK.AllK
import Wide.FinOn
import HandS.ForMost
import HandS.ForExc
import HandS.TupAny
import HandS.TupMul
import HandS.IsInst
import HandS.Wide
import HandS.Style
import HandS.SortInts
import HandS.More
import HandS.Star
import OpenK.KOps
import HandS.Walk
import HandS.Rev
import HandS.Conv
import KE.GoesMore
import KE.GoesEnum
import KE.GoesZip
import HandS.RevRange
import HandS.Defaults
import HandS.Lambda
import HandS.Dict
import HandS.WordsDict
import HandS.ExcSuper
import HandS.ExcInit
import KE.KExcSuper
import HandS.ExcField
import HandS.Deep
import HandS.RaiseMore
import HandS.Head0
import HandS.Head1
import HandS.Head2
import HandS.HeadEnd
import HandS.HeadHook1
import HandS.HeadHook2
import HandS.HeadHook3
import HandS.HeadHook4
import HandS.HeadWalk
import PySem.Challenge.RW_oncetested_k82_unnoticed_settings_number
set_option Elab.async false
set_option linter.all false
set_option maxRecDepth 100000
set_option maxHeartbeats 4000000
set_option autoImplicit false
/-! The pure layer, part 0: data D, how data lies in a heap, frozen and owned objects, the judgements. -/
namespace Pl
open PySem PySem.Spec PyProof.Rows L2

/-- data: a Python value read as a tree -/
inductive D where
  | non | bl (b : Bool) | int (i : Int) | str (x : Str) | ty (n : String) | fn (a : Addr)
  | tup (ds : List D) | lst (ds : List D) | frl (ds : List D)
  | dic (ks : List Key) (ds : List D)
  | dit (ks : List (List Key)) (ds : List D)
  | ins (C : Addr) (ns : List Str) (ds : List D)

abbrev Frg := PySem.W.Frag

mutual
/-- v is the datum, read in the heap F -/
inductive Rep (K : Frg) (F : Hp) : V → D → Prop
  | non : Rep K F .non .non
  | bl (b : Bool) : Rep K F (.bl b) (.bl b)
  | int (i : Int) : Rep K F (.int i) (.int i)
  | str (x : Str) : Rep K F (.str x) (.str x)
  | ty (n : String) : Rep K F (.ty n) (.ty n)
  | fn (a : Addr) : Rep K F (.ref a) (.fn a)
  | tup {a : Addr} {vs : List V} {ds : List D} (h : F a = some (.tup vs)) (r : Reps K F vs ds) : Rep K F (.ref a) (.tup ds)
  | lst {a : Addr} {vs : List V} {ds : List D} (h : F a = some (.lst vs)) (r : Reps K F vs ds) : Rep K F (.ref a) (.lst ds)
  | frl {a : Addr} {vs : List V} {ds : List D} (h : SqL K F a vs) (r : Reps K F vs ds) : Rep K F (.ref a) (.frl ds)
  | dic {a : Addr} {kvs : List (Key × V)} {ds : List D} (h : F a = some (.dK kvs)) (r : Reps K F (kvs.map (·.2)) ds) : Rep K F (.ref a) (.dic (kvs.map (·.1)) ds)
  | dit {a : Addr} {kvs : List (List Key × V)} {ds : List D} (h : F a = some (.dT kvs)) (r : Reps K F (kvs.map (·.2)) ds) : Rep K F (.ref a) (.dit (kvs.map (·.1)) ds)
  | ins {a C dx : Addr} {fs : List (Str × V)} {ds : List D} (h : F a = some (.ins C dx fs)) (r : Reps K F (fs.map (·.2)) ds) : Rep K F (.ref a) (.ins C (fs.map (·.1)) ds)
inductive Reps (K : Frg) (F : Hp) : List V → List D → Prop
  | nil : Reps K F [] []
  | cons {v : V} {d : D} {vs : List V} {ds : List D} (h : Rep K F v d) (r : Reps K F vs ds) : Reps K F (v :: vs) (d :: ds)
end

theorem same_tup {K : Frg} {F F' : Hp} {a : Addr} {xs : List V} (e : Same F F') (h : SqT K F a xs) : SqT K F' a xs := by
  rcases h with (h | ⟨o, h⟩) | h
  · exact .inl (.inl (e _ _ h))
  · exact .inl (.inr ⟨o, e _ _ h⟩)
  · exact .inr h

mutual
theorem Rep.mono {K : Frg} {F F' : Hp} (e : Same F F') : ∀ {v : V} {d : D}, Rep K F v d → Rep K F' v d
  | _, _, .non => .non
  | _, _, .bl b => .bl b
  | _, _, .int i => .int i
  | _, _, .str x => .str x
  | _, _, .ty n => .ty n
  | _, _, .fn a => .fn a
  | _, _, .tup h r => .tup (e _ _ h) (Reps.mono e r)
  | _, _, .lst h r => .lst (e _ _ h) (Reps.mono e r)
  | _, _, .frl h r => .frl (e.seq h) (Reps.mono e r)
  | _, _, .dic h r => .dic (e _ _ h) (Reps.mono e r)
  | _, _, .dit h r => .dit (e _ _ h) (Reps.mono e r)
  | _, _, .ins h r => .ins (e _ _ h) (Reps.mono e r)
theorem Reps.mono {K : Frg} {F F' : Hp} (e : Same F F') : ∀ {vs : List V} {ds : List D}, Reps K F vs ds → Reps K F' vs ds
  | _, _, .nil => .nil
  | _, _, .cons h r => .cons (Rep.mono e h) (Reps.mono e r)
end

section
variable {K : Frg} {F : Hp}
theorem Reps.len : ∀ {vs : List V} {ds : List D}, Reps K F vs ds → vs.length = ds.length
  | _, _, .nil => rfl
  | _, _, .cons _ r => congrArg (· + 1) (Reps.len r)
theorem Reps.get : ∀ {vs : List V} {ds : List D} {i : Nat} {d : D}, Reps K F vs ds → ds[i]? = some d → ∃ v, vs[i]? = some v ∧ Rep K F v d
  | _, _, _, _, .nil, e => by simp at e
  | _, _, 0, _, .cons h _, e => by simp at e; subst e; exact ⟨_, rfl, h⟩
  | _, _, i + 1, _, .cons _ r, e => by
    obtain ⟨v, h1, h2⟩ := Reps.get (i := i) r (by simpa using e)
    exact ⟨v, by simpa using h1, h2⟩
theorem Reps.getV : ∀ {vs : List V} {ds : List D} {i : Nat} {v : V}, Reps K F vs ds → vs[i]? = some v → ∃ d, ds[i]? = some d ∧ Rep K F v d
  | _, _, _, _, .nil, e => by simp at e
  | _, _, 0, _, .cons h _, e => by simp at e; subst e; exact ⟨_, rfl, h⟩
  | _, _, i + 1, _, .cons _ r, e => by
    obtain ⟨v, h1, h2⟩ := Reps.getV (i := i) r (by simpa using e)
    exact ⟨v, by simpa using h1, h2⟩
theorem Reps.app : ∀ {vs ws : List V} {ds es : List D}, Reps K F vs ds → Reps K F ws es → Reps K F (vs ++ ws) (ds ++ es)
  | _, _, _, _, .nil, q => q
  | _, _, _, _, .cons h r, q => .cons h (Reps.app r q)
theorem Reps.tk : ∀ {vs : List V} {ds : List D} (n : Nat), Reps K F vs ds → Reps K F (vs.take n) (ds.take n)
  | _, _, 0, _ => .nil
  | _, _, _ + 1, .nil => .nil
  | _, _, n + 1, .cons h r => .cons h (Reps.tk n r)
theorem Reps.dp : ∀ {vs : List V} {ds : List D} (n : Nat), Reps K F vs ds → Reps K F (vs.drop n) (ds.drop n)
  | _, _, 0, r => r
  | _, _, _ + 1, .nil => .nil
  | _, _, n + 1, .cons _ r => Reps.dp n r
theorem Reps.put {v : V} {d : D} (h : Rep K F v d) : ∀ {vs : List V} {ds : List D} (i : Nat), Reps K F vs ds → Reps K F (vs.set i v) (ds.set i d)
  | _, _, _, .nil => .nil
  | _, _, 0, .cons _ r => .cons h r
  | _, _, i + 1, .cons q r => .cons q (Reps.put h i r)
theorem Reps.rev : ∀ {vs : List V} {ds : List D}, Reps K F vs ds → Reps K F vs.reverse ds.reverse
  | _, _, .nil => .nil
  | _, _, .cons h r => by
    rw [List.reverse_cons, List.reverse_cons]
    exact Reps.app (Reps.rev r) (.cons h .nil)
theorem Reps.rep {v : V} {d : D} (h : Rep K F v d) : ∀ n : Nat, Reps K F (List.replicate n v) (List.replicate n d)
  | 0 => .nil
  | n + 1 => .cons h (Reps.rep h n)
theorem Reps.ints : ∀ ns : List Int, Reps K F (ns.map V.int) (ns.map D.int)
  | [] => .nil
  | _ :: ns => .cons (.int _) (Reps.ints ns)
theorem Reps.of_ints : ∀ {vs : List V} {ns : List Int}, Reps K F vs (ns.map D.int) → vs = ns.map V.int
  | _, [], .nil => rfl
  | _, _ :: _, .cons h r => by
    cases h
    rw [Reps.of_ints r]
    rfl
theorem Reps.of_strs : ∀ {vs : List V} {ns : List Str}, Reps K F vs (ns.map D.str) → vs = ns.map V.str
  | _, [], .nil => rfl
  | _, _ :: _, .cons h r => by
    cases h
    rw [Reps.of_strs r]
    rfl
end

/-- what an owned object holds -/
inductive OD where
  | lst (ds : List D)
  | dic (ks : List Key) (ds : List D)
  | dit (ks : List (List Key)) (ds : List D)
  | ins (C : Addr) (ns : List Str) (ds : List D)
def OD.d : OD → D
  | .ins C ns ds => .ins C ns ds
  | .lst ds => .lst ds
  | .dic ks ds => .dic ks ds
  | .dit ks ds => .dit ks ds
def OwnO (K : Frg) (F : Hp) : HO → OD → Prop
  | .lst vs, .lst ds => Reps K F vs ds
  | .dK kvs, .dic ks ds => kvs.map (·.1) = ks ∧ Reps K F (kvs.map (·.2)) ds
  | .dT kvs, .dit ks ds => kvs.map (·.1) = ks ∧ Reps K F (kvs.map (·.2)) ds
  | .ins C _ fs, .ins C' ns ds => C = C' ∧ fs.map (·.1) = ns ∧ Reps K F (fs.map (·.2)) ds
  | _, _ => False
theorem OwnO.mono {K : Frg} {F F' : Hp} (e : Same F F') {o : HO} {w : OD} (h : OwnO K F o w) : OwnO K F' o w := by
  cases o <;> cases w <;> first | exact False.elim h | exact Reps.mono e h | exact ⟨h.1, Reps.mono e h.2⟩ | exact ⟨h.1, h.2.1, Reps.mono e h.2.2⟩
theorem OwnO.rep {K : Frg} {F : Hp} {a : Addr} {o : HO} {w : OD} (h : OwnO K F o w) (e : F a = some o) : Rep K F (.ref a) w.d := by
  cases o <;> cases w <;> first | exact False.elim h | exact .lst e h | (obtain ⟨rfl, h⟩ := h; exact .dic e h) | (obtain ⟨rfl, h⟩ := h; exact .dit e h) | (obtain ⟨rfl, rfl, h⟩ := h; exact .ins e h)
theorem OwnO.lst_inv {K : Frg} {F : Hp} {o : HO} {ds : List D} (h : OwnO K F o (.lst ds)) : ∃ vs, o = .lst vs ∧ Reps K F vs ds := by
  cases o <;> first | exact False.elim h | exact ⟨_, rfl, h⟩
theorem OwnO.dic_inv {K : Frg} {F : Hp} {o : HO} {ks : List Key} {ds : List D} (h : OwnO K F o (.dic ks ds)) : ∃ kvs, o = .dK kvs ∧ kvs.map (·.1) = ks ∧ Reps K F (kvs.map (·.2)) ds := by
  cases o <;> first | exact False.elim h | exact ⟨_, rfl, h.1, h.2⟩
theorem OwnO.dit_inv {K : Frg} {F : Hp} {o : HO} {ks : List (List Key)} {ds : List D} (h : OwnO K F o (.dit ks ds)) : ∃ kvs, o = .dT kvs ∧ kvs.map (·.1) = ks ∧ Reps K F (kvs.map (·.2)) ds := by
  cases o <;> first | exact False.elim h | exact ⟨_, rfl, h.1, h.2⟩

theorem OwnO.ins_inv {K : Frg} {F : Hp} {o : HO} {C : Addr} {ns : List Str} {ds : List D} (h : OwnO K F o (.ins C ns ds)) : ∃ dx fs, o = .ins C dx fs ∧ fs.map (·.1) = ns ∧ Reps K F (fs.map (·.2)) ds := by
  cases o <;> first | exact False.elim h | (obtain ⟨rfl, h2, h3⟩ := h; exact ⟨_, _, rfl, h2, h3⟩)

theorem OwnO.no_ext {K : Frg} {F : Hp} {o : HO} {w : OD} {φ : Heap → Prop} (h : OwnO K F o w) (e : o = HO.ext φ) : False := by
  subst e
  cases w <;> exact h
/-- the state that some defs pass on and change: what it is, how it lies at its own addresses, the value by which it is named -/
structure Gh where
  S : Type
  At : S → Hp → Hp → Prop
  fp : Addr → Prop
  self : V
  loc : ∀ s H H' {F F'}, (∀ p, fp p → H' p = H p) → (∀ p φ, H p = some (HO.ext φ) → H' p = some (HO.ext φ)) → Same F F' → At s H F → At s H' F'
  dom : ∀ s H {F} p, At s H F → fp p → H p ≠ none

theorem Gh.atF {G : Gh} {s : G.S} {H F F' : Hp} (a : G.At s H F) (e : Same F F') : G.At s H F' := G.loc s H H (fun _ _ => rfl) (fun _ _ z => z) e a
/-- a state whose lie does not lean on what is frozen -/
def Flat (G : Gh) : Prop := ∀ s H F F', G.At s H F → G.At s H F'
/-- from H, F to H', F': what is tracked stands but for fp; F grows; what was there and not frozen is not frozen -/
structure Ext (fp : Addr → Prop) (H F H' F' : Hp) : Prop where
  h : ∀ p o, ¬ fp p → H p = some o → H' p = some o
  d : ∀ p, H p ≠ none → H' p ≠ none
  f : Same F F'
  fh : Same F' H'
  n : ∀ p, H p ≠ none → F p = none → F' p = none
theorem Ext.refl {fp : Addr → Prop} {H F : Hp} (e : Same F H) : Ext fp H F H F := ⟨fun _ _ _ h => h, fun _ h => h, Same.refl F, e, fun _ _ h => h⟩
theorem Ext.trans {fp : Addr → Prop} {H F H1 F1 H2 F2 : Hp} (a : Ext fp H F H1 F1) (b : Ext fp H1 F1 H2 F2) : Ext fp H F H2 F2 :=
  ⟨fun p o nf h => b.h p o nf (a.h p o nf h), fun p h => b.d p (a.d p h), a.f.trans b.f, b.fh, fun p h n => b.n p (a.d p h) (a.n p h n)⟩
theorem Ext.of_all {fp : Addr → Prop} {H F H' F' : Hp} (e : Ext (fun _ => False) H F H' F') : Ext fp H F H' F' := ⟨fun p o _ h => e.h p o (fun z => z) h, e.d, e.f, e.fh, e.n⟩
theorem Ext.same {H F H' F' : Hp} (e : Ext (fun _ => False) H F H' F') : Same H H' := fun p o h => e.h p o (fun z => z) h
theorem none_of_same {F H : Hp} {p : Addr} (e : Same F H) (n : H p = none) : F p = none := e.free n
/-- a new object, frozen at once -/
theorem Ext.new {fp : Addr → Prop} {H F : Hp} {p : Addr} (o : HO) (e : Same F H) (n : H p = none) : Ext fp H F (upd H p o) (upd F p o) where
  h := fun q u _ z => by rw [upd_ne (ne_of_none z n)]; exact z
  d := fun q z => by
    by_cases c : q = p
    · rw [c, upd_same]; simp
    · rw [upd_ne c]; exact z
  f := fun q u z => by rw [upd_ne (ne_of_none z (none_of_same e n))]; exact z
  fh := fun q u z => by
    by_cases c : q = p
    · rw [c, upd_same] at z ⊢; exact z
    · rw [upd_ne c] at z ⊢; exact e q u z
  n := fun q z m => by
    have c : q ≠ p := fun c => z (c ▸ n)
    rw [upd_ne c]; exact m
/-- a new object, not frozen -/
theorem Ext.own {fp : Addr → Prop} {H F : Hp} {p : Addr} (o : HO) (e : Same F H) (n : H p = none) : Ext fp H F (upd H p o) F where
  h := fun q u _ z => by rw [upd_ne (ne_of_none z n)]; exact z
  d := fun q z => by
    by_cases c : q = p
    · rw [c, upd_same]; simp
    · rw [upd_ne c]; exact z
  f := Same.refl F
  fh := fun q u z => by rw [upd_ne (ne_of_none (e _ _ z) n)]; exact e q u z
  n := fun q _ m => m

/-- a slot's word: nothing is known; a datum that stays; an object that is this slot's alone; the state -/
inductive SV where
  | no | fz (d : D) | ow (w : OD) | gh
abbrev Env := List SV

inductive Slots (K : Frg) (G : Gh) (H0 F H : Hp) : Env → L2.St → List Addr → Prop
  | nil : Slots K G H0 F H [] [] []
  | no {x : Option V} {env : Env} {σ : L2.St} {L : List Addr} (r : Slots K G H0 F H env σ L) : Slots K G H0 F H (.no :: env) (x :: σ) L
  | fz {v : V} {d : D} {env : Env} {σ : L2.St} {L : List Addr} (h : Rep K F v d) (r : Slots K G H0 F H env σ L) : Slots K G H0 F H (.fz d :: env) (some v :: σ) L
  | ow {p : Addr} {o : HO} {w : OD} {env : Env} {σ : L2.St} {L : List Addr} (h : H p = some o) (f : F p = none) (g : ¬ G.fp p) (h0 : H0 p = none) (q : OwnO K F o w) (m : p ∉ L)
      (r : Slots K G H0 F H env σ L) : Slots K G H0 F H (.ow w :: env) (some (.ref p) :: σ) (p :: L)
  | gh {env : Env} {σ : L2.St} {L : List Addr} (r : Slots K G H0 F H env σ L) : Slots K G H0 F H (.gh :: env) (some G.self :: σ) L

section
variable {K : Frg} {G : Gh} {H0 F H F' H' : Hp} {env : Env} {σ : L2.St} {L : List Addr}
theorem Slots.len (r : Slots K G H0 F H env σ L) : env.length = σ.length := by
  induction r with
  | nil => rfl
  | no _ ih => exact congrArg (· + 1) ih
  | fz _ _ ih => exact congrArg (· + 1) ih
  | ow _ _ _ _ _ _ _ ih => exact congrArg (· + 1) ih
  | gh _ ih => exact congrArg (· + 1) ih
theorem Slots.ext (e : Ext G.fp H F H' F') (r : Slots K G H0 F H env σ L) : Slots K G H0 F' H' env σ L := by
  induction r with
  | nil => exact .nil
  | no _ ih => exact .no ih
  | fz h _ ih => exact .fz (h.mono e.f) ih
  | ow h f g h0 q m _ ih => exact .ow (e.h _ _ g h) (e.n _ (by rw [h]; simp) f) g h0 (q.mono e.f) m ih
  | gh _ ih => exact .gh ih
/-- only addresses beside L have changed, nothing of L was frozen -/
theorem Slots.updH {p : Addr} {o : HO} (m : p ∉ L) (r : Slots K G H0 F H env σ L) : Slots K G H0 F (L2.upd H p o) env σ L := by
  induction r with
  | nil => exact .nil
  | no _ ih => exact .no (ih m)
  | fz h _ ih => exact .fz h (ih m)
  | @ow p' o' w env σ L h f g h0 q m' _ ih =>
    have ne : p' ≠ p := fun z => m (by rw [z]; exact List.mem_cons_self)
    exact .ow (by rw [upd_ne ne]; exact h) f g h0 q m' (ih fun z => m (List.mem_cons_of_mem _ z))
  | gh _ ih => exact .gh (ih m)
theorem Slots.frz {p : Addr} {o : HO} (f : F p = none) (m : p ∉ L) (r : Slots K G H0 F H env σ L) : Slots K G H0 (L2.upd F p o) H env σ L := by
  have sF : Same F (L2.upd F p o) := fun q u z => by rw [upd_ne (ne_of_none z f)]; exact z
  induction r with
  | nil => exact .nil
  | no _ ih => exact .no (ih m)
  | fz h _ ih => exact .fz (h.mono sF) (ih m)
  | @ow p' o' w env σ L h f' g h0 q m' _ ih =>
    have ne : p' ≠ p := fun z => m (by rw [z]; exact List.mem_cons_self)
    exact .ow h (by rw [upd_ne ne]; exact f') g h0 (q.mono sF) m' (ih fun z => m (List.mem_cons_of_mem _ z))
  | gh _ ih => exact .gh (ih m)
theorem Slots.get_fz : ∀ {env : Env} {σ : L2.St} {L : List Addr} {i : Nat} {d : D}, Slots K G H0 F H env σ L → env[i]? = some (.fz d) → ∃ v, σ[i]? = some (some v) ∧ Rep K F v d
  | _, _, _, _, _, .nil, e => by simp at e
  | _, _, _, 0, _, .fz h r, e => by simp at e; subst e; exact ⟨_, rfl, h⟩
  | _, _, _, 0, _, .no r, e => by simp at e
  | _, _, _, 0, _, .ow _ _ _ _ _ _ r, e => by simp at e
  | _, _, _, 0, _, .gh r, e => by simp at e
  | _, _, _, i + 1, _, .fz _ r, e => by simpa using Slots.get_fz (i := i) r (by simpa using e)
  | _, _, _, i + 1, _, .no r, e => by simpa using Slots.get_fz (i := i) r (by simpa using e)
  | _, _, _, i + 1, _, .ow _ _ _ _ _ _ r, e => by simpa using Slots.get_fz (i := i) r (by simpa using e)
  | _, _, _, i + 1, _, .gh r, e => by simpa using Slots.get_fz (i := i) r (by simpa using e)
theorem Slots.get_gh : ∀ {env : Env} {σ : L2.St} {L : List Addr} {i : Nat}, Slots K G H0 F H env σ L → env[i]? = some .gh → σ[i]? = some (some G.self)
  | _, _, _, _, .nil, e => by simp at e
  | _, _, _, 0, .gh r, e => rfl
  | _, _, _, 0, .no r, e => by simp at e
  | _, _, _, 0, .fz _ r, e => by simp at e
  | _, _, _, 0, .ow _ _ _ _ _ _ r, e => by simp at e
  | _, _, _, i + 1, .fz _ r, e => by simpa using Slots.get_gh (i := i) r (by simpa using e)
  | _, _, _, i + 1, .no r, e => by simpa using Slots.get_gh (i := i) r (by simpa using e)
  | _, _, _, i + 1, .ow _ _ _ _ _ _ r, e => by simpa using Slots.get_gh (i := i) r (by simpa using e)
  | _, _, _, i + 1, .gh r, e => by simpa using Slots.get_gh (i := i) r (by simpa using e)
/-- an owned slot: its object; and what happens when it is written, or frozen -/
theorem Slots.get_ow : ∀ {env : Env} {σ : L2.St} {L : List Addr} {i : Nat} {w : OD}, Slots K G H0 F H env σ L → env[i]? = some (.ow w) →
    ∃ p o, σ[i]? = some (some (.ref p)) ∧ p ∈ L ∧ H p = some o ∧ F p = none ∧ ¬ G.fp p ∧ H0 p = none ∧ OwnO K F o w ∧
      (∀ o' w', OwnO K F o' w' → Slots K G H0 F (L2.upd H p o') (env.set i (.ow w')) σ L) ∧
      (∀ sF : Same F H, Slots K G H0 (L2.upd F p o) H (env.set i (.fz w.d)) σ (L.erase p)) ∧ L.erase p ⊆ L ∧ p ∉ L.erase p
  | _, _, _, _, _, .nil, e => by simp at e
  | _, _, _, 0, _, .ow (p := p) (o := o) (L := L) h f g h0 q m r, e => by
    simp at e; subst e
    refine ⟨p, o, rfl, List.mem_cons_self, h, f, g, h0, q, fun o' w' q' => .ow upd_same f g h0 q' m (r.updH m), fun sF => ?_, ?_, ?_⟩
    · rw [List.erase_cons_head]
      have sF' : Same F (L2.upd F p o) := fun b u z => by rw [upd_ne (ne_of_none z f)]; exact z
      exact .fz ((q.mono sF').rep upd_same) (r.frz f m)
    · rw [List.erase_cons_head]; exact fun x hx => List.mem_cons_of_mem _ hx
    · rw [List.erase_cons_head]; exact m
  | _, _, _, 0, _, .no r, e => by simp at e
  | _, _, _, 0, _, .fz _ r, e => by simp at e
  | _, _, _, 0, _, .gh r, e => by simp at e
  | _, _, _, i + 1, _, .no r, e => by
    obtain ⟨p, o, a1, a2, a3, a4, a5, a6, a7, a8, a9, a10, a11⟩ := Slots.get_ow (i := i) r (by simpa using e)
    exact ⟨p, o, by simpa using a1, a2, a3, a4, a5, a6, a7, fun o' w' q' => .no (a8 o' w' q'), fun sF => .no (a9 sF), a10, a11⟩
  | _, _, _, i + 1, _, .fz h r, e => by
    obtain ⟨p, o, a1, a2, a3, a4, a5, a6, a7, a8, a9, a10, a11⟩ := Slots.get_ow (i := i) r (by simpa using e)
    exact ⟨p, o, by simpa using a1, a2, a3, a4, a5, a6, a7, fun o' w' q' => .fz h (a8 o' w' q'), fun sF => .fz (h.mono fun b u z => by rw [upd_ne (ne_of_none z a4)]; exact z) (a9 sF), a10, a11⟩
  | _, _, _, i + 1, _, .gh r, e => by
    obtain ⟨p, o, a1, a2, a3, a4, a5, a6, a7, a8, a9, a10, a11⟩ := Slots.get_ow (i := i) r (by simpa using e)
    exact ⟨p, o, by simpa using a1, a2, a3, a4, a5, a6, a7, fun o' w' q' => .gh (a8 o' w' q'), fun sF => .gh (a9 sF), a10, a11⟩
  | _, _, _, i + 1, _, .ow (p := p') (L := L') h f g h0 q m r, e => by
    obtain ⟨p, o, a1, a2, a3, a4, a5, a6, a7, a8, a9, a10, a11⟩ := Slots.get_ow (i := i) r (by simpa using e)
    have ne : p' ≠ p := fun z => m (by rw [z]; exact a2)
    have er : (p' :: L').erase p = p' :: L'.erase p := List.erase_cons_tail (by simpa using ne)
    refine ⟨p, o, by simpa using a1, List.mem_cons_of_mem _ a2, a3, a4, a5, a6, a7, fun o' w' q' => .ow (by rw [upd_ne ne]; exact h) f g h0 q m (a8 o' w' q'), fun sF => ?_, ?_, ?_⟩
    · rw [er]
      exact .ow h (by rw [upd_ne ne]; exact f) g h0 (q.mono fun b u z => by rw [upd_ne (ne_of_none z a4)]; exact z) (fun z => m (a10 z)) (a9 sF)
    · rw [er]; exact fun x hx => (List.mem_cons.mp hx).elim (fun z => z ▸ List.mem_cons_self) fun z => List.mem_cons_of_mem _ (a10 z)
    · rw [er]; exact fun z => (List.mem_cons.mp z).elim (fun z => ne z.symm) a11
/-- what a slot may be set to -/
theorem Slots.set_fz {v : V} {d : D} (h : Rep K F v d) : ∀ {env : Env} {σ : L2.St} {L : List Addr} (i : Nat), Slots K G H0 F H env σ L → ∃ L', Slots K G H0 F H (env.set i (.fz d)) (σ.set i (some v)) L' ∧ L' ⊆ L
  | _, _, _, _, .nil => ⟨[], .nil, fun _ z => z⟩
  | _, _, _, 0, .no r => ⟨_, .fz h r, fun _ z => z⟩
  | _, _, _, 0, .fz _ r => ⟨_, .fz h r, fun _ z => z⟩
  | _, _, _, 0, .gh r => ⟨_, .fz h r, fun _ z => z⟩
  | _, _, _, 0, .ow _ _ _ _ _ _ r => ⟨_, .fz h r, fun _ z => List.mem_cons_of_mem _ z⟩
  | _, _, _, i + 1, .no r => by
    obtain ⟨L', a, b⟩ := Slots.set_fz h i r
    exact ⟨L', .no a, b⟩
  | _, _, _, i + 1, .fz q r => by
    obtain ⟨L', a, b⟩ := Slots.set_fz h i r
    exact ⟨L', .fz q a, b⟩
  | _, _, _, i + 1, .gh r => by
    obtain ⟨L', a, b⟩ := Slots.set_fz h i r
    exact ⟨L', .gh a, b⟩
  | _, _, _, i + 1, .ow (p := p) a1 a2 a3 a4 a5 m r => by
    obtain ⟨L', a, b⟩ := Slots.set_fz h i r
    exact ⟨p :: L', .ow a1 a2 a3 a4 a5 (fun z => m (b z)) a, fun x hx => (List.mem_cons.mp hx).elim (fun z => z ▸ List.mem_cons_self) fun z => List.mem_cons_of_mem _ (b z)⟩
theorem Slots.set_no {x : Option V} : ∀ {env : Env} {σ : L2.St} {L : List Addr} (i : Nat), Slots K G H0 F H env σ L → ∃ L', Slots K G H0 F H (env.set i .no) (σ.set i x) L' ∧ L' ⊆ L
  | _, _, _, _, .nil => ⟨[], .nil, fun _ z => z⟩
  | _, _, _, 0, .no r => ⟨_, .no r, fun _ z => z⟩
  | _, _, _, 0, .fz _ r => ⟨_, .no r, fun _ z => z⟩
  | _, _, _, 0, .gh r => ⟨_, .no r, fun _ z => z⟩
  | _, _, _, 0, .ow _ _ _ _ _ _ r => ⟨_, .no r, fun _ z => List.mem_cons_of_mem _ z⟩
  | _, _, _, i + 1, .no r => by
    obtain ⟨L', a, b⟩ := Slots.set_no i r
    exact ⟨L', .no a, b⟩
  | _, _, _, i + 1, .fz q r => by
    obtain ⟨L', a, b⟩ := Slots.set_no i r
    exact ⟨L', .fz q a, b⟩
  | _, _, _, i + 1, .gh r => by
    obtain ⟨L', a, b⟩ := Slots.set_no i r
    exact ⟨L', .gh a, b⟩
  | _, _, _, i + 1, .ow (p := p) a1 a2 a3 a4 a5 m r => by
    obtain ⟨L', a, b⟩ := Slots.set_no i r
    exact ⟨p :: L', .ow a1 a2 a3 a4 a5 (fun z => m (b z)) a, fun x hx => (List.mem_cons.mp hx).elim (fun z => z ▸ List.mem_cons_self) fun z => List.mem_cons_of_mem _ (b z)⟩
theorem Slots.set_gh : ∀ {env : Env} {σ : L2.St} {L : List Addr} (i : Nat), Slots K G H0 F H env σ L → ∃ L', Slots K G H0 F H (env.set i .gh) (σ.set i (some G.self)) L' ∧ L' ⊆ L
  | _, _, _, _, .nil => ⟨[], .nil, fun _ z => z⟩
  | _, _, _, 0, .no r => ⟨_, .gh r, fun _ z => z⟩
  | _, _, _, 0, .fz _ r => ⟨_, .gh r, fun _ z => z⟩
  | _, _, _, 0, .gh r => ⟨_, .gh r, fun _ z => z⟩
  | _, _, _, 0, .ow _ _ _ _ _ _ r => ⟨_, .gh r, fun _ z => List.mem_cons_of_mem _ z⟩
  | _, _, _, i + 1, .no r => by
    obtain ⟨L', a, b⟩ := Slots.set_gh i r
    exact ⟨L', .no a, b⟩
  | _, _, _, i + 1, .fz q r => by
    obtain ⟨L', a, b⟩ := Slots.set_gh i r
    exact ⟨L', .fz q a, b⟩
  | _, _, _, i + 1, .gh r => by
    obtain ⟨L', a, b⟩ := Slots.set_gh i r
    exact ⟨L', .gh a, b⟩
  | _, _, _, i + 1, .ow (p := p) a1 a2 a3 a4 a5 m r => by
    obtain ⟨L', a, b⟩ := Slots.set_gh i r
    exact ⟨p :: L', .ow a1 a2 a3 a4 a5 (fun z => m (b z)) a, fun x hx => (List.mem_cons.mp hx).elim (fun z => z ▸ List.mem_cons_self) fun z => List.mem_cons_of_mem _ (b z)⟩
/-- a new object becomes a slot's own: no other slot owns it (it is at an address that owns nothing here) -/
theorem Slots.set_ow {p : Addr} {o : HO} {w : OD} (h : H p = some o) (f : F p = none) (g : ¬ G.fp p) (h0 : H0 p = none) (q : OwnO K F o w) (r : Slots K G H0 F H env σ L) (m : p ∉ L) :
    ∀ i : Nat, i < env.length → ∃ L', Slots K G H0 F H (env.set i (.ow w)) (σ.set i (some (.ref p))) L' ∧ L' ⊆ p :: L := by
  induction r with
  | nil => exact fun i z => absurd z (Nat.not_lt_zero _)
  | no r ih =>
    intro i z
    cases i with
    | zero => exact ⟨_, .ow h f g h0 q m r, fun _ z => z⟩
    | succ i =>
      obtain ⟨L', a, b⟩ := ih m i (Nat.lt_of_succ_lt_succ z)
      exact ⟨L', .no a, b⟩
  | fz k r ih =>
    intro i z
    cases i with
    | zero => exact ⟨_, .ow h f g h0 q m r, fun _ z => z⟩
    | succ i =>
      obtain ⟨L', a, b⟩ := ih m i (Nat.lt_of_succ_lt_succ z)
      exact ⟨L', .fz k a, b⟩
  | gh r ih =>
    intro i z
    cases i with
    | zero => exact ⟨_, .ow h f g h0 q m r, fun _ z => z⟩
    | succ i =>
      obtain ⟨L', a, b⟩ := ih m i (Nat.lt_of_succ_lt_succ z)
      exact ⟨L', .gh a, b⟩
  | @ow p' o' w' env σ L a1 a2 a3 a4 a5 m' r ih =>
    intro i z
    cases i with
    | zero => exact ⟨_, .ow h f g h0 q (fun z => m (List.mem_cons_of_mem _ z)) r, fun _ z => (List.mem_cons.mp z).elim (fun z => z ▸ List.mem_cons_self) fun z => List.mem_cons_of_mem _ (List.mem_cons_of_mem _ z)⟩
    | succ i =>
      obtain ⟨L', a, b⟩ := ih (fun z => m (List.mem_cons_of_mem _ z)) i (Nat.lt_of_succ_lt_succ z)
      refine ⟨p' :: L', .ow a1 a2 a3 a4 a5 (fun z => ?_) a, fun x hx => ?_⟩
      · rcases List.mem_cons.mp (b z) with c | c
        · exact m (c ▸ List.mem_cons_self)
        · exact m' c
      · rcases List.mem_cons.mp hx with c | c
        · exact List.mem_cons_of_mem _ (c ▸ List.mem_cons_self)
        · rcases List.mem_cons.mp (b c) with c | c
          · exact c ▸ List.mem_cons_self
          · exact List.mem_cons_of_mem _ (List.mem_cons_of_mem _ c)
theorem Slots.own_at (r : Slots K G H0 F H env σ L) : ∀ p ∈ L, H p ≠ none := by
  induction r with
  | nil => intro p z; cases z
  | no _ ih => exact ih
  | fz _ _ ih => exact ih
  | ow h _ _ _ _ _ _ ih => exact fun p z => (List.mem_cons.mp z).elim (fun z => by rw [z, h]; simp) (ih p)
  | gh _ ih => exact ih
end

/-- the frame at hand, read as data -/
structure Sim (K : Frg) (G : Gh) (H0 F0 : Hp) (env : Env) (σ : L2.St) (H F : Hp) (s : G.S) : Prop where
  fh : Same F H
  ext : Ext G.fp H0 F0 H F
  at_ : G.At s H F
  nf : ∀ p, G.fp p → F p = none
  sl : ∃ L, Slots K G H0 F H env σ L

section
variable {K : Frg} {G : Gh} {H0 F0 F H F' H' : Hp} {env : Env} {σ : L2.St} {s s' : G.S}
theorem Sim.step (S : Sim K G H0 F0 env σ H F s) (e : Ext G.fp H F H' F') (a : G.At s' H' F') : Sim K G H0 F0 env σ H' F' s' := by
  obtain ⟨L, r⟩ := S.sl
  exact ⟨e.fh, S.ext.trans e, a, fun p z => e.n p (G.dom s H p S.at_ z) (S.nf p z), L, r.ext e⟩
theorem Sim.set_fz {v : V} {d : D} (S : Sim K G H0 F0 env σ H F s) (i : Nat) (h : Rep K F v d) : Sim K G H0 F0 (env.set i (.fz d)) (σ.set i (some v)) H F s := by
  obtain ⟨L, r⟩ := S.sl
  obtain ⟨L', r', _⟩ := r.set_fz h i
  exact ⟨S.fh, S.ext, S.at_, S.nf, L', r'⟩
theorem Sim.set_no {x : Option V} (S : Sim K G H0 F0 env σ H F s) (i : Nat) : Sim K G H0 F0 (env.set i .no) (σ.set i x) H F s := by
  obtain ⟨L, r⟩ := S.sl
  obtain ⟨L', r', _⟩ := r.set_no (x := x) i
  exact ⟨S.fh, S.ext, S.at_, S.nf, L', r'⟩
theorem Sim.set_gh (S : Sim K G H0 F0 env σ H F s) (i : Nat) : Sim K G H0 F0 (env.set i .gh) (σ.set i (some G.self)) H F s := by
  obtain ⟨L, r⟩ := S.sl
  obtain ⟨L', r', _⟩ := r.set_gh i
  exact ⟨S.fh, S.ext, S.at_, S.nf, L', r'⟩
theorem Sim.len (S : Sim K G H0 F0 env σ H F s) : env.length = σ.length := let ⟨_, r⟩ := S.sl; r.len
end
end Pl
/-! The pure layer, part 1: outcomes, the readings from data, names, constants, operators, tests. -/
namespace Pl
open PySem PySem.Spec PyProof.Rows L2

/-- an outcome: a result, or an exception of the class at C with these fields -/
inductive Oc (α : Type) where
  | ok (a : α)
  | ex (C : Addr) (ns : List Str) (ds : List D)
abbrev DM (S α : Type) := S → Oc α → S → Prop
def DM.ret {S α : Type} (a : α) : DM S α := fun s o s' => o = .ok a ∧ s' = s
def DM.bind {S α β : Type} (m : DM S α) (k : α → DM S β) : DM S β := fun s o s' =>
  (∃ a s1, m s (.ok a) s1 ∧ k a s1 o s') ∨ (∃ C ns ds, m s (.ex C ns ds) s' ∧ o = .ex C ns ds)
def DM.lift {S α : Type} (x : Option α) : DM S α := fun s o s' => s' = s ∧ ∃ a, x = some a ∧ o = .ok a
theorem DM.bind_ok {S α β : Type} {m : DM S α} {k : α → DM S β} {s s1 s' : S} {a : α} {o : Oc β} (h : m s (.ok a) s1) (h' : k a s1 o s') : DM.bind m k s o s' := .inl ⟨a, s1, h, h'⟩
theorem DM.bind_ex {S α β : Type} {m : DM S α} {k : α → DM S β} {s s' : S} {C : Addr} {ns : List Str} {ds : List D} (h : m s (.ex C ns ds) s') : DM.bind m k s (.ex C ns ds) s' := .inr ⟨C, ns, ds, h, rfl⟩
theorem DM.lift_ok {S α : Type} {x : Option α} {s : S} {a : α} (h : x = some a) : DM.lift x s (.ok a) s := ⟨rfl, a, h, rfl⟩
theorem DM.ret_ok {S α : Type} {s : S} {a : α} : DM.ret a s (.ok a) s := ⟨rfl, rfl⟩

/-- what is promised of an exception -/
def XC {α : Type} (K : Frg) (G : Gh) (W : WX) (σ : L2.St) (H F : Hp) (s' : G.S) (o : Oc α) : Prop :=
  ∀ C ns ds, o = .ex C ns ds → ∀ (dx : Addr) (fs : List (Str × V)) (H' F' : Hp), Ext G.fp H F H' F' → G.At s' H' F' → H' dx = some (.xd fs) → fs.map (·.1) = ns → Reps K F' (fs.map (·.2)) ds → W (.ref C) (some dx) σ H'
theorem XC.ext {α : Type} {K : Frg} {G : Gh} {W : WX} {σ : L2.St} {H F H1 F1 : Hp} {s' : G.S} {o : Oc α} (x : XC K G W σ H F s' o) (e : Ext G.fp H F H1 F1) : XC K G W σ H1 F1 s' o :=
  fun C ns ds z dx fs H' F' e' => x C ns ds z dx fs H' F' (e.trans e')
theorem XC.ok {α : Type} {K : Frg} {G : Gh} {W : WX} {σ : L2.St} {H F : Hp} {s' : G.S} {a : α} : XC K G W σ H F s' (.ok a) := fun _ _ _ z => by cases z
theorem XC.tr {α β : Type} {K : Frg} {G : Gh} {W : WX} {σ : L2.St} {H F : Hp} {s' : G.S} {C : Addr} {ns : List Str} {ds : List D} (x : XC (α := α) K G W σ H F s' (.ex C ns ds)) : XC (α := β) K G W σ H F s' (.ex C ns ds) :=
  fun C' ns' ds' z => by cases z; exact x C ns ds rfl

/-- a reading made of data: R tells the outcome in the frame's words, Gd how a result bears what it is -/
def tG {α β : Type} (K : Frg) (G : Gh) (W : WX) (Gd : Hp → Hp → Hp → β → α → Prop) (R : Env → DM G.S α) : L2.St → Hp → (β → Hp → Prop) → Prop := fun σ H Q =>
  ∃ (H0 F0 F : Hp) (env : Env) (s : G.S) (o : Oc α) (s' : G.S), Sim K G H0 F0 env σ H F s ∧ R env s o s' ∧
    (∀ a, o = .ok a → ∀ b H' F', Ext G.fp H F H' F' → G.At s' H' F' → Gd H H' F' b a → Q b H') ∧ XC K G W σ H F s' o
def gE (K : Frg) : Hp → Hp → Hp → V → D → Prop := fun _ _ F' v d => Rep K F' v d
def gT : Hp → Hp → Hp → Bool → Bool → Prop := fun _ _ _ b b' => b = b'
def gA (K : Frg) : Hp → Hp → Hp → List V → List D → Prop := fun _ _ F' vs ds => Reps K F' vs ds
/-- a list that can be read: a frozen one, or one that stands -/
def LsAt (K : Frg) (fp : Addr → Prop) (H F : Hp) (a : Addr) (vs : List V) : Prop := SqL K F a vs ∨ (H a = some (.lst vs) ∧ ¬ fp a)
def gL (K : Frg) (fp : Addr → Prop) : Hp → Hp → Hp → V → List D → Prop := fun _ H' F' v ds => ∃ a vs, v = .ref a ∧ LsAt K fp H' F' a vs ∧ Reps K F' vs ds
/-- a new object that is nobody's -/
def gF (K : Frg) : Hp → Hp → Hp → V → OD → Prop := fun H H' F' v w => ∃ p o, v = .ref p ∧ H p = none ∧ H' p = some o ∧ F' p = none ∧ OwnO K F' o w
theorem LsAt.ext {K : Frg} {fp : Addr → Prop} {H F H' F' : Hp} {a : Addr} {vs : List V} (l : LsAt K fp H F a vs) (e : Ext fp H F H' F') : LsAt K fp H' F' a vs := by
  rcases l with l | ⟨l, n⟩
  · exact .inl (e.f.seq l)
  · exact .inr ⟨e.h _ _ n l, n⟩
theorem LsAt.seq {K : Frg} {fp : Addr → Prop} {H F : Hp} {a : Addr} {vs : List V} (l : LsAt K fp H F a vs) (e : Same F H) : SqL K H a vs := by
  rcases l with l | ⟨l, n⟩
  · exact e.seq l
  · exact .of l

abbrev tE (K : Frg) (G : Gh) (W : WX) (R : Env → DM G.S D) : TE := tG K G W (gE K) R
abbrev tT (K : Frg) (G : Gh) (W : WX) (R : Env → DM G.S Bool) : TT := tG K G W gT R
abbrev tA (K : Frg) (G : Gh) (W : WX) (R : Env → DM G.S (List D)) : TA := tG K G W (gA K) R
abbrev tL (K : Frg) (G : Gh) (W : WX) (R : Env → DM G.S (List D)) : TE := tG K G W (gL K G.fp) R
abbrev tF (K : Frg) (G : Gh) (W : WX) (R : Env → DM G.S OD) : TE := tG K G W (gF K) R

abbrev PD (X : Cx) (G : Gh) (W : WX) (e : Expr) (R : Env → DM G.S D) : Prop := PE X e (tE X.K G W R)
abbrev PB (X : Cx) (G : Gh) (W : WX) (e : Expr) (R : Env → DM G.S Bool) : Prop := PT X e (tT X.K G W R)
abbrev PBw (X : Cx) (G : Gh) (W : WX) (e : Expr) (R : Env → DM G.S Bool) : Prop := PW X e (tT X.K G W R)
abbrev PAs (X : Cx) (G : Gh) (W : WX) (es : List Expr) (R : Env → DM G.S (List D)) : Prop := PA X es (tA X.K G W R)
abbrev PL (X : Cx) (G : Gh) (W : WX) (e : Expr) (R : Env → DM G.S (List D)) : Prop := PE X e (tL X.K G W R)
abbrev PF (X : Cx) (G : Gh) (W : WX) (e : Expr) (R : Env → DM G.S OD) : Prop := PE X e (tF X.K G W R)

theorem PE.imp {X : Cx} {e : Expr} {t t' : TE} (p : PE X e t) (h : ∀ σ H Q, t' σ H Q → t σ H Q) : PE X e t' := ⟨fun pins s σ H Q I q => p.run pins s σ H Q I (h σ H Q q)⟩
theorem PT.imp {X : Cx} {e : Expr} {t t' : TT} (p : PT X e t) (h : ∀ σ H Q, t' σ H Q → t σ H Q) : PT X e t' := ⟨fun pins s σ H Q I q => p.run pins s σ H Q I (h σ H Q q)⟩
theorem PW.imp {X : Cx} {e : Expr} {t t' : TT} (p : PW X e t) (h : ∀ σ H Q, t' σ H Q → t σ H Q) : PW X e t' := ⟨fun wh pins s σ H Q I q => p.run wh pins s σ H Q I (h σ H Q q)⟩
theorem PA.imp {X : Cx} {es : List Expr} {t t' : TA} (p : PA X es t) (h : ∀ σ H Q, t' σ H Q → t σ H Q) : PA X es t' := ⟨fun ps pins s σ H Q I q => p.run ps pins s σ H Q I (h σ H Q q)⟩

section
variable {K : Frg} {G : Gh} {W : WX} {H0 F0 H F H' F' : Hp} {env : Env} {σ : L2.St} {s s' : G.S}
/-- nothing but new objects -/
theorem at_all (S : Sim K G H0 F0 env σ H F s) (e : Ext (fun _ => False) H F H' F') : G.At s H' F' := G.loc s H H' (fun p z => by
  have h1 := G.dom s H p S.at_ z
  cases q : H p with
  | none => exact absurd q h1
  | some o => exact e.h p o (fun z => z) q) (fun p φ z => e.h p _ (fun z => z) z) e.f S.at_
theorem Sim.all (S : Sim K G H0 F0 env σ H F s) (e : Ext (fun _ => False) H F H' F') : Sim K G H0 F0 env σ H' F' s := S.step (.of_all e) (at_all S e)
theorem Sim.refl (S : Sim K G H0 F0 env σ H F s) : Ext G.fp H F H F := Ext.refl S.fh
/-- the first part of an expression, then the rest -/
theorem tG_bind {α β γ : Type} {Gd : Hp → Hp → Hp → β → α → Prop} {Ra : Env → DM G.S α} {k : α → DM G.S γ} {o : Oc γ} {Q : β → Hp → Prop} (S : Sim K G H0 F0 env σ H F s) (h : DM.bind (Ra env) k s o s') (xc : XC K G W σ H F s' o)
    (hk : ∀ a b H1 F1 s1, Sim K G H0 F0 env σ H1 F1 s1 → Ext G.fp H F H1 F1 → Gd H H1 F1 b a → k a s1 o s' → XC K G W σ H1 F1 s' o → Q b H1) : tG K G W Gd Ra σ H Q := by
  rcases h with ⟨a, s1, h1, h2⟩ | ⟨C, ns, ds, h1, h2⟩
  · refine ⟨H0, F0, F, env, s, .ok a, s1, S, h1, fun a' e b H1 F1 x at_ g => ?_, .ok⟩
    cases e
    exact hk a b H1 F1 s1 (S.step x at_) x g h2 (xc.ext x)
  · subst h2
    exact ⟨H0, F0, F, env, s, .ex C ns ds, s', S, h1, fun a' e => by (cases e), xc.tr⟩
end

section
variable {X : Cx} {G : Gh} {W : WX} {a b c : Expr} {Ra Rb Rc : Env → DM G.S D} {pos : Pos}

/-! ### names, constants -/
def eVar {S : Type} (i : Nat) : Env → DM S D := fun env s o s' => s' = s ∧ ∃ d, env[i]? = some (.fz d) ∧ o = .ok d
def eC {S : Type} (d : D) : Env → DM S D := fun _ => DM.ret d
theorem pd_of_var {e : Expr} {i : Nat} (h : PE X e (tVar i)) : PD X G W e (eVar i) := PE.imp h fun σ H Q ⟨H0, F0, F, env, s, o, s', S, ⟨e1, d, e2, e3⟩, k, _⟩ => by
  subst e1
  obtain ⟨L, r⟩ := S.sl
  obtain ⟨v, hv, rv⟩ := r.get_fz e2
  exact ⟨v, hv, k d e3 v H F S.refl S.at_ rv⟩
theorem pd_var (i : Nat) {x : Str} {pos : Pos} (hN : X.N[i]? = some x := by rfl) (hv : Vis X.env.scope x := by first | exact Or.inl rfl | exact Or.inr (Or.inl rfl) | exact Or.inr (Or.inr rfl)) (hd : (x == ("__debug__" : Str)) = false := by decide)
    (hcd : (x == ("__classdict__" : Str)) = false := by decide) : PD X G W (.Name x pos) (eVar i) := pd_of_var (pe_var hN hv hd hcd)
/-- a constant, whose value is told without the heap -/
theorem pd_const {e : Expr} {v : V} {d : D} (h : PE X e (tC v)) (r : ∀ F, Rep X.K F v d) : PD X G W e (eC d) := PE.imp h fun σ H Q ⟨H0, F0, F, env, s, o, s', S, ⟨e1, e2⟩, k, _⟩ => by
  subst e2
  exact k d e1 v H F S.refl S.at_ (r F)
theorem pd_int {i j pos} : PD X G W (.Constant (.int i) j pos) (eC (.int i)) := pd_const pe_int fun _ => .int i
theorem pd_bl {b j pos} : PD X G W (.Constant (.bool b) j pos) (eC (.bl b)) := pd_const pe_bl fun _ => .bl b
theorem pd_non {j pos} : PD X G W (.Constant .none j pos) (eC .non) := pd_const pe_non fun _ => .non
theorem pd_str {x j pos} : PD X G W (.Constant (.str x) j pos) (eC (.str x)) := pd_const pe_str fun _ => .str x
/-- a number that is a constant of the module -/
theorem pd_globI {x : Str} {i : Int} (hg : Gl X x) (hm : ∃ t, X.mg x = some (.int i t)) (hd : (x == ("__debug__" : Str)) = false := by decide) : PD X G W (.Name x pos) (eC (.int i)) :=
  let ⟨t, e⟩ := hm
  pd_const (pe_glob (v := .int i) hg e ⟨t, rfl⟩ hd) fun _ => .int i
theorem pd_globS {x : Str} {z : Str} (hg : Gl X x) (hm : ∃ t, X.mg x = some (.str z t)) (hd : (x == ("__debug__" : Str)) = false := by decide) : PD X G W (.Name x pos) (eC (.str z)) :=
  let ⟨t, e⟩ := hm
  pd_const (pe_glob (v := .str z) hg e ⟨t, rfl⟩ hd) fun _ => .str z
/-- a builtin class as a value -/
theorem pd_bty {x : Str} {n : String} (hg : Gl X x) (hm : X.mg x = none) (hv : bootBuiltins x = some (.type n)) (hn : x ≠ "__name__" := by decide) (hd : (x == ("__debug__" : Str)) = false := by decide) : PD X G W (.Name x pos) (eC (.ty n)) :=
  pd_const (pe_bltn (v := .ty n) hg hm hv rfl hn hd) fun _ => .ty n

/-! ### operators by their rules on data -/
/-- an operator's rule r gives g on data -/
def OpD (K : Frg) (r : R2) (g : D → D → Option D) : Prop := ∀ (H F : Hp) (v w : V) (d e x : D) (Q : VK), Same F H → Rep K F v d → Rep K F w e → g d e = some x →
  (∀ v' H' F', Ext (fun _ => False) H F H' F' → Rep K F' v' x → Q v' H') → r v w H Q
def eBin {S : Type} (g : D → D → Option D) (Ra Rb : Env → DM S D) : Env → DM S D := fun env => (Ra env).bind fun x => (Rb env).bind fun y => .lift (g x y)
/-- what two parts give, by an operator's rule -/
theorem op_use {r : R2} {g : D → D → Option D} (hd : OpD X.K r g) (σ : L2.St) (H : Hp) (Q : VK) (h : tE X.K G W (eBin g Ra Rb) σ H Q) : tOp r (tE X.K G W Ra) (tE X.K G W Rb) σ H Q := by
  obtain ⟨H0, F0, F, env, s, o, s', S, h, k, xc⟩ := h
  refine tG_bind S h xc fun x v H1 F1 s1 S1 e1 g1 h1 xc1 => ?_
  refine tG_bind S1 h1 xc1 fun y w H2 F2 s2 S2 e2 g2 h2 xc2 => ?_
  obtain ⟨rfl, z, hz, rfl⟩ := h2
  refine hd H2 F2 v w x y z Q S2.fh (Rep.mono e2.f g1) g2 hz fun v' H' F' e' r' => ?_
  exact k z rfl v' H' F' (e1.trans (e2.trans (.of_all e'))) (at_all S2 e') r'
theorem pd_bin {op : Operator} {r : R2} {g : D → D → Option D} (ho : OpR X (binaryOp op) r) (hd : OpD X.K r g) (ha : PD X G W a Ra) (hb : PD X G W b Rb) : PD X G W (.BinOp a op b pos) (eBin g Ra Rb) :=
  PE.imp (pe_op ho ha hb) (op_use hd)
theorem pd_cmp {op : CmpOp} {r : R2} {g : D → D → Option D} (ho : OpR X (compareOp op) r) (hd : OpD X.K r g) (ha : PD X G W a Ra) (hb : PD X G W b Rb) (hm : behindInMarks op b = false) : PD X G W (.Compare a [op] [b] pos) (eBin g Ra Rb) :=
  PE.imp (pe_cmpR ho ha hb hm) (op_use hd)
/-- a value that is a bool, as a test -/
def tB1 {S : Type} (R : Env → DM S D) : Env → DM S Bool := fun env => (R env).bind fun d => fun s o s' => s' = s ∧ ∃ c, d = .bl c ∧ o = .ok c
theorem tB_use {R : Env → DM G.S D} (σ : L2.St) (H : Hp) (Q : Bool → Hp → Prop) (h : tT X.K G W (tB1 R) σ H Q) : tB (tE X.K G W R) σ H Q := by
  obtain ⟨H0, F0, F, env, s, o, s', S, h, k, xc⟩ := h
  refine tG_bind S h xc fun x v H1 F1 s1 S1 e1 g1 h1 xc1 => ?_
  obtain ⟨rfl, c, rfl, rfl⟩ := h1
  cases g1
  exact ⟨c, rfl, k c rfl c H1 F1 e1 S1.at_ rfl⟩
theorem pb_val {e : Expr} {R : Env → DM G.S D} (h : PD X G W e R) (he : ∀ whole, isTrue e X.env whole = (do let v ← whole; standAt e.pos; holding [v] (truthy v)) := by intro _; rfl) : PB X G W e (tB1 R) :=
  PT.imp (pt_val h he) tB_use
/-- a comparison as a test -/
theorem pb_cmp {op : CmpOp} {r : R2} {g : D → D → Option D} (ho : OpR X (compareOp op) r) (hd : OpD X.K r g) (ha : PD X G W a Ra) (hb : PD X G W b Rb) (hm : behindInMarks op b = false) : PB X G W (.Compare a [op] [b] pos) (tB1 (eBin g Ra Rb)) :=
  PT.imp (pt_cmpR ho ha hb hm) fun σ H Q h => by
    have z := tB_use (X := X) σ H Q h
    exact op_use hd σ H _ z
/-- a < b < c -/
def eChain {S : Type} (g g' : D → D → Option D) (Ra Rb Rc : Env → DM S D) : Env → DM S D := fun env => (Ra env).bind fun x => (Rb env).bind fun y => fun s o s' =>
  (g x y = some (.bl false) ∧ o = .ok (.bl false) ∧ s' = s) ∨ (g x y = some (.bl true) ∧ (Rc env).bind (fun z => .lift (g' y z)) s o s')
/-- rules of comparisons that make nothing -/
def OpB (K : Frg) (r : R2) (g : D → D → Option D) : Prop := ∀ (H F : Hp) (v w : V) (d e : D) (k : Bool) (Q : VK), Same F H → Rep K F v d → Rep K F w e → g d e = some (.bl k) → Q (.bl k) H → r v w H Q
theorem chain_use {r r' : R2} {g g' : D → D → Option D} (hd : OpB X.K r g) (hd' : OpD X.K r' g') (σ : L2.St) (H : Hp) (Q : VK) (h : tE X.K G W (eChain g g' Ra Rb Rc) σ H Q) :
    tChain r r' (tE X.K G W Ra) (tE X.K G W Rb) (tE X.K G W Rc) σ H Q := by
  obtain ⟨H0, F0, F, env, s, o, s', S, h, k, xc⟩ := h
  refine tG_bind S h xc fun x v H1 F1 s1 S1 e1 g1 h1 xc1 => ?_
  refine tG_bind S1 h1 xc1 fun y w H2 F2 s2 S2 e2 g2 h2 xc2 => ?_
  rcases h2 with ⟨q, rfl, rfl⟩ | ⟨q, h2⟩
  · refine hd H2 F2 v w x y _ _ S2.fh (Rep.mono e2.f g1) g2 q ⟨_, rfl, ?_⟩
    rw [if_neg Bool.false_ne_true]
    exact k _ rfl _ H2 F2 (e1.trans e2) S2.at_ (.bl _)
  · refine hd H2 F2 v w x y _ _ S2.fh (Rep.mono e2.f g1) g2 q ⟨_, rfl, ?_⟩
    rw [if_pos rfl]
    refine tG_bind S2 h2 xc2 fun z u H3 F3 s3 S3 e3 g3 h3 xc3 => ?_
    obtain ⟨rfl, t, ht, rfl⟩ := h3
    refine hd' H3 F3 w u y z t Q S3.fh (Rep.mono e3.f g2) g3 ht fun v' H' F' e' r' => ?_
    exact k t rfl v' H' F' ((e1.trans e2).trans (e3.trans (.of_all e'))) (at_all S3 e') r'
end
end Pl
/-! The pure layer, part 2: operators, comparisons, subscripts on data. -/
namespace Pl
open PySem PySem.Spec PyProof.Rows L2

/-! ### numbers -/
def onI (C : Int → Int → Bool) (f : Int → Int → D) : D → D → Option D
  | .int i, .int j => if C i j = true then some (f i j) else none
  | _, _ => none
theorem onI_inv {C : Int → Int → Bool} {f : Int → Int → D} {d e x : D} (h : onI C f d e = some x) : ∃ i j, d = .int i ∧ e = .int j ∧ C i j = true ∧ x = f i j := by
  unfold onI at h
  split at h
  · split at h
    · rename_i c
      exact ⟨_, _, rfl, rfl, c, (Option.some.inj h).symm⟩
    · cases h
  · cases h
theorem opd_I {K : Frg} {P : Int → Int → Prop} {C : Int → Int → Bool} {f : Int → Int → Int} (hc : ∀ i j, C i j = true → P i j) : OpD K (rI P fun i j => .int (f i j)) (onI C fun i j => .int (f i j)) := by
  intro H F v w d e x Q sm rv rw_ h k
  obtain ⟨i, j, rfl, rfl, c, rfl⟩ := onI_inv h
  cases rv; cases rw_
  exact ⟨i, j, rfl, rfl, hc i j c, k _ H F (Ext.refl sm) (.int _)⟩
theorem opd_I0 {K : Frg} {f : Int → Int → Int} : OpD K (rI0 fun i j => .int (f i j)) (onI (fun _ _ => true) fun i j => .int (f i j)) := by
  intro H F v w d e x Q sm rv rw_ h k
  obtain ⟨i, j, rfl, rfl, c, rfl⟩ := onI_inv h
  cases rv; cases rw_
  exact ⟨i, j, rfl, rfl, k _ H F (Ext.refl sm) (.int _)⟩
theorem opd_B0 {K : Frg} {f : Int → Int → Bool} : OpD K (rI0 fun i j => .bl (f i j)) (onI (fun _ _ => true) fun i j => .bl (f i j)) := by
  intro H F v w d e x Q sm rv rw_ h k
  obtain ⟨i, j, rfl, rfl, c, rfl⟩ := onI_inv h
  cases rv; cases rw_
  exact ⟨i, j, rfl, rfl, k _ H F (Ext.refl sm) (.bl _)⟩
theorem opb_B0 {K : Frg} {f : Int → Int → Bool} : OpB K (rI0 fun i j => .bl (f i j)) (onI (fun _ _ => true) fun i j => .bl (f i j)) := by
  intro H F v w d e x Q sm rv rw_ h k
  obtain ⟨i, j, rfl, rfl, c, hx⟩ := onI_inv h
  cases rv; cases rw_
  cases hx
  exact ⟨i, j, rfl, rfl, k⟩
theorem OpD.or {K : Frg} {r r' : R2} {g g' : D → D → Option D} (h : OpD K r g) (h' : OpD K r' g') : OpD K (fun x y H Q => r x y H Q ∨ r' x y H Q) (fun x y => (g x y).or (g' x y)) := by
  intro H F v w d e x Q sm rv rw_ hx k
  cases q : g d e with
  | some z =>
    have hx' : (g d e).or (g' d e) = some x := hx
    rw [q] at hx'
    cases hx'
    exact .inl (h H F v w d e _ Q sm rv rw_ q k)
  | none =>
    have hx' : (g d e).or (g' d e) = some x := hx
    rw [q] at hx'
    exact .inr (h' H F v w d e x Q sm rv rw_ hx' k)

abbrev dSub := onI (fun _ _ => true) fun i j => .int (i - j)
abbrev mulC : Int → Int → Bool := fun i j => decide (-(2 ^ 64) < i ∧ i < 2 ^ 64) || decide (-(2 ^ 64) < j ∧ j < 2 ^ 64)
abbrev dMulI := onI mulC fun i j => .int (i * j)
abbrev dMod := onI (fun _ j => decide (0 < j)) fun i j => .int (i % j)
abbrev dFdiv := onI (fun _ j => decide (0 < j ∧ j < 1073741824)) fun i j => .int (i / j)
abbrev dPow := onI (fun i j => decide (0 ≤ j ∧ j ≤ 1000000 ∧ i.natAbs < 2 ^ 64)) fun i j => .int (i ^ j.toNat)
abbrev dShl := onI (fun i j => decide (0 ≤ j ∧ j ≤ 1000000 ∧ i.natAbs < 2 ^ 64)) fun i j => .int (i * 2 ^ j.toNat)
abbrev dShr := onI (fun _ j => decide (0 ≤ j)) fun i j => .int (i / 2 ^ j.toNat)
abbrev dAnd := onI (fun _ _ => true) fun i j => .int (Builtin.bitAnd i j)
abbrev dOr := onI (fun _ _ => true) fun i j => .int (Builtin.bitOr i j)
abbrev dXor := onI (fun _ _ => true) fun i j => .int (Builtin.bitXor i j)
abbrev dLt := onI (fun _ _ => true) fun i j => .bl (decide (i < j))
abbrev dLe := onI (fun _ _ => true) fun i j => .bl (decide (i ≤ j))
abbrev dGt := onI (fun _ _ => true) fun i j => .bl (decide (j < i))
abbrev dGe := onI (fun _ _ => true) fun i j => .bl (decide (j ≤ i))

/-! ### + of any kind -/
def catD : D → D → Option D
  | .str x, .str y => if x.length + y.length ≤ sizeLine then some (.str (x ++ y)) else none
  | .lst a, .lst b => if a.length + b.length ≤ sizeLine then some (.lst (a ++ b)) else none
  | .tup a, .tup b => if a.length + b.length ≤ sizeLine then some (.tup (a ++ b)) else none
  | _, _ => none
abbrev dAdd : D → D → Option D := fun x y => ((onI (fun _ _ => true) fun i j => .int (i + j)) x y).or (catD x y)
theorem opd_cat {K : Frg} : OpD K (fun x y H Q => (∃ i j, x = .str i ∧ y = .str j ∧ i.length + j.length ≤ sizeLine ∧ Q (.str (i ++ j)) H) ∨ rCat x y H Q ∨ rCatA K x y H Q) catD := by
  intro H F v w d e x Q sm rv rw_ h k
  unfold catD at h
  split at h
  · split at h
    · rename_i c
      cases h; cases rv; cases rw_
      exact .inl ⟨_, _, rfl, rfl, c, k _ H F (Ext.refl sm) (.str _)⟩
    · cases h
  · split at h
    · rename_i c
      cases h
      cases rv with
      | lst h1 r1 =>
        cases rw_ with
        | lst h2 r2 =>
          refine .inr (.inl ⟨_, _, _, _, rfl, rfl, sm _ _ h1, sm _ _ h2, by rw [r1.len, r2.len]; exact c, fun p np => ?_⟩)
          have E := fun o => (Ext.new (fp := fun _ => False) o sm np)
          exact k _ _ _ (E _) (.lst upd_same ((r1.mono (E _).f).app (r2.mono (E _).f)))
    · cases h
  · split at h
    · rename_i c
      cases h
      cases rv with
      | tup h1 r1 =>
        cases rw_ with
        | tup h2 r2 =>
          refine .inr (.inr ⟨_, _, _, _, rfl, rfl, SqT.of (sm _ _ h1), SqT.of (sm _ _ h2), by rw [r1.len, r2.len]; exact c, fun z => ?_, fun _ z => ?_, fun _ _ p np => ?_⟩)
          · subst z
            cases r1
            exact k _ H F (Ext.refl sm) (.tup h2 r2)
          · subst z
            cases r2
            rw [List.append_nil] at *
            exact k _ H F (Ext.refl sm) (.tup h1 r1)
          · have E := fun o => (Ext.new (fp := fun _ => False) o sm np)
            exact k _ _ _ (E _) (.tup upd_same ((r1.mono (E _).f).app (r2.mono (E _).f)))
    · cases h
  · cases h
section
variable {X : Cx} {G : Gh} {W : WX} {a b c : Expr} {Ra Rb Rc : Env → DM G.S D} {pos : Pos}
theorem pd_add (ha : PD X G W a Ra) (hb : PD X G W b Rb) : PD X G W (.BinOp a .Add b pos) (eBin dAdd Ra Rb) := pd_bin (op_add.or (op_add_str.or (op_cat.or op_catA))) (opd_I0.or opd_cat) ha hb
theorem pd_sub (ha : PD X G W a Ra) (hb : PD X G W b Rb) : PD X G W (.BinOp a .Sub b pos) (eBin dSub Ra Rb) := pd_bin op_sub opd_I0 ha hb
theorem pd_mul (ha : PD X G W a Ra) (hb : PD X G W b Rb) : PD X G W (.BinOp a .Mult b pos) (eBin dMulI Ra Rb) := pd_bin op_mul (opd_I fun i j h => by simpa [CMul] using h) ha hb
theorem pd_mod (ha : PD X G W a Ra) (hb : PD X G W b Rb) : PD X G W (.BinOp a .Mod b pos) (eBin dMod Ra Rb) := pd_bin op_mod (opd_I fun i j h => of_decide_eq_true h) ha hb
theorem pd_fdiv (ha : PD X G W a Ra) (hb : PD X G W b Rb) : PD X G W (.BinOp a .FloorDiv b pos) (eBin dFdiv Ra Rb) := pd_bin op_fdiv (opd_I fun i j h => of_decide_eq_true (p := 0 < j ∧ j < 1073741824) h) ha hb
theorem pd_pow (ha : PD X G W a Ra) (hb : PD X G W b Rb) : PD X G W (.BinOp a .Pow b pos) (eBin dPow Ra Rb) := pd_bin op_pow (opd_I fun i j h => of_decide_eq_true (p := 0 ≤ j ∧ j ≤ 1000000 ∧ i.natAbs < 2 ^ 64) h) ha hb
theorem pd_shl (ha : PD X G W a Ra) (hb : PD X G W b Rb) : PD X G W (.BinOp a .LShift b pos) (eBin dShl Ra Rb) := pd_bin op_shl (opd_I fun i j h => of_decide_eq_true (p := 0 ≤ j ∧ j ≤ 1000000 ∧ i.natAbs < 2 ^ 64) h) ha hb
theorem pd_shr (ha : PD X G W a Ra) (hb : PD X G W b Rb) : PD X G W (.BinOp a .RShift b pos) (eBin dShr Ra Rb) := pd_bin op_shr (opd_I fun i j h => of_decide_eq_true h) ha hb
theorem pd_bitand (ha : PD X G W a Ra) (hb : PD X G W b Rb) : PD X G W (.BinOp a .BitAnd b pos) (eBin dAnd Ra Rb) := pd_bin op_and opd_I0 ha hb
theorem pd_bitor (ha : PD X G W a Ra) (hb : PD X G W b Rb) : PD X G W (.BinOp a .BitOr b pos) (eBin dOr Ra Rb) := pd_bin op_or opd_I0 ha hb
theorem pd_bitxor (ha : PD X G W a Ra) (hb : PD X G W b Rb) : PD X G W (.BinOp a .BitXor b pos) (eBin dXor Ra Rb) := pd_bin op_xor opd_I0 ha hb
theorem pd_lt (ha : PD X G W a Ra) (hb : PD X G W b Rb) : PD X G W (.Compare a [.Lt] [b] pos) (eBin dLt Ra Rb) := pd_cmp op_lt opd_B0 ha hb (nomark _)
theorem pd_le (ha : PD X G W a Ra) (hb : PD X G W b Rb) : PD X G W (.Compare a [.LtE] [b] pos) (eBin dLe Ra Rb) := pd_cmp op_le opd_B0 ha hb (nomark _)
theorem pd_gt (ha : PD X G W a Ra) (hb : PD X G W b Rb) : PD X G W (.Compare a [.Gt] [b] pos) (eBin dGt Ra Rb) := pd_cmp op_gt opd_B0 ha hb (nomark _)
theorem pd_ge (ha : PD X G W a Ra) (hb : PD X G W b Rb) : PD X G W (.Compare a [.GtE] [b] pos) (eBin dGe Ra Rb) := pd_cmp op_ge opd_B0 ha hb (nomark _)
theorem pd_lele (ha : PD X G W a Ra) (hb : PD X G W b Rb) (hc : PD X G W c Rc) (hm : lastMarks [.LtE, .LtE] [b, c] = false := by rfl) : PD X G W (.Compare a [.LtE, .LtE] [b, c] pos) (eChain dLe dLe Ra Rb Rc) := PE.imp (pe_chain op_le op_le ha hb hc (hm := hm)) (chain_use opb_B0 opd_B0)
theorem pd_lelt (ha : PD X G W a Ra) (hb : PD X G W b Rb) (hc : PD X G W c Rc) (hm : lastMarks [.LtE, .Lt] [b, c] = false := by rfl) : PD X G W (.Compare a [.LtE, .Lt] [b, c] pos) (eChain dLe dLt Ra Rb Rc) := PE.imp (pe_chain op_le op_lt ha hb hc (hm := hm)) (chain_use opb_B0 opd_B0)
theorem pd_ltlt (ha : PD X G W a Ra) (hb : PD X G W b Rb) (hc : PD X G W c Rc) (hm : lastMarks [.Lt, .Lt] [b, c] = false := by rfl) : PD X G W (.Compare a [.Lt, .Lt] [b, c] pos) (eChain dLt dLt Ra Rb Rc) := PE.imp (pe_chain op_lt op_lt ha hb hc (hm := hm)) (chain_use opb_B0 opd_B0)
theorem pd_ltle (ha : PD X G W a Ra) (hb : PD X G W b Rb) (hc : PD X G W c Rc) (hm : lastMarks [.Lt, .LtE] [b, c] = false := by rfl) : PD X G W (.Compare a [.Lt, .LtE] [b, c] pos) (eChain dLt dLe Ra Rb Rc) := PE.imp (pe_chain op_lt op_le ha hb hc (hm := hm)) (chain_use opb_B0 opd_B0)
end

/-! ### == -/
mutual
def toPy : D → PyData
  | .non => .none
  | .bl b => .bool b
  | .int i => .int i
  | .str x => .str x
  | .tup ds => .tuple (toPys ds)
  | .lst ds => .list (toPys ds)
  | .frl ds => .list (toPys ds)
  | .ty _ | .fn _ | .dic _ _ | .dit _ _ | .ins _ _ _ => .dict []
def toPys : List D → List PyData
  | [] => []
  | d :: ds => toPy d :: toPys ds
end
mutual
theorem Rep.py {K : Frg} {F : Hp} : ∀ {v : V} {d : D}, Rep K F v d → (toPy d).canLay0 = true → Dp K F v (toPy d)
  | _, _, .non, _ => .non
  | _, _, .bl b, _ => .bl b
  | _, _, .int i, _ => .int i
  | _, _, .str x, _ => .str x
  | _, _, .ty n, h => by simp [toPy, PyData.canLay0] at h
  | _, _, .fn n, h => by simp [toPy, PyData.canLay0] at h
  | _, _, .dic _ _, h => by simp [toPy, PyData.canLay0] at h
  | _, _, .dit _ _, h => by simp [toPy, PyData.canLay0] at h
  | _, _, .ins _ _, h => by simp [toPy, PyData.canLay0] at h
  | _, _, .tup e r, h => .tup (SqT.of e) (Reps.py r (by simpa [toPy, PyData.canLay0] using h))
  | _, _, .lst e r, h => .lst (SqL.of e) (Reps.py r (by simpa [toPy, PyData.canLay0] using h))
  | _, _, .frl e r, h => .lst e (Reps.py r (by simpa [toPy, PyData.canLay0] using h))
theorem Reps.py {K : Frg} {F : Hp} : ∀ {vs : List V} {ds : List D}, Reps K F vs ds → PyData.canLayAll0 (toPys ds) = true → DpAll K F vs (toPys ds)
  | _, _, .nil, _ => .nil
  | _, _, .cons q r, h => by
    have h' := Bool.and_eq_true_iff.mp (show ((toPy _).canLay0 && PyData.canLayAll0 (toPys _)) = true from by simpa [toPys, PyData.canLayAll0] using h)
    exact .cons (Rep.py q h'.1) (Reps.py r h'.2)
end
/-- data that can be compared -/
def Pln (d : D) : Prop := SeqAt.shaped (toPy d) = true
instance (d : D) : Decidable (Pln d) := inferInstanceAs (Decidable (_ = _))
def deq (x y : D) : Bool := PyData.eqv (toPy x) (toPy y)
def dEq : D → D → Option D := fun x y => if Pln x ∧ Pln y then some (.bl (deq x y)) else none
def dNe : D → D → Option D := fun x y => if Pln x ∧ Pln y then some (.bl (!deq x y)) else none
theorem opd_eq {K : Frg} : OpD K (rEqD K) dEq := by
  intro H F v w d e x Q sm rv rw_ h k
  unfold dEq at h
  split at h
  · rename_i c
    cases h
    exact ⟨_, _, (rv.mono sm).py (SeqAt.canLay_of_shaped c.1), (rw_.mono sm).py (SeqAt.canLay_of_shaped c.2), c.1, c.2, k _ H F (Ext.refl sm) (.bl _)⟩
  · cases h
theorem opd_ne {K : Frg} : OpD K (rNeD K) dNe := by
  intro H F v w d e x Q sm rv rw_ h k
  unfold dNe at h
  split at h
  · rename_i c
    cases h
    exact ⟨_, _, (rv.mono sm).py (SeqAt.canLay_of_shaped c.1), (rw_.mono sm).py (SeqAt.canLay_of_shaped c.2), c.1, c.2, k _ H F (Ext.refl sm) (.bl _)⟩
  · cases h
/-! ### is None, in -/
def isNonD : D → Bool
  | .non => true
  | _ => false
theorem Rep.isN {K : Frg} {F : Hp} {v : V} {d : D} (r : Rep K F v d) : decide (v = .non) = isNonD d := by
  cases r <;> rfl
def dIsN : D → D → Option D
  | x, .non => some (.bl (isNonD x))
  | _, _ => none
def dNotN : D → D → Option D
  | x, .non => some (.bl (!isNonD x))
  | _, _ => none
theorem opd_isN {K : Frg} : OpD K (fun x y H Q => y = .non ∧ Q (.bl (decide (x = .non))) H) dIsN := by
  intro H F v w d e x Q sm rv rw_ h k
  unfold dIsN at h
  split at h
  · cases h; cases rw_
    exact ⟨rfl, by rw [rv.isN]; exact k _ H F (Ext.refl sm) (.bl _)⟩
  · cases h
theorem opd_notN {K : Frg} : OpD K (fun x y H Q => y = .non ∧ Q (.bl (!decide (x = .non))) H) dNotN := by
  intro H F v w d e x Q sm rv rw_ h k
  unfold dNotN at h
  split at h
  · cases h; cases rw_
    exact ⟨rfl, by rw [rv.isN]; exact k _ H F (Ext.refl sm) (.bl _)⟩
  · cases h
def flatD : D → Bool
  | .non | .bl _ | .int _ | .str _ => true
  | _ => false
def eqD : D → D → Bool
  | .non, .non => true
  | .bl a, .bl b => a == b
  | .bl a, .int b => (if a then 1 else 0) == b
  | .int a, .bl b => a == (if b then 1 else 0)
  | .int a, .int b => a == b
  | .str a, .str b => a == b
  | _, _ => false
theorem Rep.flat {K : Frg} {F : Hp} {v : V} {d : D} (r : Rep K F v d) (h : flatD d = true) : flatV v = true := by
  cases r <;> first | rfl | (simp [flatD] at h; done)
theorem Rep.eqV {K : Frg} {F : Hp} {v w : V} {d e : D} (r : Rep K F v d) (q : Rep K F w e) (hd : flatD d = true) (he : flatD e = true) : L2.eqV v w = eqD d e := by
  cases r <;> first | (simp [flatD] at hd; done) | (cases q <;> first | (simp [flatD] at he; done) | rfl)
theorem Reps.flat {K : Frg} {F : Hp} : ∀ {vs : List V} {ds : List D}, Reps K F vs ds → ds.all flatD = true → vs.all flatV = true
  | _, _, .nil, _ => rfl
  | _, _, .cons q r, h => by
    rw [List.all_cons, Bool.and_eq_true] at h ⊢
    exact ⟨q.flat h.1, Reps.flat r h.2⟩
theorem Reps.inV {K : Frg} {F : Hp} {v : V} {d : D} (q : Rep K F v d) (hd : flatD d = true) : ∀ {vs : List V} {ds : List D}, Reps K F vs ds → ds.all flatD = true → L2.inV v vs = ds.any fun y => eqD y d
  | _, _, .nil, _ => rfl
  | _, _, .cons p r, h => by
    rw [List.all_cons, Bool.and_eq_true] at h
    show (L2.eqV _ v || L2.inV v _) = _
    rw [p.eqV q h.1 hd, Reps.inV q hd r h.2, List.any_cons]
def itemsD : D → Option (List D)
  | .lst ds | .tup ds | .frl ds => some ds
  | _ => none
theorem Rep.items {K : Frg} {F : Hp} {v : V} {d : D} {ds : List D} (r : Rep K F v d) (h : itemsD d = some ds) : ∃ a vs, v = .ref a ∧ (SqL K F a vs ∨ SqT K F a vs) ∧ Reps K F vs ds := by
  cases r with
  | tup e r => cases h; exact ⟨_, _, rfl, .inr (SqT.of e), r⟩
  | lst e r => cases h; exact ⟨_, _, rfl, .inl (SqL.of e), r⟩
  | frl e r => cases h; exact ⟨_, _, rfl, .inl e, r⟩
  | _ => cases h
def dIn (neg : Bool) : D → D → Option D := fun x y => match itemsD y with
  | some ds => if flatD x = true ∧ ds.all flatD = true then some (.bl (if neg then !ds.any (fun z => eqD z x) else ds.any fun z => eqD z x)) else none
  | none => none
theorem opd_in {K : Frg} {neg : Bool} : OpD K (rIn K neg) (dIn neg) := by
  intro H F v w d e x Q sm rv rw_ h k
  unfold dIn at h
  cases q : itemsD e with
  | none => rw [q] at h; cases h
  | some ds =>
    rw [q] at h
    simp only at h
    split at h
    · rename_i c
      cases h
      obtain ⟨a, vs, rfl, hs, r⟩ := rw_.items q
      refine ⟨a, vs, rfl, hs.elim (fun z => .inl (sm.seq z)) (fun z => .inr (same_tup sm z)), rv.flat c.1, r.flat c.2, ?_⟩
      rw [Reps.inV rv c.1 r c.2]
      exact k _ H F (Ext.refl sm) (.bl _)
    · cases h
section
variable {X : Cx} {G : Gh} {W : WX} {a b c : Expr} {Ra Rb Rc : Env → DM G.S D} {pos : Pos}
theorem pd_eq (hu : X.A.units + 64 < cLine) (ha : PD X G W a Ra) (hb : PD X G W b Rb) : PD X G W (.Compare a [.Eq] [b] pos) (eBin dEq Ra Rb) := pd_cmp (op_eqD hu) opd_eq ha hb (nomark _)
theorem pd_ne (hu : X.A.units + 64 < cLine) (ha : PD X G W a Ra) (hb : PD X G W b Rb) : PD X G W (.Compare a [.NotEq] [b] pos) (eBin dNe Ra Rb) := pd_cmp (op_neD hu) opd_ne ha hb (nomark _)
theorem pd_isN (ha : PD X G W a Ra) (hb : PD X G W b Rb) : PD X G W (.Compare a [.Is] [b] pos) (eBin dIsN Ra Rb) := pd_cmp op_isN opd_isN ha hb (nomark _)
theorem pd_notN (ha : PD X G W a Ra) (hb : PD X G W b Rb) : PD X G W (.Compare a [.IsNot] [b] pos) (eBin dNotN Ra Rb) := pd_cmp op_notN opd_notN ha hb (nomark _)
theorem pd_in (ha : PD X G W a Ra) (hb : PD X G W b Rb) (hm : behindInMarks .In b = false) : PD X G W (.Compare a [.In] [b] pos) (eBin (dIn false) Ra Rb) := pd_cmp op_in_seq opd_in ha hb hm
theorem pd_notIn (ha : PD X G W a Ra) (hb : PD X G W b Rb) (hm : behindInMarks .NotIn b = false) : PD X G W (.Compare a [.NotIn] [b] pos) (eBin (dIn true) Ra Rb) := pd_cmp op_notIn_seq opd_in ha hb hm
end

/-! ### subscripts, slices -/
def dIx : D → D → Option D
  | .str z, .int i => if z.length ≤ sizeLine then (atI z.cps.toList i).map fun c => .str ⟨#[c]⟩ else none
  | x, .int i => (itemsD x).bind fun ds => atI ds i
  | _, _ => none
theorem Reps.atI {K : Frg} {F : Hp} {vs : List V} {ds : List D} {i : Int} {d : D} (r : Reps K F vs ds) (h : L2.atI ds i = some d) : ∃ v, L2.atI vs i = some v ∧ Rep K F v d := by
  unfold L2.atI at h ⊢
  rw [r.len]
  cases q : ixN ds.length i with
  | none => rw [q] at h; cases h
  | some j =>
    rw [q] at h
    exact r.get h
theorem opd_ix {K : Frg} : OpD K (rIx K) dIx := by
  intro H F v w d e x Q sm rv rw_ h k
  unfold dIx at h
  split at h
  · split at h
    · rename_i z i c
      cases rw_; cases rv
      cases q : L2.atI z.cps.toList i with
      | none => rw [q] at h; cases h
      | some cc =>
        rw [q] at h
        cases h
        exact .inr (.inr ⟨z, i, cc, rfl, rfl, c, q, k _ H F (Ext.refl sm) (.str _)⟩)
    · cases h
  · rename_i i _
    cases rw_
    cases q : itemsD d with
    | none => rw [q] at h; cases h
    | some ds =>
      rw [q] at h
      obtain ⟨a, vs, rfl, hs, r⟩ := rv.items q
      obtain ⟨y, hy, ry⟩ := r.atI h
      rcases hs with hs | hs
      · exact .inl ⟨a, vs, i, y, rfl, rfl, sm.seq hs, hy, k _ H F (Ext.refl sm) ry⟩
      · exact .inr (.inl ⟨a, vs, i, y, rfl, rfl, same_tup sm hs, hy, k _ H F (Ext.refl sm) ry⟩)
  · cases h
section
variable {X : Cx} {G : Gh} {W : WX} {a b c : Expr} {Ra Rb Rc : Env → DM G.S D} {pos : Pos}
theorem pd_ix (ha : PD X G W a Ra) (hb : PD X G W b Rb) (hs : PlainIx b := by exact fun _ _ => rfl) : PD X G W (.Subscript a b pos) (eBin dIx Ra Rb) := PE.imp (pe_ix ix_seq ha hb hs) (op_use opd_ix)
end

/-- the parts of a slice -/
abbrev ROp (S : Type) := Env → DM S (Option Int)
def gO : Hp → Hp → Hp → Option Int → Option Int → Prop := fun _ _ _ a b => a = b
abbrev PDo (X : Cx) (G : Gh) (W : WX) (o : Option Expr) (R : ROp G.S) : Prop := PO X o (tG X.K G W gO R)
theorem PO.imp {X : Cx} {o : Option Expr} {t t' : TO} (p : PO X o t) (h : ∀ σ H Q, t' σ H Q → t σ H Q) : PO X o t' := ⟨fun pins s σ H Q I q => p.run pins s σ H Q I (h σ H Q q)⟩
def oNo {S : Type} : ROp S := fun _ => .ret none
def oSome {S : Type} (R : Env → DM S D) : ROp S := fun env => (R env).bind fun d => fun s o s' => s' = s ∧ ∃ i, d = .int i ∧ o = .ok (some i)
def cutD (ds : List D) (lo hi : Option Int) : List D := (ds.drop (HT.sIx ds.length 0 lo)).take (HT.sIx ds.length ds.length hi - HT.sIx ds.length 0 lo)
theorem Reps.cut {K : Frg} {F : Hp} {vs : List V} {ds : List D} (lo hi : Option Int) (r : Reps K F vs ds) : Reps K F (cutV vs lo hi) (cutD ds lo hi) := by
  unfold cutV cutD
  rw [r.len]
  exact (r.dp _).tk _
def eSl {S : Type} (g : D → Option Int → Option Int → Option D) (R : Env → DM S D) (Rl Rh : ROp S) : Env → DM S D := fun env => (R env).bind fun x => (Rl env).bind fun lo => (Rh env).bind fun hi => .lift (g x lo hi)
def eSlF {S : Type} (R : Env → DM S (List D)) (Rl Rh : ROp S) : Env → DM S OD := fun env => (R env).bind fun x => (Rl env).bind fun lo => (Rh env).bind fun hi => .ret (.lst (cutD x lo hi))
/-- x[lo:hi] of a tuple, a text, a list -/
def dSl : D → Option Int → Option Int → Option D
  | .tup ds, lo, hi => some (.tup (cutD ds lo hi))
  | .str z, lo, hi => if z.length ≤ sizeLine then some (.str (cutS z lo hi)) else none
  | .lst ds, lo, hi => some (.lst (cutD ds lo hi))
  | .frl ds, lo, hi => some (.lst (cutD ds lo hi))
  | _, _, _ => none
theorem cut_whole {α : Type} {xs : List α} {lo hi : Option Int} (h : HT.sIx xs.length 0 lo = 0 ∧ HT.sIx xs.length xs.length hi = xs.length) : (xs.drop (HT.sIx xs.length 0 lo)).take (HT.sIx xs.length xs.length hi - HT.sIx xs.length 0 lo) = xs := by
  rw [h.1, h.2]; simp
section
variable {X : Cx} {G : Gh} {W : WX} {a b c : Expr} {R : Env → DM G.S D} {lo hi : Option Expr} {Rl Rh : ROp G.S} {pos p2 : Pos}
theorem pdo_none : PDo X G W none oNo := PO.imp po_none fun σ H Q ⟨H0, F0, F, env, s, o, s', S, ⟨e1, e2⟩, k, _⟩ => by
  subst e2
  exact k _ e1 _ H F S.refl S.at_ rfl
theorem pdo_some {e : Expr} (h : PD X G W e R) : PDo X G W (some e) (oSome R) := PO.imp (po_some h) fun σ H Q ⟨H0, F0, F, env, s, o, s', S, h, k, xc⟩ => by
  refine tG_bind S h xc fun x v H1 F1 s1 S1 e1 g1 h1 xc1 => ?_
  obtain ⟨rfl, i, rfl, rfl⟩ := h1
  cases g1
  exact ⟨i, rfl, k _ rfl _ H1 F1 e1 S1.at_ rfl⟩
theorem pd_slice (h : PD X G W a R) (hl : PDo X G W lo Rl) (hh : PDo X G W hi Rh) : PD X G W (.Subscript a (.Slice lo hi none p2) pos) (eSl dSl R Rl Rh) :=
  PE.imp (pe_slice ((sl_tupA.or sl_str).or sl_list) h hl hh) fun σ H Q ⟨H0, F0, F, env, s, o, s', S, h, k, xc⟩ => by
    refine tG_bind S h xc fun x v H1 F1 s1 S1 e1 g1 h1 xc1 => ?_
    refine tG_bind S1 h1 xc1 fun l l' H2 F2 s2 S2 e2 g2 h2 xc2 => ?_
    refine tG_bind S2 h2 xc2 fun u u' H3 F3 s3 S3 e3 g3 h3 xc3 => ?_
    cases g2; cases g3
    obtain ⟨rfl, z, hz, rfl⟩ := h3
    have g1' := g1.mono (e2.f.trans e3.f)
    have k' := fun v' H' F' (e' : Ext (fun _ => False) H3 F3 H' F') r' => k z rfl v' H' F' ((e1.trans e2).trans (e3.trans (.of_all e'))) (at_all S3 e') r'
    unfold dSl at hz
    split at hz
    · cases hz
      cases g1' with
      | tup hs r =>
        refine .inl (.inl ⟨_, _, rfl, SqT.of (S3.fh _ _ hs), fun w => ?_, fun w p np => ?_⟩)
        · refine k' _ _ _ (Ext.refl S3.fh) (.tup hs ?_)
          have z := r.cut l u
          have e0 : cutV _ l u = _ := cut_whole w
          rw [e0] at z
          exact z
        · have E := fun o => (Ext.new (fp := fun _ => False) o S3.fh np)
          exact k' _ _ _ (E _) (.tup upd_same ((r.mono (E _).f).cut l u))
    · split at hz
      · rename_i c
        cases hz; cases g1'
        exact .inl (.inr ⟨_, rfl, c, k' _ _ _ (Ext.refl S3.fh) (.str _)⟩)
      · cases hz
    · cases hz
      cases g1' with
      | lst hs r =>
        refine .inr ⟨_, _, rfl, SqL.of (S3.fh _ _ hs), fun p np => ?_⟩
        have E := fun o => (Ext.new (fp := fun _ => False) o S3.fh np)
        exact k' _ _ _ (E _) (.lst upd_same ((r.mono (E _).f).cut l u))
    · cases hz
      cases g1' with
      | frl hs r =>
        refine .inr ⟨_, _, rfl, S3.fh.seq hs, fun p np => ?_⟩
        have E := fun o => (Ext.new (fp := fun _ => False) o S3.fh np)
        exact k' _ _ _ (E _) (.lst upd_same ((r.mono (E _).f).cut l u))
    · cases hz
/-- a new list: a slice of one that can be read -/
theorem pf_slice {R : Env → DM G.S (List D)} (h : PL X G W a R) (hl : PDo X G W lo Rl) (hh : PDo X G W hi Rh) : PF X G W (.Subscript a (.Slice lo hi none p2) pos) (eSlF R Rl Rh) :=
  PE.imp (pe_slice sl_list h hl hh) fun σ H Q ⟨H0, F0, F, env, s, o, s', S, h, k, xc⟩ => by
    refine tG_bind S h xc fun x v H1 F1 s1 S1 e1 g1 h1 xc1 => ?_
    refine tG_bind S1 h1 xc1 fun l l' H2 F2 s2 S2 e2 g2 h2 xc2 => ?_
    refine tG_bind S2 h2 xc2 fun u u' H3 F3 s3 S3 e3 g3 h3 xc3 => ?_
    cases g2; cases g3
    obtain ⟨rfl, rfl⟩ := h3
    obtain ⟨a, vs, rfl, ls, r⟩ := g1
    have ls' := (ls.ext e2).ext e3
    have r' := r.mono (e2.f.trans e3.f)
    refine ⟨_, _, rfl, ls'.seq S3.fh, fun p np => ?_⟩
    have E := Ext.own (fp := fun _ => False) (HO.lst (cutV vs l u)) S3.fh np
    refine k _ rfl _ _ _ ((e1.trans e2).trans (e3.trans (.of_all E))) (at_all S3 E) ⟨p, _, rfl, ?_, upd_same, none_of_same S3.fh np, r'.cut l u⟩
    cases q : H p with
    | none => rfl
    | some oo => exact absurd np ((e1.trans (e2.trans e3)).d p (by rw [q]; simp))
end
end Pl
/-! The pure layer, part 3: arguments, displays, built-in functions, attributes, tests, own slots. -/
namespace Pl
open PySem PySem.Spec PyProof.Rows L2

def aNil {S : Type} : Env → DM S (List D) := fun _ => .ret []
def aCons {S : Type} (R : Env → DM S D) (Rr : Env → DM S (List D)) : Env → DM S (List D) := fun env => (R env).bind fun x => (Rr env).bind fun xs => .ret (x :: xs)
def eTup {S : Type} (R : Env → DM S (List D)) : Env → DM S D := fun env => (R env).bind fun ds => .lift (if ds.length ≤ sizeLine then some (.tup ds) else none)
def fLst {S : Type} (R : Env → DM S (List D)) : Env → DM S OD := fun env => (R env).bind fun ds => .lift (if ds.length ≤ sizeLine then some (.lst ds) else none)
/-- a new object, as a datum from now on -/
def eOf {S : Type} (R : Env → DM S OD) : Env → DM S D := fun env => (R env).bind fun w => .ret w.d
section
variable {X : Cx} {G : Gh} {W : WX} {a b c e : Expr} {es : List Expr} {R Ra Rb Rc : Env → DM G.S D} {Rs : Env → DM G.S (List D)} {pos : Pos}
theorem pas_nil : PAs X G W [] aNil := PA.imp pa_nil fun σ H Q ⟨H0, F0, F, env, s, o, s', S, ⟨e1, e2⟩, k, _⟩ => by
  subst e2
  exact k _ e1 _ H F S.refl S.at_ .nil
theorem pas_cons (h : PD X G W e R) (hs : PAs X G W es Rs) (hst : starEach (e :: es) X.env = (false, eval e X.env) :: starEach es X.env := by rfl) : PAs X G W (e :: es) (aCons R Rs) :=
  PA.imp (pa_cons h hs hst) fun σ H Q ⟨H0, F0, F, env, s, o, s', S, h, k, xc⟩ => by
    refine tG_bind S h xc fun x v H1 F1 s1 S1 e1 g1 h1 xc1 => ?_
    refine tG_bind S1 h1 xc1 fun xs vs H2 F2 s2 S2 e2 g2 h2 xc2 => ?_
    obtain ⟨rfl, rfl⟩ := h2
    exact k _ rfl _ H2 F2 (e1.trans e2) S2.at_ (.cons (Rep.mono e2.f g1) g2)
theorem pd_tup {x1} (h : PAs X G W es Rs) : PD X G W (.Tuple es x1 pos) (eTup Rs) := PE.imp (pe_tup h) fun σ H Q ⟨H0, F0, F, env, s, o, s', S, h, k, xc⟩ => by
  refine tG_bind S h xc fun ds vs H1 F1 s1 S1 e1 g1 h1 xc1 => ?_
  obtain ⟨rfl, x, hx, rfl⟩ := h1
  split at hx
  · rename_i c
    cases hx
    refine ⟨by rw [g1.len]; exact c, fun p np => ?_⟩
    have E := Ext.new (fp := fun _ => False) (HO.tup vs) S1.fh np
    exact k _ rfl _ _ _ (e1.trans (.of_all E)) (at_all S1 E) (.tup upd_same (Reps.mono E.f g1))
  · cases hx
theorem pf_lst (h : PAs X G W es Rs) : PF X G W (.List es pos) (fLst Rs) := PE.imp (pe_lst h) fun σ H Q ⟨H0, F0, F, env, s, o, s', S, h, k, xc⟩ => by
  refine tG_bind S h xc fun ds vs H1 F1 s1 S1 e1 g1 h1 xc1 => ?_
  obtain ⟨rfl, x, hx, rfl⟩ := h1
  split at hx
  · rename_i c
    cases hx
    refine ⟨by rw [g1.len]; exact c, fun p np => ?_⟩
    have E := Ext.own (fp := fun _ => False) (HO.lst vs) S1.fh np
    refine k _ rfl _ _ _ (e1.trans (.of_all E)) (at_all S1 E) ⟨p, _, rfl, ?_, upd_same, none_of_same S1.fh np, g1⟩
    cases q : H p with
    | none => rfl
    | some oo => exact absurd np (e1.d p (by rw [q]; simp))
  · cases hx
/-- a new object is frozen -/
theorem Ext.freeze {fp : Addr → Prop} {H F H' F' : Hp} {p : Addr} {o : HO} (x : Ext fp H F H' F') (n : H p = none) (h : H' p = some o) (f : F' p = none) : Ext fp H F H' (upd F' p o) where
  h := x.h
  d := x.d
  f := fun q u z => by rw [upd_ne (ne_of_none (x.f _ _ z) f)]; exact x.f _ _ z
  fh := fun q u z => by
    by_cases c : q = p
    · rw [c, upd_same] at z; rw [c, h]; exact z
    · rw [upd_ne c] at z; exact x.fh _ _ z
  n := fun q z m => by rw [upd_ne (fun c => z (by rw [c]; exact n))]; exact x.n q z m
theorem fz_same {F : Hp} {p : Addr} {o : HO} (f : F p = none) : Same F (upd F p o) := fun q u z => by rw [upd_ne (ne_of_none z f)]; exact z
theorem pd_of {R : Env → DM G.S OD} (h : PF X G W e R) : PD X G W e (eOf R) := PE.imp h fun σ H Q ⟨H0, F0, F, env, s, o, s', S, h, k, xc⟩ => by
  refine tG_bind S h xc fun w v H1 F1 s1 S1 e1 g1 h1 xc1 => ?_
  obtain ⟨rfl, rfl⟩ := h1
  obtain ⟨p, oo, rfl, n, hp, fp, q⟩ := g1
  exact k _ rfl _ _ _ (e1.freeze n hp fp) (Gh.atF S1.at_ (fz_same fp)) ((q.mono (fz_same fp)).rep upd_same)

/-! ### built-in functions -/
def CaD (K : Frg) (r : List V → Hp → VK → Prop) (g : List D → Option D) : Prop := ∀ (H F : Hp) (vs : List V) (ds : List D) (x : D) (Q : VK), Same F H → Reps K F vs ds → g ds = some x →
  (∀ v' H' F', Ext (fun _ => False) H F H' F' → Rep K F' v' x → Q v' H') → r vs H Q
/-- .. that hand out a new object -/
def CaF (K : Frg) (r : List V → Hp → VK → Prop) (g : List D → Option OD) : Prop := ∀ (H F : Hp) (vs : List V) (ds : List D) (x : OD) (Q : VK), Same F H → Reps K F vs ds → g ds = some x →
  (∀ p o F', H p = none → Ext (fun _ => False) H F (upd H p o) F' → F' p = none → OwnO K F' o x → Q (.ref p) (upd H p o)) → r vs H Q
def eCa {S : Type} (g : List D → Option D) (R : Env → DM S (List D)) : Env → DM S D := fun env => (R env).bind fun ds => .lift (g ds)
def fCa {S : Type} (g : List D → Option OD) (R : Env → DM S (List D)) : Env → DM S OD := fun env => (R env).bind fun ds => .lift (g ds)
theorem ca_use {r : List V → Hp → VK → Prop} {g : List D → Option D} (hd : CaD X.K r g) (σ : L2.St) (H : Hp) (Q : VK) (h : tE X.K G W (eCa g Rs) σ H Q) : tCB r (tA X.K G W Rs) σ H Q := by
  obtain ⟨H0, F0, F, env, s, o, s', S, h, k, xc⟩ := h
  refine tG_bind S h xc fun ds vs H1 F1 s1 S1 e1 g1 h1 xc1 => ?_
  obtain ⟨rfl, x, hx, rfl⟩ := h1
  exact hd H1 F1 vs ds x Q S1.fh g1 hx fun v' H' F' e' r' => k x rfl v' H' F' (e1.trans (.of_all e')) (at_all S1 e') r'
theorem caf_use {r : List V → Hp → VK → Prop} {g : List D → Option OD} (hd : CaF X.K r g) (σ : L2.St) (H : Hp) (Q : VK) (h : tF X.K G W (fCa g Rs) σ H Q) : tCB r (tA X.K G W Rs) σ H Q := by
  obtain ⟨H0, F0, F, env, s, o, s', S, h, k, xc⟩ := h
  refine tG_bind S h xc fun ds vs H1 F1 s1 S1 e1 g1 h1 xc1 => ?_
  obtain ⟨rfl, x, hx, rfl⟩ := h1
  refine hd H1 F1 vs ds x Q S1.fh g1 hx fun p oo F' np e' f' q => k x rfl _ _ F' (e1.trans (.of_all e')) (at_all S1 e') ⟨p, oo, rfl, ?_, upd_same, f', q⟩
  cases q : H p with
  | none => rfl
  | some oo => exact absurd np (e1.d p (by rw [q]; simp))
theorem pd_callB {r : List V → Hp → VK → Prop} {g : List D → Option D} {x : Str} {id : String} {p : Pos} (hc : CallR X (.builtin id) r) (hd : CaD X.K r g) (hg : Gl X x) (hm : X.mg x = none) (hv : bootBuiltins x = some (.builtin id)) (ha : PAs X G W (e :: es) Rs)
    (hn : x ≠ "__name__" := by decide) (hdb : (x == ("__debug__" : Str)) = false := by decide) (he : starEach (e :: es) X.env = (false, eval e X.env) :: starEach es X.env := by rfl) (hpl : (backTo pos (starEach es X.env)).any (·.1) = false := by rfl) :
    PD X G W (.Call (.Name x p) (e :: es) [] pos) (eCa g Rs) := PE.imp (pe_callB hc hg hm hv ha hn hdb he hpl) (ca_use hd)
theorem pd_callTy {r : List V → Hp → VK → Prop} {g : List D → Option D} {x : Str} {T : String} {p : Pos} (hc : CallR X (.type T) r) (hd : CaD X.K r g) (hg : Gl X x) (hm : X.mg x = none) (hv : bootBuiltins x = some (.type T)) (ha : PAs X G W (e :: es) Rs)
    (hn : x ≠ "__name__" := by decide) (hdb : (x == ("__debug__" : Str)) = false := by decide) (he : starEach (e :: es) X.env = (false, eval e X.env) :: starEach es X.env := by rfl) (hpl : (backTo pos (starEach es X.env)).any (·.1) = false := by rfl) :
    PD X G W (.Call (.Name x p) (e :: es) [] pos) (eCa g Rs) := PE.imp (pe_callTy hc hg hm hv ha hn hdb he hpl) (ca_use hd)
theorem pf_callTy {r : List V → Hp → VK → Prop} {g : List D → Option OD} {x : Str} {T : String} {p : Pos} (hc : CallR X (.type T) r) (hd : CaF X.K r g) (hg : Gl X x) (hm : X.mg x = none) (hv : bootBuiltins x = some (.type T)) (ha : PAs X G W (e :: es) Rs)
    (hn : x ≠ "__name__" := by decide) (hdb : (x == ("__debug__" : Str)) = false := by decide) (he : starEach (e :: es) X.env = (false, eval e X.env) :: starEach es X.env := by rfl) (hpl : (backTo pos (starEach es X.env)).any (·.1) = false := by rfl) :
    PF X G W (.Call (.Name x p) (e :: es) [] pos) (fCa g Rs) := PE.imp (pe_callTy hc hg hm hv ha hn hdb he hpl) (caf_use hd)
theorem pf_callB {r : List V → Hp → VK → Prop} {g : List D → Option OD} {x : Str} {id : String} {p : Pos} (hc : CallR X (.builtin id) r) (hd : CaF X.K r g) (hg : Gl X x) (hm : X.mg x = none) (hv : bootBuiltins x = some (.builtin id)) (ha : PAs X G W (e :: es) Rs)
    (hn : x ≠ "__name__" := by decide) (hdb : (x == ("__debug__" : Str)) = false := by decide) (he : starEach (e :: es) X.env = (false, eval e X.env) :: starEach es X.env := by rfl) (hpl : (backTo pos (starEach es X.env)).any (·.1) = false := by rfl) :
    PF X G W (.Call (.Name x p) (e :: es) [] pos) (fCa g Rs) := PE.imp (pe_callB hc hg hm hv ha hn hdb he hpl) (caf_use hd)
end

/-- ints, bools of a list -/
def dInts : List D → Option (List Int)
  | [] => some []
  | .int i :: ds => (dInts ds).map (i :: ·)
  | _ :: _ => none
theorem dInts_inv : ∀ {ds : List D} {ns : List Int}, dInts ds = some ns → ds = ns.map D.int
  | [], _, h => by cases h; rfl
  | .int i :: ds, ns, h => by
    cases q : dInts ds with
    | none => simp [dInts, q] at h
    | some ms =>
      simp [dInts, q] at h
      subst h
      rw [dInts_inv q]
      rfl
  | .non :: _, _, h => by simp [dInts] at h
  | .bl _ :: _, _, h => by simp [dInts] at h
  | .str _ :: _, _, h => by simp [dInts] at h
  | .ty _ :: _, _, h => by simp [dInts] at h
  | .fn _ :: _, _, h => by simp [dInts] at h
  | .tup _ :: _, _, h => by simp [dInts] at h
  | .lst _ :: _, _, h => by simp [dInts] at h
  | .frl _ :: _, _, h => by simp [dInts] at h
  | .dic _ _ :: _, _, h => by simp [dInts] at h
  | .dit _ _ :: _, _, h => by simp [dInts] at h
  | .ins _ _ _ :: _, _, h => by simp [dInts] at h
theorem dInts_map : ∀ ns : List Int, dInts (ns.map D.int) = some ns
  | [] => rfl
  | n :: ns => by
    show (dInts (ns.map D.int)).map (n :: ·) = _
    rw [dInts_map ns]; rfl
def dBls : List D → Option (List Bool)
  | [] => some []
  | .bl i :: ds => (dBls ds).map (i :: ·)
  | _ :: _ => none
theorem dBls_inv : ∀ {ds : List D} {ns : List Bool}, dBls ds = some ns → ds = ns.map D.bl
  | [], _, h => by cases h; rfl
  | .bl i :: ds, ns, h => by
    cases q : dBls ds with
    | none => simp [dBls, q] at h
    | some ms =>
      simp [dBls, q] at h
      subst h
      rw [dBls_inv q]
      rfl
  | .non :: _, _, h => by simp [dBls] at h
  | .int _ :: _, _, h => by simp [dBls] at h
  | .str _ :: _, _, h => by simp [dBls] at h
  | .ty _ :: _, _, h => by simp [dBls] at h
  | .fn _ :: _, _, h => by simp [dBls] at h
  | .tup _ :: _, _, h => by simp [dBls] at h
  | .lst _ :: _, _, h => by simp [dBls] at h
  | .frl _ :: _, _, h => by simp [dBls] at h
  | .dic _ _ :: _, _, h => by simp [dBls] at h
  | .dit _ _ :: _, _, h => by simp [dBls] at h
  | .ins _ _ _ :: _, _, h => by simp [dBls] at h
theorem dBls_map : ∀ ns : List Bool, dBls (ns.map D.bl) = some ns
  | [] => rfl
  | n :: ns => by
    show (dBls (ns.map D.bl)).map (n :: ·) = _
    rw [dBls_map ns]; rfl
theorem Reps.of_bls {K : Frg} {F : Hp} : ∀ {vs : List V} {ns : List Bool}, Reps K F vs (ns.map D.bl) → vs = ns.map V.bl
  | _, [], .nil => rfl
  | _, _ :: _, .cons h r => by
    cases h
    rw [Reps.of_bls r]
    rfl
theorem Reps.one {K : Frg} {F : Hp} {vs : List V} {d : D} (r : Reps K F vs [d]) : ∃ v, vs = [v] ∧ Rep K F v d := by
  cases r with
  | cons h r =>
    cases r
    exact ⟨_, rfl, h⟩
theorem Reps.two {K : Frg} {F : Hp} {vs : List V} {d e : D} (r : Reps K F vs [d, e]) : ∃ v w, vs = [v, w] ∧ Rep K F v d ∧ Rep K F w e := by
  cases r with
  | cons h r =>
    obtain ⟨w, rfl, h2⟩ := r.one
    exact ⟨_, _, rfl, h, h2⟩

def dAbs : List D → Option D
  | [.int i] => some (.int (if i < 0 then -i else i))
  | _ => none
theorem cad_abs {K : Frg} : CaD K (fun xs H Q => ∃ i, xs = [.int i] ∧ Q (.int (if i < 0 then -i else i)) H) dAbs := by
  intro H F vs ds x Q sm r h k
  unfold dAbs at h
  split at h
  · cases h
    obtain ⟨v, rfl, h⟩ := r.one
    cases h
    exact ⟨_, rfl, k _ H F (Ext.refl sm) (.int _)⟩
  · cases h
def dInt1 : List D → Option D
  | [.int i] => some (.int i)
  | [.bl b] => some (.int (if b then 1 else 0))
  | _ => none
theorem cad_int {K : Frg} : CaD K (fun xs H Q => (∃ i, xs = [.int i] ∧ Q (.int i) H) ∨ ∃ k, xs = [.bl k] ∧ Q (.int (if k then 1 else 0)) H) dInt1 := by
  intro H F vs ds x Q sm r h k
  unfold dInt1 at h
  split at h
  · cases h
    obtain ⟨v, rfl, h⟩ := r.one
    cases h
    exact .inl ⟨_, rfl, k _ H F (Ext.refl sm) (.int _)⟩
  · cases h
    obtain ⟨v, rfl, h⟩ := r.one
    cases h
    exact .inr ⟨_, rfl, k _ H F (Ext.refl sm) (.int _)⟩
  · cases h
def dLen : List D → Option D
  | [.str z] => if z.length ≤ sizeLine then some (.int z.length) else none
  | [.dic ks _] => some (.int ks.length)
  | [d] => (itemsD d).map fun ds => .int ds.length
  | _ => none
theorem cad_len {K : Frg} : CaD K (fun xs H Q => (∃ p ys, xs = [.ref p] ∧ (SqL K H p ys ∨ SqT K H p ys) ∧ Q (.int ys.length) H) ∨ (∃ z, xs = [.str z] ∧ z.length ≤ sizeLine ∧ Q (.int z.length) H) ∨ ∃ a kvs, xs = [V.ref a] ∧ H a = some (.dK kvs) ∧ Q (.int kvs.length) H) dLen := by
  intro H F vs ds x Q sm r h k
  unfold dLen at h
  split at h
  · split at h
    · cases h
      obtain ⟨v, rfl, h⟩ := r.one
      cases h
      exact .inr (.inl ⟨_, rfl, by assumption, k _ H F (Ext.refl sm) (.int _)⟩)
    · cases h
  · cases h
    obtain ⟨v, rfl, h⟩ := r.one
    cases h with
    | dic e _ =>
      rw [List.length_map] at k
      exact .inr (.inr ⟨_, _, rfl, sm _ _ e, k _ H F (Ext.refl sm) (.int _)⟩)
  · obtain ⟨v, rfl, hv⟩ := r.one
    cases q : itemsD _ with
    | none => rw [q] at h; cases h
    | some es =>
      rw [q] at h
      cases h
      obtain ⟨a, ws, rfl, hs, rs⟩ := hv.items q
      exact .inl ⟨a, ws, rfl, hs.elim (fun z => .inl (sm.seq z)) (fun z => .inr (same_tup sm z)), by rw [rs.len]; exact k _ H F (Ext.refl sm) (.int _)⟩
  · cases h
def dTuple : List D → Option D
  | [d] => (itemsD d).map .tup
  | _ => none
theorem cad_tuple {K : Frg} : CaD K (fun xs H Q => ∃ p ys, xs = [.ref p] ∧ ((SqL K H p ys ∧ ∀ l, H l = none → Q (.ref l) (upd H l (.tup ys))) ∨ (SqT K H p ys ∧ Q (.ref p) H))) dTuple := by
  intro H F vs ds x Q sm r h k
  unfold dTuple at h
  split at h
  · obtain ⟨v, rfl, hv⟩ := r.one
    have go : ∀ (a : Addr) (ws : List V) (es : List D), SqL K F a ws → Reps K F ws es → (∀ v' H' F', Ext (fun _ => False) H F H' F' → Rep K F' v' (.tup es) → Q v' H') →
        ∃ p ys, [V.ref a] = [V.ref p] ∧ ((SqL K H p ys ∧ ∀ l, H l = none → Q (.ref l) (upd H l (.tup ys))) ∨ (SqT K H p ys ∧ Q (.ref p) H)) := fun a ws es hs rs k => by
      refine ⟨a, ws, rfl, .inl ⟨sm.seq hs, fun l nl => ?_⟩⟩
      have E := Ext.new (fp := fun _ => False) (HO.tup ws) sm nl
      exact k _ _ _ E (.tup upd_same (rs.mono E.f))
    cases hv with
    | tup e rr => cases h; exact ⟨_, _, rfl, .inr ⟨SqT.of (sm _ _ e), k _ H F (Ext.refl sm) (.tup e rr)⟩⟩
    | lst e rr => cases h; exact go _ _ _ (SqL.of e) rr k
    | frl e rr => cases h; exact go _ _ _ e rr k
    | _ => cases h
  · cases h
def dList : List D → Option OD
  | [d] => (itemsD d).map .lst
  | _ => none
theorem caf_list {K : Frg} : CaF K (fun xs H Q => ∃ p ys, xs = [.ref p] ∧ (SqL K H p ys ∨ SqT K H p ys) ∧ ∀ l, H l = none → Q (.ref l) (upd H l (.lst ys))) dList := by
  intro H F vs ds x Q sm r h k
  unfold dList at h
  split at h
  · obtain ⟨v, rfl, hv⟩ := r.one
    cases q : itemsD _ with
    | none => rw [q] at h; cases h
    | some es =>
      rw [q] at h
      cases h
      obtain ⟨a, ws, rfl, hs, rs⟩ := hv.items q
      refine ⟨a, ws, rfl, hs.elim (fun z => .inl (sm.seq z)) (fun z => .inr (same_tup sm z)), fun l nl => ?_⟩
      exact k l _ F nl (Ext.own _ sm nl) (none_of_same sm nl) rs
  · cases h
/-- lists (not tuples) of ints, of bools -/
def lstD : D → Option (List D)
  | .lst ds | .frl ds => some ds
  | _ => none
theorem Rep.lstD {K : Frg} {F : Hp} {v : V} {d : D} {ds : List D} (r : Rep K F v d) (h : Pl.lstD d = some ds) : ∃ a vs, v = .ref a ∧ SqL K F a vs ∧ Reps K F vs ds := by
  cases r with
  | lst e r => cases h; exact ⟨_, _, rfl, SqL.of e, r⟩
  | frl e r => cases h; exact ⟨_, _, rfl, e, r⟩
  | _ => cases h
theorem Rep.ints {K : Frg} {F : Hp} {v : V} {d : D} {ns : List Int} (r : Rep K F v d) (h : (Pl.lstD d).bind dInts = some ns) : ∃ a, v = .ref a ∧ SqL K F a (ns.map V.int) := by
  cases q : Pl.lstD d with
  | none => rw [q] at h; cases h
  | some ds =>
    rw [q] at h
    obtain ⟨a, vs, rfl, hs, rs⟩ := r.lstD q
    rw [dInts_inv h] at rs
    rw [← rs.of_ints]
    exact ⟨a, rfl, hs⟩
theorem Rep.bls {K : Frg} {F : Hp} {v : V} {d : D} {ns : List Bool} (r : Rep K F v d) (h : (Pl.lstD d).bind dBls = some ns) : ∃ a, v = .ref a ∧ SqL K F a (ns.map V.bl) := by
  cases q : Pl.lstD d with
  | none => rw [q] at h; cases h
  | some ds =>
    rw [q] at h
    obtain ⟨a, vs, rfl, hs, rs⟩ := r.lstD q
    rw [dBls_inv h] at rs
    rw [← rs.of_bls]
    exact ⟨a, rfl, hs⟩
def dSum : List D → Option D
  | [d] => ((lstD d).bind dInts).map fun ns => .int ns.sum
  | _ => none
theorem cad_sum {K : Frg} : CaD K (rSum K) dSum := by
  intro H F vs ds x Q sm r h k
  unfold dSum at h
  split at h
  · obtain ⟨v, rfl, hv⟩ := r.one
    cases q : (lstD _).bind dInts with
    | none => rw [q] at h; cases h
    | some ns =>
      rw [q] at h
      cases h
      obtain ⟨a, rfl, hs⟩ := hv.ints q
      exact ⟨a, ns, rfl, sm.seq hs, k _ H F (Ext.refl sm) (.int _)⟩
  · cases h
def dAny : List D → Option D
  | [d] => ((lstD d).bind dBls).map fun ns => .bl (ns.any id)
  | _ => none
theorem cad_any {K : Frg} : CaD K (rAny K) dAny := by
  intro H F vs ds x Q sm r h k
  unfold dAny at h
  split at h
  · obtain ⟨v, rfl, hv⟩ := r.one
    cases q : (lstD _).bind dBls with
    | none => rw [q] at h; cases h
    | some ns =>
      rw [q] at h
      cases h
      obtain ⟨a, rfl, hs⟩ := hv.bls q
      exact ⟨a, ns, rfl, sm.seq hs, k _ H F (Ext.refl sm) (.bl _)⟩
  · cases h
def dAll : List D → Option D
  | [d] => ((lstD d).bind dBls).map fun ns => .bl (ns.all id)
  | _ => none
theorem cad_all {K : Frg} : CaD K (rAll K) dAll := by
  intro H F vs ds x Q sm r h k
  unfold dAll at h
  split at h
  · obtain ⟨v, rfl, hv⟩ := r.one
    cases q : (lstD _).bind dBls with
    | none => rw [q] at h; cases h
    | some ns =>
      rw [q] at h
      cases h
      obtain ⟨a, rfl, hs⟩ := hv.bls q
      exact ⟨a, ns, rfl, sm.seq hs, k _ H F (Ext.refl sm) (.bl _)⟩
  · cases h
def minL : Int → List Int → Int
  | m, [] => m
  | m, n :: ns => minL (if n < m then n else m) ns
theorem minL_le : ∀ (ns : List Int) (m : Int), minL m ns ≤ m ∧ ∀ n ∈ ns, minL m ns ≤ n
  | [], m => ⟨Int.le_refl m, fun _ h => by cases h⟩
  | n :: ns, m => by
    obtain ⟨h1, h2⟩ := minL_le ns (if n < m then n else m)
    show minL (if n < m then n else m) ns ≤ m ∧ ∀ k ∈ n :: ns, minL (if n < m then n else m) ns ≤ k
    have h3 : (if n < m then n else m) ≤ m ∧ (if n < m then n else m) ≤ n := by split <;> omega
    refine ⟨Int.le_trans h1 h3.1, fun k hk => ?_⟩
    rcases List.mem_cons.mp hk with rfl | hk
    · exact Int.le_trans h1 h3.2
    · exact h2 k hk
theorem minL_mem : ∀ (ns : List Int) (m : Int), minL m ns = m ∨ minL m ns ∈ ns
  | [], m => .inl rfl
  | n :: ns, m => by
    show minL (if n < m then n else m) ns = m ∨ minL (if n < m then n else m) ns ∈ n :: ns
    rcases minL_mem ns (if n < m then n else m) with h | h
    · rw [h]
      by_cases c : n < m
      · rw [if_pos c]; exact .inr List.mem_cons_self
      · rw [if_neg c]; exact .inl rfl
    · exact .inr (List.mem_cons_of_mem _ h)
def maxL : Int → List Int → Int
  | m, [] => m
  | m, n :: ns => maxL (if n > m then n else m) ns
theorem maxL_le : ∀ (ns : List Int) (m : Int), m ≤ maxL m ns ∧ ∀ n ∈ ns, n ≤ maxL m ns
  | [], m => ⟨Int.le_refl m, fun _ h => by cases h⟩
  | n :: ns, m => by
    obtain ⟨h1, h2⟩ := maxL_le ns (if n > m then n else m)
    show m ≤ maxL (if n > m then n else m) ns ∧ ∀ k ∈ n :: ns, k ≤ maxL (if n > m then n else m) ns
    have h3 : m ≤ (if n > m then n else m) ∧ n ≤ (if n > m then n else m) := by split <;> omega
    refine ⟨Int.le_trans h3.1 h1, fun k hk => ?_⟩
    rcases List.mem_cons.mp hk with rfl | hk
    · exact Int.le_trans h3.2 h1
    · exact h2 k hk
theorem maxL_mem : ∀ (ns : List Int) (m : Int), maxL m ns = m ∨ maxL m ns ∈ ns
  | [], m => .inl rfl
  | n :: ns, m => by
    show maxL (if n > m then n else m) ns = m ∨ maxL (if n > m then n else m) ns ∈ n :: ns
    rcases maxL_mem ns (if n > m then n else m) with h | h
    · rw [h]
      by_cases c : n > m
      · rw [if_pos c]; exact .inr List.mem_cons_self
      · rw [if_neg c]; exact .inl rfl
    · exact .inr (List.mem_cons_of_mem _ h)
def dMin : List D → Option D
  | [d] => match (lstD d).bind dInts with
    | some (n :: ns) => some (.int (minL n ns))
    | _ => none
  | [.int i, .int j] => some (.int (if j < i then j else i))
  | _ => none
def dMax : List D → Option D
  | [d] => match (lstD d).bind dInts with
    | some (n :: ns) => some (.int (maxL n ns))
    | _ => none
  | [.int i, .int j] => some (.int (if j > i then j else i))
  | _ => none
theorem cad_min {K : Frg} : CaD K (fun xs H Q => rMin K xs H Q ∨ ∃ i j, xs = [.int i, .int j] ∧ Q (.int (if j < i then j else i)) H) dMin := by
  intro H F vs ds x Q sm r h k
  unfold dMin at h
  split at h
  · obtain ⟨v, rfl, hv⟩ := r.one
    split at h
    · rename_i n ns q
      cases h
      obtain ⟨a, rfl, hs⟩ := hv.ints q
      refine .inl ⟨a, n :: ns, rfl, sm.seq hs, Nat.succ_pos _, fun m hm hl => ?_⟩
      have h1 := minL_le ns n
      have e : m = minL n ns := by
        refine Int.le_antisymm ?_ ?_
        · rcases minL_mem ns n with z | z
          · rw [z]; exact hl _ List.mem_cons_self
          · exact hl _ (List.mem_cons_of_mem _ z)
        · rcases List.mem_cons.mp hm with z | z
          · rw [z]; exact h1.1
          · exact h1.2 _ z
      rw [e]
      exact k _ H F (Ext.refl sm) (.int _)
    · cases h
  · cases h
    obtain ⟨v, w, rfl, hv, hw⟩ := r.two
    cases hv; cases hw
    exact .inr ⟨_, _, rfl, k _ H F (Ext.refl sm) (.int _)⟩
  · cases h
theorem cad_max {K : Frg} : CaD K (fun xs H Q => rMax K xs H Q ∨ ∃ i j, xs = [.int i, .int j] ∧ Q (.int (if j > i then j else i)) H) dMax := by
  intro H F vs ds x Q sm r h k
  unfold dMax at h
  split at h
  · obtain ⟨v, rfl, hv⟩ := r.one
    split at h
    · rename_i n ns q
      cases h
      obtain ⟨a, rfl, hs⟩ := hv.ints q
      refine .inl ⟨a, n :: ns, rfl, sm.seq hs, Nat.succ_pos _, fun m hm hl => ?_⟩
      have h1 := maxL_le ns n
      have e : m = maxL n ns := by
        refine Int.le_antisymm ?_ ?_
        · rcases List.mem_cons.mp hm with z | z
          · rw [z]; exact h1.1
          · exact h1.2 _ z
        · rcases maxL_mem ns n with z | z
          · rw [z]; exact hl _ List.mem_cons_self
          · exact hl _ (List.mem_cons_of_mem _ z)
      rw [e]
      exact k _ H F (Ext.refl sm) (.int _)
    · cases h
  · cases h
    obtain ⟨v, w, rfl, hv, hw⟩ := r.two
    cases hv; cases hw
    exact .inr ⟨_, _, rfl, k _ H F (Ext.refl sm) (.int _)⟩
  · cases h
/-- isinstance against a built-in class, against a tuple of such -/
def tyD : D → Option String
  | .non => some "NoneType"
  | .bl _ => some "bool"
  | .int _ => some "int"
  | .str _ => some "str"
  | .tup _ => some "tuple"
  | .lst _ => some "list"
  | .dic _ _ | .dit _ _ => some "dict"
  | _ => none
theorem Rep.tyX {K : Frg} {F H : Hp} {v : V} {d : D} {t : String} (sm : Same F H) (r : Rep K F v d) (h : tyD d = some t) : TyX K H v (.type t) := by
  cases r with
  | non => cases h; exact .base .non
  | bl b => cases h; exact .base (.bl b)
  | int i => cases h; exact .base (.int i)
  | str x => cases h; exact .base (.str x)
  | tup e r => cases h; exact .base (.tup (sm _ _ e))
  | lst e r => cases h; exact .base (.lst (sm _ _ e))
  | dic e r => cases h; exact .base (.dK (sm _ _ e))
  | dit e r => cases h; exact .base (.dT (sm _ _ e))
  | _ => cases h
def dTys : List D → Option (List String)
  | [] => some []
  | .ty n :: ds => (dTys ds).map (n :: ·)
  | _ :: _ => none
def kitBs (t : String) : List String → Option Bool
  | [] => some false
  | n :: ns => match kitB t n with
    | some true => some true
    | some false => kitBs t ns
    | none => none
theorem kitBs_ok {K : Frg} {t : String} : ∀ {ns : List String} {b : Bool}, kitBs t ns = some b → PySem.W.kitAny K (.type t) (ns.map Value.type) = some b
  | [], _, h => by cases h; rfl
  | n :: ns, b, h => by
    have h' : (match kitB t n with
      | some true => some true
      | some false => kitBs t ns
      | none => none) = some b := h
    cases q : kitB t n with
    | none => rw [q] at h'; cases h'
    | some c =>
      rw [q] at h'
      refine kitAny_cons (kit_ty q) (fun z => ?_) (fun z => ?_)
      · subst z; exact kitBs_ok h'
      · subst z; cases h'; rfl
theorem tys_reps {K : Frg} {F : Hp} : ∀ {vs : List V} {ds : List D} {ns : List String}, Reps K F vs ds → dTys ds = some ns → Paired ClsV vs (ns.map Value.type)
  | _, _, _, .nil, h => by cases h; exact .nil
  | _, .ty n :: ds, ns, .cons hv r, h => by
    cases q : dTys ds with
    | none => simp [dTys, q] at h
    | some ms =>
      simp [dTys, q] at h
      subst h
      cases hv
      exact .cons (.ty n) (tys_reps r q)
  | _, .non :: _, _, _, h => by simp [dTys] at h
  | _, .bl _ :: _, _, _, h => by simp [dTys] at h
  | _, .int _ :: _, _, _, h => by simp [dTys] at h
  | _, .str _ :: _, _, _, h => by simp [dTys] at h
  | _, .fn _ :: _, _, _, h => by simp [dTys] at h
  | _, .tup _ :: _, _, _, h => by simp [dTys] at h
  | _, .lst _ :: _, _, _, h => by simp [dTys] at h
  | _, .frl _ :: _, _, _, h => by simp [dTys] at h
  | _, .dic _ _ :: _, _, _, h => by simp [dTys] at h
  | _, .dit _ _ :: _, _, _, h => by simp [dTys] at h
  | _, .ins _ _ _ :: _, _, _, h => by simp [dTys] at h
def dIsi : List D → Option D
  | [d, .ty n] => (tyD d).bind fun t => (kitB t n).map .bl
  | [d, .tup cs] => (tyD d).bind fun t => (dTys cs).bind fun ns => (kitBs t ns).map .bl
  | _ => none
theorem cad_isi {K : Frg} : CaD K (fun xs H Q => rIsi K xs H Q ∨ rIsiT K xs H Q) dIsi := by
  intro H F vs ds x Q sm r h k
  unfold dIsi at h
  split at h
  · obtain ⟨v, w, rfl, hv, hw⟩ := r.two
    obtain ⟨t, q, h⟩ := Option.bind_eq_some_iff.mp h
    obtain ⟨b, q2, rfl⟩ := Option.map_eq_some_iff.mp h
    cases hw
    exact .inl ⟨v, _, _, _, b, rfl, .ty _, hv.tyX sm q, kit_ty q2, k _ H F (Ext.refl sm) (.bl _)⟩
  · obtain ⟨v, w, rfl, hv, hw⟩ := r.two
    obtain ⟨t, q, h⟩ := Option.bind_eq_some_iff.mp h
    obtain ⟨ns, q3, h⟩ := Option.bind_eq_some_iff.mp h
    obtain ⟨b, q2, rfl⟩ := Option.map_eq_some_iff.mp h
    cases hw with
    | tup e r => exact .inr ⟨v, _, _, _, _, b, rfl, sm _ _ e, tys_reps r q3, hv.tyX sm q, kitBs_ok q2, k _ H F (Ext.refl sm) (.bl _)⟩
  · cases h
end Pl
/-! The pure layer, part 4: attributes, tests, borrowed slots, calls of defs. -/
namespace Pl
open PySem PySem.Spec PyProof.Rows L2

/-! ### attributes -/
def lookD : List Str → List D → Str → Option D
  | n :: ns, d :: ds, f => if f = n then some d else lookD ns ds f
  | _, _, _ => none
theorem look_reps {K : Frg} {F : Hp} {f : Str} {d : D} : ∀ {fs : List (Str × V)} {ds : List D}, Reps K F (fs.map (·.2)) ds → lookD (fs.map (·.1)) ds f = some d → ∃ v, fs.lookup f = some v ∧ Rep K F v d
  | [], _, .nil, h => by simp [lookD] at h
  | (n, v) :: fs, _, .cons hv r, h => by
    have h' : (if f = n then some _ else lookD (fs.map (·.1)) _ f) = some d := h
    by_cases c : f = n
    · rw [if_pos c] at h'
      cases h'
      refine ⟨v, ?_, hv⟩
      rw [List.lookup_cons, show (f == n) = true from by simpa using c]
    · rw [if_neg c] at h'
      obtain ⟨w, h1, h2⟩ := look_reps r h'
      refine ⟨w, ?_, h2⟩
      rw [List.lookup_cons, show (f == n) = false from by simpa using c]
      exact h1
def fldD (C : Addr) (f : Str) : D → Option D
  | .ins C' ns ds => if C' = C then lookD ns ds f else none
  | _ => none
def eFld {S : Type} (C : Addr) (f : Str) (R : Env → DM S D) : Env → DM S D := fun env => (R env).bind fun d => .lift (fldD C f d)
section
variable {X : Cx} {G : Gh} {W : WX} {a b c e : Expr} {es : List Expr} {R Ra Rb Rc : Env → DM G.S D} {Rs : Env → DM G.S (List D)} {pos p : Pos}
theorem pd_fld {C : Addr} {f : Str} (cl : Cls X.K C) (na : NoAttr X.K C f) (h : PD X G W e R) (hb : attributeBase e f X.env (eval e X.env) = eval e X.env := by rfl) : PD X G W (.Attribute e f pos) (eFld C f R) :=
  PE.imp (pe_fld h hb) fun σ H Q ⟨H0, F0, F, env, s, o, s', S, h, k, xc⟩ => by
    refine tG_bind S h xc fun d v H1 F1 s1 S1 e1 g1 h1 xc1 => ?_
    obtain ⟨rfl, x, hx, rfl⟩ := h1
    cases d with
    | ins C' ns ds =>
      have hx' : (if C' = C then lookD ns ds f else none) = some x := hx
      by_cases c : C' = C
      · rw [if_pos c] at hx'
        subst c
        cases g1 with
        | ins q r =>
          obtain ⟨w, h1, h2⟩ := look_reps r hx'
          exact ⟨_, C', _, _, w, rfl, S1.fh _ _ q, cl, na, h1, k x rfl w H1 F1 e1 S1.at_ h2⟩
      · rw [if_neg c] at hx'; cases hx'
    | _ => cases hx

/-! ### and, or, not, if-else -/
def bAnd {S : Type} (Ra Rb : Env → DM S Bool) : Env → DM S Bool := fun env => (Ra env).bind fun c => if c = true then Rb env else .ret false
def bOr {S : Type} (Ra Rb : Env → DM S Bool) : Env → DM S Bool := fun env => (Ra env).bind fun c => if c = true then .ret true else Rb env
def bNot {S : Type} (Ra : Env → DM S Bool) : Env → DM S Bool := fun env => (Ra env).bind fun c => .ret (!c)
def eIf {S : Type} (Rc : Env → DM S Bool) (Ra Rb : Env → DM S D) : Env → DM S D := fun env => (Rc env).bind fun c => if c = true then Ra env else Rb env
def eAnd {S : Type} (Ra Rb : Env → DM S D) : Env → DM S D := fun env => (Ra env).bind fun x => fun s o s' => (x = .bl false ∧ o = .ok (.bl false) ∧ s' = s) ∨ (x = .bl true ∧ Rb env s o s')
def eOr {S : Type} (Ra Rb : Env → DM S D) : Env → DM S D := fun env => (Ra env).bind fun x => fun s o s' => (x = .bl true ∧ o = .ok (.bl true) ∧ s' = s) ∨ (x = .bl false ∧ Rb env s o s')
def eNot {S : Type} (Ra : Env → DM S D) : Env → DM S D := fun env => (Ra env).bind fun x => fun s o s' => s' = s ∧ ∃ c, x = .bl c ∧ o = .ok (.bl (!c))
variable {Ta Tb : Env → DM G.S Bool} {rest : List Expr}
theorem pb_of {e : Expr} (h : PBw X G W e Ta) : PB X G W e Ta := PW.pt h
theorem pbw_and1 (h : PB X G W a Ta) : PBw X G W (.BoolOp .And [a] pos) Ta := pw_and1 h
theorem pbw_or1 (h : PB X G W a Ta) : PBw X G W (.BoolOp .Or [a] pos) Ta := pw_or1 h
theorem pbw_and (ha : PB X G W a Ta) (hb : PBw X G W (.BoolOp .And (b :: rest) pos) Tb) : PBw X G W (.BoolOp .And (a :: b :: rest) pos) (bAnd Ta Tb) :=
  PW.imp (pw_and ha hb) fun σ H Q ⟨H0, F0, F, env, s, o, s', S, h, k, xc⟩ => by
    refine tG_bind S h xc fun c c' H1 F1 s1 S1 e1 g1 h1 xc1 => ?_
    cases g1
    by_cases z : c = true
    · rw [if_pos z] at h1 ⊢
      exact ⟨H0, F0, F1, env, s1, o, s', S1, h1, fun a ha b H' F' e' => k a ha b H' F' (e1.trans e'), xc1⟩
    · rw [if_neg z] at h1 ⊢
      obtain ⟨rfl, rfl⟩ := h1
      exact k false rfl false H1 F1 e1 S1.at_ rfl
theorem pbw_or (ha : PB X G W a Ta) (hb : PBw X G W (.BoolOp .Or (b :: rest) pos) Tb) : PBw X G W (.BoolOp .Or (a :: b :: rest) pos) (bOr Ta Tb) :=
  PW.imp (pw_or ha hb) fun σ H Q ⟨H0, F0, F, env, s, o, s', S, h, k, xc⟩ => by
    refine tG_bind S h xc fun c c' H1 F1 s1 S1 e1 g1 h1 xc1 => ?_
    cases g1
    by_cases z : c = true
    · rw [if_pos z] at h1 ⊢
      obtain ⟨rfl, rfl⟩ := h1
      exact k true rfl true H1 F1 e1 S1.at_ rfl
    · rw [if_neg z] at h1 ⊢
      exact ⟨H0, F0, F1, env, s1, o, s', S1, h1, fun a ha b H' F' e' => k a ha b H' F' (e1.trans e'), xc1⟩
theorem pb_not (ha : PB X G W a Ta) : PB X G W (.UnaryOp .Not a pos) (bNot Ta) := PT.imp (pt_not ha) fun σ H Q ⟨H0, F0, F, env, s, o, s', S, h, k, xc⟩ => by
  refine tG_bind S h xc fun c c' H1 F1 s1 S1 e1 g1 h1 xc1 => ?_
  cases g1
  obtain ⟨rfl, rfl⟩ := h1
  exact k (!c) rfl (!c) H1 F1 e1 S1.at_ rfl
theorem pd_if (hc : PB X G W c Ta) (ha : PD X G W a Ra) (hb : PD X G W b Rb) : PD X G W (.IfExp c a b pos) (eIf Ta Ra Rb) := PE.imp (pe_ifExp hc ha hb) fun σ H Q ⟨H0, F0, F, env, s, o, s', S, h, k, xc⟩ => by
  refine tG_bind S h xc fun c c' H1 F1 s1 S1 e1 g1 h1 xc1 => ?_
  cases g1
  by_cases z : c = true
  · rw [if_pos z] at h1 ⊢
    exact ⟨H0, F0, F1, env, s1, o, s', S1, h1, fun a ha b H' F' e' => k a ha b H' F' (e1.trans e'), xc1⟩
  · rw [if_neg z] at h1 ⊢
    exact ⟨H0, F0, F1, env, s1, o, s', S1, h1, fun a ha b H' F' e' => k a ha b H' F' (e1.trans e'), xc1⟩
theorem pd_one {op} (h : PD X G W a Ra) : PD X G W (.BoolOp op [a] pos) Ra := pe_one h
theorem pd_andV (ha : PD X G W a Ra) (hb : PD X G W (.BoolOp .And (b :: rest) pos) Rb) : PD X G W (.BoolOp .And (a :: b :: rest) pos) (eAnd Ra Rb) := PE.imp (pe_and ha hb) fun σ H Q ⟨H0, F0, F, env, s, o, s', S, h, k, xc⟩ => by
  refine tG_bind S h xc fun x v H1 F1 s1 S1 e1 g1 h1 xc1 => ?_
  rcases h1 with ⟨rfl, rfl, rfl⟩ | ⟨rfl, h1⟩
  · cases g1
    refine ⟨false, rfl, ?_⟩
    rw [if_neg Bool.false_ne_true]
    exact k _ rfl _ H1 F1 e1 S1.at_ (.bl _)
  · cases g1
    refine ⟨true, rfl, ?_⟩
    rw [if_pos rfl]
    exact ⟨H0, F0, F1, env, s1, o, s', S1, h1, fun a ha b H' F' e' => k a ha b H' F' (e1.trans e'), xc1⟩
theorem pd_orV (ha : PD X G W a Ra) (hb : PD X G W (.BoolOp .Or (b :: rest) pos) Rb) : PD X G W (.BoolOp .Or (a :: b :: rest) pos) (eOr Ra Rb) := PE.imp (pe_or ha hb) fun σ H Q ⟨H0, F0, F, env, s, o, s', S, h, k, xc⟩ => by
  refine tG_bind S h xc fun x v H1 F1 s1 S1 e1 g1 h1 xc1 => ?_
  rcases h1 with ⟨rfl, rfl, rfl⟩ | ⟨rfl, h1⟩
  · cases g1
    refine ⟨true, rfl, ?_⟩
    rw [if_pos rfl]
    exact k _ rfl _ H1 F1 e1 S1.at_ (.bl _)
  · cases g1
    refine ⟨false, rfl, ?_⟩
    rw [if_neg Bool.false_ne_true]
    exact ⟨H0, F0, F1, env, s1, o, s', S1, h1, fun a ha b H' F' e' => k a ha b H' F' (e1.trans e'), xc1⟩
theorem pd_notV (ha : PD X G W a Ra) : PD X G W (.UnaryOp .Not a pos) (eNot Ra) := PE.imp (pe_not ha) fun σ H Q ⟨H0, F0, F, env, s, o, s', S, h, k, xc⟩ => by
  refine tG_bind S h xc fun x v H1 F1 s1 S1 e1 g1 h1 xc1 => ?_
  obtain ⟨rfl, c, rfl, rfl⟩ := h1
  cases g1
  exact ⟨c, rfl, k _ rfl _ H1 F1 e1 S1.at_ (.bl _)⟩
def eUn {S : Type} (g : D → Option D) (R : Env → DM S D) : Env → DM S D := fun env => (R env).bind fun d => .lift (g d)
def dNeg : D → Option D
  | .int i => some (.int (-i))
  | _ => none
theorem pd_neg (ha : PD X G W a Ra) : PD X G W (.UnaryOp .USub a pos) (eUn dNeg Ra) := PE.imp (pe_un un_neg ha) fun σ H Q ⟨H0, F0, F, env, s, o, s', S, h, k, xc⟩ => by
  refine tG_bind S h xc fun x v H1 F1 s1 S1 e1 g1 h1 xc1 => ?_
  obtain ⟨rfl, z, hz, rfl⟩ := h1
  cases x <;> first | (cases hz; done) | skip
  cases hz
  cases g1
  exact ⟨_, rfl, k _ rfl _ H1 F1 e1 S1.at_ (.int _)⟩
end

/-! ### an own slot is borrowed, or frozen for good -/
def scalD : D → Bool
  | .non | .bl _ | .int _ | .str _ => true
  | _ => false
theorem Rep.scal {K : Frg} {F F' : Hp} {v : V} {d : D} (r : Rep K F v d) (h : scalD d = true) : Rep K F' v d := by
  cases r <;> first | (simp [scalD] at h; done) | constructor
theorem Sim.frz {K : Frg} {G : Gh} {H0 F0 F H : Hp} {env : Env} {σ : L2.St} {s : G.S} {i : Nat} {w : OD} (S : Sim K G H0 F0 env σ H F s) (hi : env[i]? = some (.ow w)) :
    ∃ p o, σ[i]? = some (some (.ref p)) ∧ H p = some o ∧ F p = none ∧ ¬ G.fp p ∧ H0 p = none ∧ OwnO K F o w ∧ Sim K G H0 F0 (env.set i (.fz w.d)) σ H (upd F p o) s := by
  obtain ⟨L, r⟩ := S.sl
  obtain ⟨p, o, a1, a2, a3, a4, a5, a6, a7, a8, a9, a10, a11⟩ := r.get_ow hi
  refine ⟨p, o, a1, a3, a4, a5, a6, a7, ⟨fun q u z => ?_, ⟨S.ext.h, S.ext.d, S.ext.f.trans (fz_same a4), fun q u z => ?_, fun q z m => ?_⟩, Gh.atF S.at_ (fz_same a4), fun q z => ?_, _, a9 S.fh⟩⟩
  · by_cases c : q = p
    · rw [c, upd_same] at z; rw [c, a3]; exact z
    · rw [upd_ne c] at z; exact S.fh _ _ z
  · by_cases c : q = p
    · rw [c, upd_same] at z; rw [c, a3]; exact z
    · rw [upd_ne c] at z; exact S.fh _ _ z
  · rw [upd_ne (fun c => z (by rw [c]; exact a6))]; exact S.ext.n q z m
  · rw [upd_ne (fun c => a5 (by rw [← c]; exact z))]; exact S.nf q z
def eBor {S : Type} (i : Nat) (R : Env → DM S D) : Env → DM S D := fun env s o s' => ∃ w d, env[i]? = some (.ow w) ∧ R (env.set i (.fz w.d)) s (.ok d) s' ∧ scalD d = true ∧ o = .ok d
def bBor {S : Type} (i : Nat) (R : Env → DM S Bool) : Env → DM S Bool := fun env s o s' => ∃ w d, env[i]? = some (.ow w) ∧ R (env.set i (.fz w.d)) s (.ok d) s' ∧ o = .ok d
/-- what was reached with more frozen, with less -/
theorem Ext.unfrz {fp : Addr → Prop} {H F F1 H' F' : Hp} (e : Ext fp H F1 H' F') (sF : Same F F1) (sH : Same F H) (nf : ∀ p, fp p → F p = none) : Ext fp H F H' F := ⟨e.h, e.d, Same.refl F, fun p o z => e.h p o (fun c => by rw [nf p c] at z; cases z) (sH _ _ z), fun _ _ m => m⟩
section
variable {X : Cx} {G : Gh} {W : WX} {a b c e : Expr} {es : List Expr} {R : Env → DM G.S D} {T : Env → DM G.S Bool} {pos p : Pos}
theorem pd_bor (i : Nat) (fl : Flat G) (h : PD X G W e R) : PD X G W e (eBor i R) := PE.imp h fun σ H Q ⟨H0, F0, F, env, s, o, s', S, ⟨w, d, hi, hr, hd, ho⟩, k, xc⟩ => by
  obtain ⟨p, ob, a1, a2, a3, a4, a5, a6, S1⟩ := S.frz hi
  refine ⟨H0, F0, _, _, s, .ok d, s', S1, hr, fun x hx v H' F' e' at_ r => ?_, .ok⟩
  cases hx
  exact k d ho v H' F (e'.unfrz (fz_same a3) S.fh S.nf) (fl _ _ _ _ at_) (Rep.scal r hd)
theorem pb_bor (i : Nat) (fl : Flat G) (h : PB X G W e T) : PB X G W e (bBor i T) := PT.imp h fun σ H Q ⟨H0, F0, F, env, s, o, s', S, ⟨w, d, hi, hr, ho⟩, k, xc⟩ => by
  obtain ⟨p, ob, a1, a2, a3, a4, a5, a6, S1⟩ := S.frz hi
  refine ⟨H0, F0, _, _, s, .ok d, s', S1, hr, fun x hx v H' F' e' at_ r => ?_, .ok⟩
  cases hx
  exact k d ho v H' F (e'.unfrz (fz_same a3) S.fh S.nf) (fl _ _ _ _ at_) r
/-- a list that can be read: a datum's, a slot's own -/
def lOf {S : Type} (R : Env → DM S D) : Env → DM S (List D) := fun env => (R env).bind fun d => .lift (lstD d)
def lOwn {S : Type} (i : Nat) : Env → DM S (List D) := fun env s o s' => s' = s ∧ ∃ ds, env[i]? = some (.ow (.lst ds)) ∧ o = .ok ds
theorem pl_of (h : PD X G W e R) : PL X G W e (lOf R) := PE.imp h fun σ H Q ⟨H0, F0, F, env, s, o, s', S, h, k, xc⟩ => by
  refine tG_bind S h xc fun d v H1 F1 s1 S1 e1 g1 h1 xc1 => ?_
  obtain ⟨rfl, ds, hx, rfl⟩ := h1
  obtain ⟨a, vs, rfl, hs, r⟩ := Rep.lstD g1 hx
  exact k ds rfl _ H1 F1 e1 S1.at_ ⟨a, vs, rfl, .inl hs, r⟩
theorem pl_own (i : Nat) {x : Str} {pos : Pos} (hN : X.N[i]? = some x := by rfl) (hv : Vis X.env.scope x := by first | exact Or.inl rfl | exact Or.inr (Or.inl rfl) | exact Or.inr (Or.inr rfl)) (hd : (x == ("__debug__" : Str)) = false := by decide)
    (hcd : (x == ("__classdict__" : Str)) = false := by decide) : PL X G W (.Name x pos) (lOwn i) := PE.imp (pe_var hN hv hd hcd) fun σ H Q ⟨H0, F0, F, env, s, o, s', S, ⟨e1, ds, hi, ho⟩, k, xc⟩ => by
  subst e1
  obtain ⟨p, ob, a1, a2, a3, a4, a5, a6, S1⟩ := S.frz hi
  obtain ⟨vs, rfl, r⟩ := a6.lst_inv
  exact ⟨_, a1, k ds ho _ H F S.refl S.at_ ⟨p, vs, rfl, .inr ⟨a2, a4⟩, r⟩⟩
/-- an item of a list that can be read -/
def eIxL {S : Type} (R : Env → DM S (List D)) (Ri : Env → DM S D) : Env → DM S D := fun env => (R env).bind fun ds => (Ri env).bind fun i => fun s o s' => s' = s ∧ ∃ n d, i = .int n ∧ atI ds n = some d ∧ o = .ok d
theorem pd_ixL {R : Env → DM G.S (List D)} {Ri : Env → DM G.S D} (h : PL X G W a R) (hi : PD X G W b Ri) (hs : PlainIx b := by exact fun _ _ => rfl) : PD X G W (.Subscript a b pos) (eIxL R Ri) := PE.imp (pe_ix ix_list h hi hs) fun σ H Q ⟨H0, F0, F, env, s, o, s', S, h, k, xc⟩ => by
  refine tG_bind S h xc fun ds v H1 F1 s1 S1 e1 g1 h1 xc1 => ?_
  refine tG_bind S1 h1 xc1 fun i u H2 F2 s2 S2 e2 g2 h2 xc2 => ?_
  obtain ⟨rfl, n, d, rfl, hd, rfl⟩ := h2
  obtain ⟨a, vs, rfl, ls, r⟩ := g1
  cases g2
  obtain ⟨w, hw, rw_⟩ := (r.mono e2.f).atI hd
  exact ⟨a, vs, n, w, rfl, rfl, (ls.ext e2).seq S2.fh, hw, k d rfl w H2 F2 (e1.trans e2) S2.at_ rw_⟩
end

/-! ### calls of defs -/
abbrev E00 : Addr → Prop := fun _ => False
/-- what a def gives for data: a result or an exception, all that was there stays -/
def spP (K : Frg) (R : List D → Oc D → Prop) : Sp := fun vs H Q E => ∃ (F : Hp) (ds : List D) (o : Oc D), Same F H ∧ Reps K F vs ds ∧ R ds o ∧
  (∀ d, o = .ok d → ∀ v H' F', Ext E00 H F H' F' → Rep K F' v d → Q v H') ∧
  (∀ C ns es, o = .ex C ns es → ∀ (dx : Addr) (fs : List (Str × V)) (H' F' : Hp), Ext E00 H F H' F' → H' dx = some (.xd fs) → fs.map (·.1) = ns → Reps K F' (fs.map (·.2)) es → E (.ref C) (some dx) H')
/-- .. that hands out a new object -/
def spF (K : Frg) (R : List D → OD → Prop) : Sp := fun vs H Q E => ∃ (F : Hp) (ds : List D) (w : OD), Same F H ∧ Reps K F vs ds ∧ R ds w ∧
  (∀ p ob H' F', Ext E00 H F H' F' → H p = none → H' p = some ob → F' p = none → OwnO K F' ob w → Q (.ref p) H')
/-- a state of one kind, however it lies -/
structure GhS (S : Type) where
  At : S → Hp → Hp → Prop
  fp : Addr → Prop
  self : V
  loc : ∀ s H H' {F F'}, (∀ p, fp p → H' p = H p) → (∀ p φ, H p = some (HO.ext φ) → H' p = some (HO.ext φ)) → Same F F' → At s H F → At s H' F'
  dom : ∀ s H {F} p, At s H F → fp p → H p ≠ none
abbrev GhS.g {S : Type} (x : GhS S) : Gh := ⟨S, x.At, x.fp, x.self, x.loc, x.dom⟩
abbrev DlS : Type := List Int × Int
/-- at p.1 the pair, at p.2 the cells -/
def dl (p : Addr × Addr) : GhS DlS where
  At := fun s H _ => p.1 ≠ p.2 ∧ H p.1 = some (.lst [.ref p.2, .int s.2]) ∧ H p.2 = some (.lst (s.1.map V.int))
  fp := fun q => q = p.1 ∨ q = p.2
  self := .ref p.1
  loc := by
    intro s H H' F F' e _ sf ⟨h0, h1, h2⟩
    exact ⟨h0, by rw [e _ (.inl rfl)]; exact h1, by rw [e _ (.inr rfl)]; exact h2⟩
  dom := by
    intro s H F q ⟨h0, h1, h2⟩ e
    rcases e with e | e
    · rw [e, h1]; simp
    · rw [e, h2]; simp
/-- what a def gives whose first argument is the state -/
def spG {ι S : Type} (mk : ι → GhS S) (K : Frg) (R : S → List D → Oc D → S → Prop) : Sp := fun vs H Q E => ∃ (i : ι) (F : Hp) (s : S) (ds : List D) (o : Oc D) (s' : S) (vs' : List V), vs = (mk i).self :: vs' ∧ Same F H ∧
  (∀ p, (mk i).fp p → F p = none) ∧ (mk i).At s H F ∧ Reps K F vs' ds ∧ R s ds o s' ∧
  (∀ d, o = .ok d → ∀ v H' F', Ext (mk i).fp H F H' F' → (mk i).At s' H' F' → Rep K F' v d → Q v H') ∧
  (∀ C ns es, o = .ex C ns es → ∀ (dx : Addr) (fs : List (Str × V)) (H' F' : Hp), Ext (mk i).fp H F H' F' → (mk i).At s' H' F' → H' dx = some (.xd fs) → fs.map (·.1) = ns → Reps K F' (fs.map (·.2)) es → E (.ref C) (some dx) H')
/-- a def of the module by its name: it keeps the promise -/
structure FnD (P : Program) (w : World) (K : Frg) (mg : Str → Option Value) (base : Heap) (k : Nat) (x : Str) (ps : List Str) (sp : Sp) : Prop where
  ex : ∃ f fd, mg x = some (.ref f) ∧ PySem.W.keepIn K (.ref f) = true ∧ Binds K fd ps [] ∧ FnOk P w K mg base (L2.CX P w) k f fd ps sp
def eCall {S : Type} (R : List D → Oc D → Prop) (Rs : Env → DM S (List D)) : Env → DM S D := fun env => (Rs env).bind fun ds => fun s o s' => s' = s ∧ R ds o
def fCall {S : Type} (R : List D → OD → Prop) (Rs : Env → DM S (List D)) : Env → DM S OD := fun env => (Rs env).bind fun ds => fun s o s' => s' = s ∧ ∃ w, R ds w ∧ o = .ok w
def eCallG {S : Type} (j : Nat) (R : S → List D → Oc D → S → Prop) (Rs : Env → DM S (List D)) : Env → DM S D := fun env s o s' => env[j]? = some .gh ∧ (Rs env).bind (fun ds => fun s o s' => R s ds o s') s o s'
section
variable {X : Cx} {G : Gh} {W : WX} {a b c e : Expr} {es : List Expr} {Rs : Env → DM G.S (List D)} {pos p : Pos} {k : Nat} {x : Str} {ps : List Str}
theorem spP_use {K : Frg} {H0 F0 F H : Hp} {env : Env} {σ : L2.St} {s s' : G.S} {vs : List V} {ds : List D} {o : Oc D} {R : List D → Oc D → Prop} {Q : VK} {E : XK} (S : Sim K G H0 F0 env σ H F s) (r : Reps K F vs ds) (h : s' = s ∧ R ds o)
    (kk : ∀ d, o = .ok d → ∀ v H' F', Ext G.fp H F H' F' → G.At s' H' F' → Rep K F' v d → Q v H') (xc : XC K G W σ H F s' o) (hE : ∀ c d H', W c d σ H' → E c d H') : spP K R vs H Q E := by
  obtain ⟨rfl, h⟩ := h
  exact ⟨F, ds, o, S.fh, r, h, fun d e v H' F' x rv => kk d e v H' F' (.of_all x) (at_all S x) rv, fun C ns es e dx fs H' F' x h1 h2 h3 => hE _ _ _ (xc C ns es e dx fs H' F' (.of_all x) (at_all S x) h1 h2 h3)⟩
theorem pd_call {R : List D → Oc D → Prop} (F : FnD X.prog X.w X.K X.mg X.base k x ps (spP X.K R)) (hr : Room k X.A) (tk : Takes X W) (ha : PAs X G W (e :: es) Rs) (hg : Gl X x := by rfl) (hdb : (x == ("__debug__" : Str)) = false := by decide)
    (he : starEach (e :: es) X.env = (false, eval e X.env) :: starEach es X.env := by rfl) (hpl : (backTo pos (starEach es X.env)).any (·.1) = false := by rfl) : PD X G W (.Call (.Name x p) (e :: es) [] pos) (eCall R Rs) := by
  obtain ⟨f, fd, hm, hk, hb, Fk⟩ := F.ex
  refine PE.imp (pe_callS Fk hr hg hm hk hb (fun σ => passAt tk σ) ha hdb he hpl) fun σ H Q ⟨H0, F0, F, env, s, o, s', S, h, kk, xc⟩ => ?_
  refine tG_bind S h xc fun ds vs H1 F1 s1 S1 e1 g1 h1 xc1 => ?_
  exact spP_use S1 g1 h1 (fun d z v H' F' x => kk d z v H' F' (e1.trans x)) xc1 fun _ _ _ z => z
theorem pf_call {R : List D → OD → Prop} (F : FnD X.prog X.w X.K X.mg X.base k x ps (spF X.K R)) (hr : Room k X.A) (tk : Takes X W) (ha : PAs X G W (e :: es) Rs) (hg : Gl X x := by rfl) (hdb : (x == ("__debug__" : Str)) = false := by decide)
    (he : starEach (e :: es) X.env = (false, eval e X.env) :: starEach es X.env := by rfl) (hpl : (backTo pos (starEach es X.env)).any (·.1) = false := by rfl) : PF X G W (.Call (.Name x p) (e :: es) [] pos) (fCall R Rs) := by
  obtain ⟨f, fd, hm, hk, hb, Fk⟩ := F.ex
  refine PE.imp (pe_callS Fk hr hg hm hk hb (fun σ => passAt tk σ) ha hdb he hpl) fun σ H Q ⟨H0, F0, F, env, s, o, s', S, h, kk, xc⟩ => ?_
  refine tG_bind S h xc fun ds vs H1 F1 s1 S1 e1 g1 h1 xc1 => ?_
  obtain ⟨rfl, w, hw, rfl⟩ := h1
  refine ⟨F1, ds, w, S1.fh, g1, hw, fun p ob H' F' x n hp fp q => kk w rfl _ H' F' (e1.trans (.of_all x)) (at_all S1 x) ⟨p, ob, rfl, ?_, hp, fp, q⟩⟩
  cases z : H p with
  | none => rfl
  | some oo => exact absurd n (e1.d p (by rw [z]; simp))
theorem pe_gh {S : Type} (gs : GhS S) (j : Nat) {x : Str} {pos : Pos} (hN : X.N[j]? = some x := by rfl) (hv : Vis X.env.scope x := by first | exact Or.inl rfl | exact Or.inr (Or.inl rfl) | exact Or.inr (Or.inr rfl)) (hd : (x == ("__debug__" : Str)) = false := by decide)
    (hcd : (x == ("__classdict__" : Str)) = false := by decide) : PE X (.Name x pos) (tVar j) := pe_var hN hv hd hcd
theorem pd_callG {ι S : Type} {mk : ι → GhS S} {i : ι} {W : WX} {Rs : Env → DM S (List D)} {R : S → List D → Oc D → S → Prop} (j : Nat) {y : Str} {py : Pos} (F : FnD X.prog X.w X.K X.mg X.base k x ps (spG mk X.K R)) (hr : Room k X.A) (tk : Takes X W)
    (ha : PAs X (mk i).g W es Rs) (hN : X.N[j]? = some y := by rfl) (hv : Vis X.env.scope y := by first | exact Or.inl rfl | exact Or.inr (Or.inl rfl) | exact Or.inr (Or.inr rfl)) (hg : Gl X x := by rfl) (hdb : (x == ("__debug__" : Str)) = false := by decide)
    (hd : (y == ("__debug__" : Str)) = false := by decide) (hcd : (y == ("__classdict__" : Str)) = false := by decide)
    (he : starEach (.Name y py :: es) X.env = (false, eval (.Name y py) X.env) :: starEach es X.env := by rfl) (hpl : (backTo pos (starEach es X.env)).any (·.1) = false := by rfl) :
    PD X (mk i).g W (.Call (.Name x p) (.Name y py :: es) [] pos) (eCallG j R Rs) := by
  obtain ⟨f, fd, hm, hk, hb, Fk⟩ := F.ex
  refine PE.imp (pe_callS Fk hr hg hm hk hb (fun σ => passAt tk σ) (pa_cons (pe_var hN hv hd hcd) ha he) hdb he hpl) fun σ H Q ⟨H0, F0, F, env, s, o, s', S, ⟨hj, h⟩, kk, xc⟩ => ?_
  obtain ⟨L, rL⟩ := S.sl
  refine ⟨_, rL.get_gh hj, ?_⟩
  refine tG_bind S h xc fun ds vs H1 F1 s1 S1 e1 g1 h1 xc1 => ?_
  exact ⟨i, F1, s1, ds, o, s', vs, rfl, S1.fh, S1.nf, S1.at_, g1, h1, fun d z v H' F' x a r => kk d z v H' F' (e1.trans x) a r, fun C ns es z dx fs H' F' x a h1 h2 h3 => xc1 C ns es z dx fs H' F' x a h1 h2 h3⟩
end
end Pl
/-! The pure layer, part 5: what is walked: lists or tuples, enumerated and zipped ones in any mix. -/
namespace Pl
open PySem PySem.Spec PyProof.Rows L2

/-! ### a list or a tuple as a source -/
def SrcAt (K : Frg) (H : Hp) (a : Addr) (xs : List V) : Bool → Prop
  | true => SqL K H a xs
  | false => SqT K H a xs
def ItAt (h : Heap) (it a : Addr) (i : Nat) : Bool → Prop
  | true => h.IsListIter it a i
  | false => h.IsTupleIter it a i
def CtAt (h : Heap) (a : Addr) (its : Array Value) : Bool → Prop
  | true => h.IsList a its
  | false => h.IsTuple a its
theorem ItAt.at {h h' : Heap} {it a : Addr} {i : Nat} {k : Bool} (x : ItAt h it a i k) (e : ∀ o, h.get? it = some o → h'.get? it = some o) : ItAt h' it a i k := by
  cases k
  · exact Heap.IsTupleIter.at x e
  · exact Heap.IsListIter.at x e
theorem ItAt.obj {h : Heap} {it a : Addr} {i : Nat} {k : Bool} (x : ItAt h it a i k) : ∃ o, h.get? it = some o ∧ ∀ v, o.data ≠ .cell v := by
  cases k
  · obtain ⟨o, e, _, d⟩ := (show h.IsTupleIter it a i from x)
    exact ⟨o, e, fun v q => by rw [d] at q; cases q⟩
  · obtain ⟨o, e, _, d⟩ := (show h.IsListIter it a i from x)
    exact ⟨o, e, fun v q => by rw [d] at q; cases q⟩
theorem SrcAt.inj {X : Cx} {pins : List (Addr × Obj)} {σ : L2.St} {H : Hp} {s : Shared} (I : Inv X pins σ H s) {a : Addr} {xs ys : List V} {k : Bool} (h : SrcAt X.K H a xs k) (h' : SrcAt X.K H a ys k) : xs = ys := by
  cases k
  · exact I.tuple_inj h h'
  · exact I.list_inj h h'
/-- what a source draws at a state -/
theorem SrcAt.draws {X : Cx} {pins : List (Addr × Obj)} {σ : L2.St} {H : Hp} {s : Shared} (I : Inv X pins σ H s) {a it : Addr} {xs : List V} {k : Bool} (h : SrcAt X.K H a xs k) (hh : X.A.handled = none) (ne : a ≠ it) :
    ∃ its : List Value, Vals xs its ∧ CtAt s.heap a its.toArray k ∧ Draws X.prog X.w X.A.in1 it [it, a] its.length (fun i v => its[i]? = some v) (fun i h => ItAt h it a i k ∧ CtAt h a its.toArray k) := by
  cases k
  · obtain ⟨its, rv, p, _⟩ := I.tuple h
    refine ⟨its, rv, p, ?_⟩
    have d := Draws.tuple (prog := X.prog) (w := X.w) (A := X.A.in1) hh it a ne its.toArray
    simpa [ItAt, CtAt] using d
  · obtain ⟨its, rv, p, _⟩ := I.list h
    refine ⟨its, rv, p.isList, ?_⟩
    have d := Draws.list (prog := X.prog) (w := X.w) (A := X.A.in1) hh it a ne its.toArray
    simpa [ItAt, CtAt] using d
theorem SrcAt.begins {X : Cx} {pins : List (Addr × Obj)} {σ : L2.St} {H : Hp} {s : Shared} (I : Inv X pins σ H s) {a : Addr} {xs : List V} {k : Bool} (h : SrcAt X.K H a xs k) :
    ∃ (o : Obj) (its : Array Value), Begins (.ref a) o (fun h => CtAt h a its k) ∧ CtAt s.heap a its k ∧ a < s.heap.objs.size ∧ ∀ (h' : Heap) (it : Addr), h'.get? it = some o → ItAt h' it a 0 k := by
  cases k
  · obtain ⟨its, rv, p, _⟩ := I.tuple h
    exact ⟨_, its.toArray, begins_tuple a its.toArray, p, p.lt, fun h' it e => ⟨_, e, rfl, rfl⟩⟩
  · obtain ⟨its, rv, p, _⟩ := I.list h
    exact ⟨_, its.toArray, begins_list a its.toArray, p.isList, p.lt, fun h' it e => ⟨_, e, rfl, rfl⟩⟩

/-! ### turns that give a new pair -/
/-- pairs of what f, g tell at each turn, n turns, while G stands -/
structure PairTurn (P : Program) (w : World) (K : Frg) (fp : List Addr) (it : Addr) (tn : Nat → Heap → Prop) (n : Nat) (f g : Nat → Option V) (Gd : Hp → Prop) : Prop where
  obj : ∀ i h, tn i h → ∀ b ∈ fp, ∃ o, h.get? b = some o ∧ ∀ v, o.data ≠ .cell v
  keep : ∀ i h h', tn i h → (∀ b ∈ fp, ∀ o, h.get? b = some o → h'.get? b = some o) → tn i h'
  mem : it ∈ fp
  self : ∀ (A : Around) (i : Nat) (s : Shared) (Q : Value → Shared → Prop) (E : Value → Shared → Prop), tn i s.heap → Q (.ref it) s → wpAny (model P w) A (pyIter (.ref it)) Q E s
  walk : ∀ (X : Cx), X.prog = P → X.w = w → X.K = K → X.calm = true → ∀ (pins : List (Addr × Obj)) (s : Shared) (σ : L2.St) (H : Hp), Inv X pins σ H s → (∀ b ∈ fp, FpOk X pins H b) → Gd H → ∀ i, tn i s.heap → i ≤ n →
    ∃ (fpW wr : List Addr) (Pt : Nat → Array Value → Prop) (St : Nat → Heap → Prop) (Mid : Nat → Addr → Heap → Prop), WalksT P w X.A it fpW wr n Pt St Mid ∧ St i s.heap ∧ (∀ b ∈ wr, b ∈ fp) ∧
      (∀ vals, i < n → Pt i vals → ∃ x y u v, vals = #[u, v] ∧ f i = some x ∧ g i = some y ∧ RelV x u ∧ RelV y v) ∧ (∀ h', St (i + 1) h' → tn (i + 1) h')
def ItP (n : Nat) (f g : Nat → Option V) (Gd : Hp → Prop) : It :=
  ⟨fun i H => i < n ∧ Gd H, fun i H v H' => ∃ T x y, v = .ref T ∧ H T = none ∧ H' = upd H T (.tup [x, y]) ∧ f i = some x ∧ g i = some y, fun i H => i = n ∧ Gd H⟩
theorem turn_pair {P : Program} {w : World} {K : Frg} {fp : List Addr} {it : Addr} {tn : Nat → Heap → Prop} {n : Nat} {f g : Nat → Option V} {Gd : Hp → Prop} {elts : List Expr} {kk : Nat} {tpos : Pos} (T : PairTurn P w K fp it tn n f g Gd) :
    Turn P w K (.Tuple elts kk tpos) (ItP n f g Gd) fp it tn where
  mem := T.mem
  obj := T.obj
  keep := T.keep
  self := T.self
  item := by
    intro X hP hw hK hc i pins s σ H E I hf st hg
    obtain ⟨hi, hG⟩ := hg
    obtain ⟨fpW, wr, Pt, St, Mid, W, st0, hwr, hv, hn⟩ := T.walk X hP hw hK hc pins s σ H I hf hG i st (Nat.le_of_lt hi)
    subst hP hw hK
    refine W.item i s _ _ hi st0 fun t vals h' tk hp ht hT hm hk => ?_
    obtain ⟨x, y, u, v, rfl, hx, hy, ru, rv⟩ := hv vals hi hp
    refine ⟨_, rfl, W.go elts kk tpos i t { s with heap := h', toks := tk } _ _ hm fun h'' st2 hk2 => ?_⟩
    have hap := W.apart i t h' hm
    obtain ⟨ob, ho, h1, m, h2⟩ := hT
    have hT2 : h''.get? t = some ob := hk2 t ob hap ho
    have new : ObjOk X.prog X.w (upd H t (.tup [x, y])) h'' t (.tup [x, y]) :=
      ⟨by show 2 ≤ sizeLine; decide, [u, v], .cons ru (.cons rv .nil), ⟨ob, hT2, h1, m, h2⟩⟩
    have I1 : Inv X pins σ (upd H t (.tup [x, y])) { s with heap := h'', toks := tk } :=
      I.turnedNew (ch := fp) (fun c o hb q => hk2 c o (fun z => hb (hwr c z)) (hk c o (fun z => hb (hwr c z)) q)) hf ht new
    refine ⟨.ref t, _, I1, rfl, ⟨t, x, y, rfl, I.hok.fresh ht, rfl, hx, hy⟩, hn h'' st2, fun b hb => ?_⟩
    have hlt : b < s.heap.objs.size := by
      obtain ⟨o, e, _⟩ := T.obj i _ st b hb
      exact Heap.lt_size e
    rw [upd_ne (Nat.ne_of_lt (Nat.lt_of_lt_of_le hlt ht))]
    exact (hf b hb).1
  done := by
    intro X hP hw hK hc i pins s σ H E I hf st hg
    obtain ⟨rfl, hG⟩ := hg
    obtain ⟨fpW, wr, Pt, St, Mid, W, st0, hwr, hv, hn⟩ := T.walk X hP hw hK hc pins s σ H I hf hG _ st (Nat.le_refl _)
    subst hP hw hK
    exact W.done s _ _ st0 fun h' tk hk => ⟨rfl, I.turnedL (t' := tk) (ch := fp) (fun c o hb q => hk c o (fun z => hb (hwr c z)) q) hf⟩

/-! ### enumerate, zip -/
theorem pair_enum {P : Program} {w : World} {K : Frg} {a e it : Addr} {xs : List V} {k : Bool} (hne : e ≠ it) (ha : a ≠ e) (hai : a ≠ it) :
    PairTurn P w K [e, it] e (fun i h => (∃ old, IsEnum h e it ((i : Nat) : Int) old) ∧ ItAt h it a i k) xs.length (fun i => some (.int (i : Nat))) (fun i => xs[i]?) (fun H => SrcAt K H a xs k) where
  mem := by simp
  obj := fun i h st b hb => by
    obtain ⟨⟨old, he⟩, hi⟩ := st
    have e' : b = e ∨ b = it := by simpa using hb
    rcases e' with z | z
    · rw [z]; exact ⟨_, he, fun v q => nomatch q⟩
    · rw [z]; exact hi.obj
  keep := fun i h h' st kp => let ⟨⟨old, he⟩, hi⟩ := st; ⟨⟨old, kp e (by simp) _ he⟩, hi.at fun o q => kp it (by simp) o q⟩
  self := fun A i s Q E st h => let ⟨⟨_, he⟩, _⟩ := st; wpAny_pyIter_enum he h
  walk := by
    intro X hP hw hK hc pins s σ H I hf hG i st hi
    subst hP hw hK
    obtain ⟨⟨old, he⟩, hit⟩ := st
    obtain ⟨its, rv, ct, d⟩ := hG.draws I (I.ok.hd hc) hai
    have W := WalksT.enumFrom 0 d e hne (by simp only [List.mem_cons, List.not_mem_nil, or_false, not_or]; exact ⟨hne, fun z => ha z.symm⟩) (by simp)
    rw [rv.length]
    refine ⟨_, _, _, _, _, W, ⟨⟨old, by simpa using he⟩, hit, ct⟩, fun b hb => hb, fun vals hi' hp => ?_, fun h' st' => ?_⟩
    · obtain ⟨t, u, hu, ev⟩ := hp
      have hx : xs[i]? ≠ none := fun z => by rw [rv.none_of z] at hu; cases hu
      cases q : xs[i]? with
      | none => exact absurd q hx
      | some x =>
        obtain ⟨u', hu', ru⟩ := rv.get q
        rw [hu'] at hu
        cases hu
        exact ⟨_, x, .int ((0 : Int) + (i : Int)) t, _, ev, rfl, rfl, ⟨t, by rw [Int.zero_add]⟩, ru⟩
    · obtain ⟨⟨old', h1⟩, h2, _⟩ := st'
      exact ⟨⟨old', by simpa using h1⟩, h2⟩
theorem pair_zip {P : Program} {w : World} {K : Frg} {a b z TI TO i1 i2 : Addr} {xs ys : List V} {k1 k2 : Bool} (S : ZipSep2 z TI TO i1 i2 [i1, a] [i2, b]) (na : a ≠ i1) (nb : b ≠ i2) :
    PairTurn P w K [z, TI, TO, i1, i2] z (fun i h => IsZip h z TI TO .none ∧ IsTupOf2 h TI (.ref i1) (.ref i2) ∧ (∃ x y, IsTupOf2 h TO x y) ∧ ItAt h i1 a i k1 ∧ ItAt h i2 b i k2) (min xs.length ys.length) (fun i => xs[i]?) (fun i => ys[i]?)
      (fun H => SrcAt K H a xs k1 ∧ SrcAt K H b ys k2) where
  mem := by simp
  obj := fun i h st c hc => by
    obtain ⟨hz, hTI, ⟨x, y, hTO⟩, h1, h2⟩ := st
    have e' : c = z ∨ c = TI ∨ c = TO ∨ c = i1 ∨ c = i2 := by simpa using hc
    rcases e' with q | q | q | q | q
    · rw [q]; exact ⟨_, hz, fun v q => nomatch q⟩
    · rw [q]; exact ⟨_, hTI, fun v q => nomatch q⟩
    · rw [q]; exact ⟨_, hTO, fun v q => nomatch q⟩
    · rw [q]; exact h1.obj
    · rw [q]; exact h2.obj
  keep := fun i h h' st kp => by
    obtain ⟨hz, hTI, ⟨x, y, hTO⟩, h1, h2⟩ := st
    exact ⟨kp z (by simp) _ hz, kp TI (by simp) _ hTI, ⟨x, y, kp TO (by simp) _ hTO⟩, h1.at fun o q => kp i1 (by simp) o q, h2.at fun o q => kp i2 (by simp) o q⟩
  self := fun A i s Q E st h => wpAny_pyIter_zip st.1 h
  walk := by
    intro X hP hw hK hc pins s σ H I hf hG i st hi
    subst hP hw hK
    obtain ⟨hz, hTI, hTO, h1, h2⟩ := st
    obtain ⟨g1, g2⟩ := hG
    obtain ⟨its, rv, ct, d⟩ := g1.draws I (I.ok.hd hc) na
    obtain ⟨its2, rv2, ct2, d2⟩ := g2.draws I (I.ok.hd hc) nb
    have W := WalksT.zipD2 S d d2
    rw [rv.length, rv2.length]
    refine ⟨_, _, _, _, _, W, ⟨hz, hTI, hTO, ⟨h1, ct⟩, ⟨h2, ct2⟩⟩, fun c hc => ?_, fun vals hi' hp => ?_, fun h' st' => ?_⟩
    · have e' : c = z ∨ c = TO ∨ c = i1 ∨ c = i2 := by simpa using hc
      simp only [List.mem_cons]
      rcases e' with q | q | q | q <;> simp [q]
    · obtain ⟨u, v, hu, hv, ev⟩ := hp
      have hx : xs[i]? ≠ none := fun z => by rw [rv.none_of z] at hu; cases hu
      have hy : ys[i]? ≠ none := fun z => by rw [rv2.none_of z] at hv; cases hv
      cases q : xs[i]? with
      | none => exact absurd q hx
      | some x =>
        cases q2 : ys[i]? with
        | none => exact absurd q2 hy
        | some y =>
          obtain ⟨u', hu', ru⟩ := rv.get q
          obtain ⟨v', hv', rv'⟩ := rv2.get q2
          rw [hu'] at hu
          rw [hv'] at hv
          cases hu; cases hv
          exact ⟨x, y, _, _, ev, rfl, rfl, ru, rv'⟩
    · obtain ⟨a1, a2, a3, ⟨a4, _⟩, a5, _⟩ := st'
      exact ⟨a1, a2, a3, a4, a5⟩
theorem meets_enum1 {v : Value} {ob : Obj} {Hd : Heap → Prop} (Bg : Begins v ob Hd) :
    Meets (Builtin.«enumerate.__new__» ⟨[.type "enumerate", v], []⟩) (fun _ R s => Hd s.heap ∧
      R (.ok (.ret (.ref (s.heap.push ob).objs.size))) { s with heap := (s.heap.push ob).push { cls := .type "enumerate", data := .fields #[.none, .bool false, .ref s.heap.objs.size, rawInt 0, .none, .none] } }) :=
  .of_wp fun prg wd Ar Rr st0 hy => by
    obtain ⟨hp, gs, dr, tk, os⟩ := st0
    obtain ⟨hd1, hy⟩ := hy
    have hsub := sub_enumerate
    have qi : ∀ {A' : Around} {E : Value → Shared → Prop} {Q : Value → Shared → Prop}, Q (.ref hp.objs.size) ⟨hp.push ob, gs, dr, tk, os⟩ → wpAny (model prg wd) A' (pyIter v) Q E ⟨hp, gs, dr, tk, os⟩ :=
      fun q => Bg.iter prg wd _ _ ⟨hp, gs, dr, tk, os⟩ _ hd1 q
    wp_walk using qi
    refine wpAny_stack_any fun stk => wpAny_pure ?_
    split
    · rename_i cl _ _ _ _ _
      cases (cl == Value.type "enumerate") <;> (wp_walk using qi; exact ⟨_, rfl, hy⟩)
    · wp_walk using qi
      exact ⟨_, rfl, hy⟩
theorem enum_begins1 {prog : Program} {w : World} {A : Around} {E : Value → Shared → Prop} {s : Shared} {v : Value} {ob : Obj} {Hd : Heap → Prop} {Q : Value → Shared → Prop} (Bg : Begins v ob Hd) (h1 : Hd s.heap)
    (hk : ∀ h', IsEnum h' (s.heap.objs.size + 1) s.heap.objs.size 0 .none → h'.get? s.heap.objs.size = some ob → h'.objs.size = s.heap.objs.size + 2 →
      (∀ b o, s.heap.get? b = some o → h'.get? b = some o) → Q (.ref (s.heap.objs.size + 1)) { s with heap := h' }) :
    wpAny (model prog w) A (call (.type "enumerate") [v]) Q E s := by
  refine callType_new F.called_enumerate (by decide) (F.typeCall_enumerate_1 _) (F.newCall_enumerate_1 _) (fun obj => F.args_object_init_2 obj _) F.entry_enumerate_new (meets_enum1 Bg) ⟨h1, ?_⟩
  have sz : (s.heap.push ob).objs.size = s.heap.objs.size + 1 := Heap.size_push ..
  show _ ∧ _
  rw [sz]
  have he : IsEnum ((s.heap.push ob).push { cls := .type "enumerate", data := .fields #[.none, .bool false, .ref s.heap.objs.size, rawInt 0, .none, .none] }) (s.heap.objs.size + 1) s.heap.objs.size 0 .none := by
    have z := Heap.get?_push_size (s.heap.push ob) (o := { cls := .type "enumerate", data := .fields #[.none, .bool false, .ref s.heap.objs.size, rawInt 0, .none, .none] }) rfl
    rw [sz] at z
    exact z
  exact ⟨⟨_, he, rfl⟩, hk _ he (Heap.get?_push_of_some _ (Heap.get?_push_size _ Bg.free)) (by rw [Heap.size_push, sz]) fun b o x => Heap.get?_push_of_some _ (Heap.get?_push_of_some _ x)⟩
def iEnumM (K : Frg) (ta : TA) : TI := fun σ H R => ta σ H fun vs H1 => ∃ a xs k, vs = [.ref a] ∧ SrcAt K H1 a xs k ∧ R (ItP xs.length (fun i => some (.int (i : Nat))) (fun i => xs[i]?) (fun H => SrcAt K H a xs k)) H1
theorem pi_enumM {X : Cx} {e : Expr} {ta : TA} {p pos tpos : Pos} {elts : List Expr} {kk : Nat} (hg : Gl X "enumerate") (hm : X.mg "enumerate" = none) (ha : PA X [e] ta) (hs : starEach [e] X.env = [(false, eval e X.env)] := by rfl) :
    PI X (.Tuple elts kk tpos) (.Call (.Name "enumerate" p) [e] [] pos) (iEnumM X.K ta) := by
  refine ⟨fun pins s σ H R I h => ?_⟩
  refine Call_ (ld_blt I hg hm boot_enumerate (PyProof.Rows.callWith_type1 (thn (ha.run pos pins s σ H _ I h) fun us s1 ⟨vs, H1, I1, r1, q1⟩ => ?_) hs rfl))
  obtain ⟨a, xs, k, ex, hq, q⟩ := q1
  subst ex
  cases r1 with
  | cons r rr =>
    cases rr
    cases r
    have go : ∀ h', IsEnum h' (s1.heap.objs.size + 1) s1.heap.objs.size 0 .none → ItAt h' s1.heap.objs.size a 0 k → a < s1.heap.objs.size → (∀ b o, s1.heap.get? b = some o → h'.get? b = some o) →
        PIE X pins σ (.Tuple elts kk tpos) R (.ref (s1.heap.objs.size + 1)) { s1 with heap := h' } := fun h' he hit hlt hk => by
      have I2 : Inv X pins σ H1 { s1 with heap := h' } := I1.kept (t' := s1.toks) hk
      refine ⟨s1.heap.objs.size + 1, [s1.heap.objs.size + 1, s1.heap.objs.size], _, _, H1, rfl, I2, turn_pair (pair_enum (Nat.succ_ne_self _) (Nat.ne_of_lt (Nat.lt_succ_of_lt hlt)) (Nat.ne_of_lt hlt)), ⟨⟨.none, he⟩, hit⟩, fun b hb => ?_, q⟩
      have e' : b = s1.heap.objs.size + 1 ∨ b = s1.heap.objs.size := by simpa using hb
      have hle : s1.heap.objs.size ≤ b := by
        rcases e' with z | z
        · rw [z]; exact Nat.le_add_right _ _
        · rw [z]; exact Nat.le_refl _
      exact I1.fpOk hle (I1.hok.fresh hle)
    obtain ⟨ob, its, Bg, ct, la, n0⟩ := hq.begins I1
    exact enum_begins1 Bg ct fun h' he hit hsz hk => wpAny_pyIter_enum he (go h' he (n0 _ _ hit) la hk)
def iZipM (K : Frg) (ta : TA) : TI := fun σ H R => ta σ H fun vs H1 => ∃ a b xs ys k1 k2, vs = [.ref a, .ref b] ∧ SrcAt K H1 a xs k1 ∧ SrcAt K H1 b ys k2 ∧
  R (ItP (min xs.length ys.length) (fun i => xs[i]?) (fun i => ys[i]?) (fun H => SrcAt K H a xs k1 ∧ SrcAt K H b ys k2)) H1
theorem pi_zipM {X : Cx} {e e2 : Expr} {ta : TA} {p pos tpos : Pos} {elts : List Expr} {kk : Nat} (hg : Gl X "zip") (hm : X.mg "zip" = none) (ha : PA X [e, e2] ta)
    (hs : starEach [e, e2] X.env = (false, eval e X.env) :: starEach [e2] X.env := by rfl) (hpl : (backTo pos (starEach [e2] X.env)).any (·.1) = false := by rfl) :
    PI X (.Tuple elts kk tpos) (.Call (.Name "zip" p) [e, e2] [] pos) (iZipM X.K ta) := by
  refine ⟨fun pins s σ H R I h => ?_⟩
  refine Call_ (ld_blt I hg hm PyProof.Rows.boot_zip (PyProof.Rows.callWith_type1 (thn (ha.run pos pins s σ H _ I h) fun us s1 ⟨vs, H1, I1, r1, q1⟩ => ?_) hs hpl))
  obtain ⟨a, b, xs, ys, k1, k2, ex, hqx, hqy, q⟩ := q1
  subst ex
  cases r1 with
  | cons r rr =>
    cases rr with
    | cons r' rr =>
      cases rr
      cases r
      cases r'
      obtain ⟨o1, its1, B1, c1, la, n1⟩ := hqx.begins I1
      obtain ⟨o2, its2, B2, c2, lb, n2⟩ := hqy.begins I1
      refine zip_begins2 B1 B2 c1 c2 fun h' hz hTI hTO h1 h2 hsz hk => wpAny_pyIter_zip hz ?_
      have I2 : Inv X pins σ H1 { s1 with heap := h' } := I1.kept (t' := s1.toks) hk
      have sep := zip_sep2 (N := s1.heap.objs.size) (fp1 := [a]) (fp2 := [b]) (fun c hc => by rw [List.mem_singleton.mp hc]; exact la) (fun c hc => by rw [List.mem_singleton.mp hc]; exact lb)
      refine ⟨s1.heap.objs.size + 4, [s1.heap.objs.size + 4, s1.heap.objs.size + 2, s1.heap.objs.size + 3, s1.heap.objs.size, s1.heap.objs.size + 1], _, _, H1, rfl, I2,
        turn_pair (pair_zip sep (Nat.ne_of_lt la) (Nat.ne_of_lt (Nat.lt_succ_of_lt lb))), ⟨hz, hTI, ⟨_, _, hTO⟩, n1 _ _ h1, n2 _ _ h2⟩, fun c hcm => ?_, q⟩
      have e' : c = s1.heap.objs.size + 4 ∨ c = s1.heap.objs.size + 2 ∨ c = s1.heap.objs.size + 3 ∨ c = s1.heap.objs.size ∨ c = s1.heap.objs.size + 1 := by simpa using hcm
      have hle : s1.heap.objs.size ≤ c := by
        rcases e' with z | z | z | z | z
        · rw [z]; exact Nat.le_add_right _ _
        · rw [z]; exact Nat.le_add_right _ _
        · rw [z]; exact Nat.le_add_right _ _
        · rw [z]; exact Nat.le_refl _
        · rw [z]; exact Nat.le_add_right _ _
      exact I1.fpOk hle (I1.hok.fresh hle)
/-- a list or a tuple itself -/
def iSeqM (K : Frg) (tl : TE) : TI := fun σ H R => tl σ H fun x H1 => ∃ a, x = .ref a ∧ ((∃ xs, SqL K H1 a xs ∧ R (Itl K a) H1) ∨ ∃ xs, SqT K H1 a xs ∧ R (Itt K a) H1)
theorem pi_seqM {X : Cx} {tg l : Expr} {tl : TE} (hl : PE X l tl) : PI X tg l (iSeqM X.K tl) := by
  refine ⟨fun pins s σ H R I h => ?_⟩
  refine thn (hl.run pins s σ H _ I h) fun v s1 ⟨x, H1, I1, r1, q1⟩ => ?_
  obtain ⟨a, ex, q1⟩ := q1
  subst ex
  cases r1
  have fin : ∀ b ∈ [s1.heap.objs.size], FpOk X pins H1 b := fun b hb => by
    rw [List.mem_singleton.mp hb]
    exact I1.fpOk (Nat.le_refl _) (I1.hok.fresh (Nat.le_refl _))
  have kp : ∀ ob : Obj, Inv X pins σ H1 { s1 with heap := s1.heap.push ob } := fun ob => I1.kept (t' := s1.toks) fun b o z => Heap.get?_push_of_some _ z
  rcases q1 with ⟨xs, hq, q⟩ | ⟨xs, hq, q⟩
  · obtain ⟨its, rv, p, hz⟩ := I1.list hq
    exact wpAny_pyIter_list p.isList ⟨_, _, _, _, H1, rfl, kp _, turn_list a _, ⟨_, Heap.get?_push_size _ rfl, rfl, rfl⟩, fin, q⟩
  · obtain ⟨its, rv, p, hz⟩ := I1.tuple hq
    exact wpAny_pyIter_tuple (show s1.heap.IsTuple a its.toArray from p) ⟨_, _, _, _, H1, rfl, kp _, turn_tuple a _, ⟨_, Heap.get?_push_size _ rfl, rfl, rfl⟩, fin, q⟩
end Pl
/-! The pure layer, part 6: walks over data, targets, comprehensions. -/
namespace Pl
open PySem PySem.Spec PyProof.Rows L2 RT

/-- J gives the data ds, one after another, wherever F stands -/
def Yields (K : Frg) (J : It) (ds : List D) (F : Hp) : Prop := ∀ i H F1, Same F F1 → Same F1 H →
  (i < ds.length → J.go i H ∧ ∀ x H', J.yld i H x H' → ∃ F2 d, Ext E00 H F1 H' F2 ∧ ds[i]? = some d ∧ Rep K F2 x d) ∧ (i = ds.length → J.stop i H)
def iD (K : Frg) (G : Gh) (W : WX) (R : Env → DM G.S (List D)) : TI := fun σ H Rc =>
  ∃ (H0 F0 F : Hp) (env : Env) (s : G.S) (o : Oc (List D)) (s' : G.S), Sim K G H0 F0 env σ H F s ∧ R env s o s' ∧
    (∀ ds, o = .ok ds → ∀ J H' F', Ext G.fp H F H' F' → G.At s' H' F' → Yields K J ds F' → Rc J H') ∧ XC K G W σ H F s' o
abbrev PID (X : Cx) (G : Gh) (W : WX) (tg iter : Expr) (R : Env → DM G.S (List D)) : Prop := PI X tg iter (iD X.K G W R)
theorem PI.imp {X : Cx} {tg iter : Expr} {t t' : TI} (p : PI X tg iter t) (h : ∀ σ H R, t' σ H R → t σ H R) : PI X tg iter t' := ⟨fun pins s σ H R I q => p.run pins s σ H R I (h σ H R q)⟩
/-- the parts, then what is walked -/
def iOf {S α : Type} (R : Env → DM S α) (f : α → Option (List D)) : Env → DM S (List D) := fun env => (R env).bind fun a => .lift (f a)

section
variable {K : Frg} {F : Hp} {a : Addr} {vs : List V} {ds : List D}
theorem yields_list (h : SqL K F a vs) (r : Reps K F vs ds) : Yields K (Itl K a) ds F := fun i H F1 s1 s2 => by
  refine ⟨fun hi => ?_, fun hi => ⟨vs, s2.seq (s1.seq h), by rw [r.len]; omega⟩⟩
  have e : ds[i]? = some ds[i] := by simp [hi]
  obtain ⟨v, hv, rv⟩ := r.get e
  refine ⟨⟨vs, v, s2.seq (s1.seq h), hv⟩, fun x H' y => ?_⟩
  obtain ⟨rfl, y⟩ := y
  have z := y vs (s2.seq (s1.seq h))
  rw [hv] at z
  cases z
  exact ⟨F1, _, Ext.refl s2, e, rv.mono s1⟩
theorem yields_tup (h : SqT K F a vs) (r : Reps K F vs ds) : Yields K (Itt K a) ds F := fun i H F1 s1 s2 => by
  refine ⟨fun hi => ?_, fun hi => ⟨vs, same_tup s2 (same_tup s1 h), by rw [r.len]; omega⟩⟩
  have e : ds[i]? = some ds[i] := by simp [hi]
  obtain ⟨v, hv, rv⟩ := r.get e
  refine ⟨⟨vs, v, same_tup s2 (same_tup s1 h), hv⟩, fun x H' y => ?_⟩
  obtain ⟨rfl, y⟩ := y
  have z := y vs (same_tup s2 (same_tup s1 h))
  rw [hv] at z
  cases z
  exact ⟨F1, _, Ext.refl s2, e, rv.mono s1⟩
theorem rev_ix {α : Type} {xs : List α} {i : Nat} (h : i < xs.length) : xs.reverse[i]? = xs[xs.length - 1 - i]? := by
  rw [List.getElem?_reverse h]
theorem yields_rev (h : SqL K F a vs) (r : Reps K F vs ds) : Yields K (Itv K a vs.length) ds.reverse F := fun i H F1 s1 s2 => by
  have hl : ds.reverse.length = ds.length := List.length_reverse
  refine ⟨fun hi => ?_, fun hi => by show vs.length ≤ i; rw [r.len]; omega⟩
  have e : ds.reverse[i]? = some ds.reverse[i] := List.getElem?_eq_getElem hi
  have e2 := rev_ix (xs := ds) (i := i) (by omega)
  rw [e] at e2
  obtain ⟨v, hv, rv⟩ := r.get e2.symm
  rw [← r.len] at hv
  refine ⟨⟨by rw [r.len]; omega, vs, v, s2.seq (s1.seq h), hv⟩, fun x H' y => ?_⟩
  obtain ⟨rfl, y⟩ := y
  have z := y vs (s2.seq (s1.seq h))
  rw [hv] at z
  cases z
  exact ⟨F1, _, Ext.refl s2, e, rv.mono s1⟩
theorem yields_revT (h : SqT K F a vs) (r : Reps K F vs ds) : Yields K (ItvT K a vs.length) ds.reverse F := fun i H F1 s1 s2 => by
  have hl : ds.reverse.length = ds.length := List.length_reverse
  refine ⟨fun hi => ?_, fun hi => by show vs.length ≤ i; rw [r.len]; omega⟩
  have e : ds.reverse[i]? = some ds.reverse[i] := List.getElem?_eq_getElem hi
  have e2 := rev_ix (xs := ds) (i := i) (by omega)
  rw [e] at e2
  obtain ⟨v, hv, rv⟩ := r.get e2.symm
  rw [← r.len] at hv
  refine ⟨⟨by rw [r.len]; omega, vs, v, same_tup s2 (same_tup s1 h), hv⟩, fun x H' y => ?_⟩
  obtain ⟨rfl, y⟩ := y
  have z := y vs (same_tup s2 (same_tup s1 h))
  rw [hv] at z
  cases z
  exact ⟨F1, _, Ext.refl s2, e, rv.mono s1⟩
def rngD (lo : Int) (n : Nat) : List D := (List.range n).map fun (i : Nat) => D.int (lo + (i : Int))
theorem rngD_get {lo : Int} {n i : Nat} (h : i < n) : (rngD lo n)[i]? = some (.int (lo + (i : Int))) := by
  unfold rngD
  rw [List.getElem?_map, List.getElem?_range h]; rfl
theorem rngD_len {lo : Int} {n : Nat} : (rngD lo n).length = n := by unfold rngD; simp
theorem yields_range {lo : Int} {n : Nat} : Yields K (Itr lo n) (rngD lo n) F := fun i H F1 s1 s2 => by
  rw [rngD_len]
  refine ⟨fun hi => ⟨hi, fun x H' y => ?_⟩, fun hi => Nat.le_of_eq hi.symm⟩
  obtain ⟨rfl, rfl⟩ := y
  exact ⟨F1, _, Ext.refl s2, rngD_get hi, .int _⟩
def rngC (lo c : Int) (n : Nat) : List D := (List.range n).map fun (i : Nat) => D.int (lo + (i : Int) * c)
theorem yields_rangeC {lo c : Int} {n : Nat} : Yields K (Itc lo c n) (rngC lo c n) F := fun i H F1 s1 s2 => by
  have hl : (rngC lo c n).length = n := by unfold rngC; simp
  rw [hl]
  refine ⟨fun hi => ⟨hi, fun x H' y => ?_⟩, fun hi => Nat.le_of_eq hi.symm⟩
  obtain ⟨rfl, rfl⟩ := y
  refine ⟨F1, .int (lo + (i : Int) * c), Ext.refl s2, ?_, .int _⟩
  unfold rngC
  rw [List.getElem?_map, List.getElem?_range hi]; rfl
def pairD (f g : Nat → Option D) (n : Nat) : List D := (List.range n).map fun (i : Nat) => D.tup [(f i).getD .non, (g i).getD .non]
theorem yields_pair {n : Nat} {f g : Nat → Option V} {fd gd : Nat → Option D} {Gd : Hp → Prop} (hG : ∀ H F1, Same F F1 → Same F1 H → Gd H)
    (hf : ∀ i x, f i = some x → ∃ d, fd i = some d ∧ Rep K F x d) (hg : ∀ i x, g i = some x → ∃ d, gd i = some d ∧ Rep K F x d) : Yields K (ItP n f g Gd) (pairD fd gd n) F := fun i H F1 s1 s2 => by
  have hl : (pairD fd gd n).length = n := by unfold pairD; simp
  rw [hl]
  refine ⟨fun hi => ⟨⟨hi, hG H F1 s1 s2⟩, fun x H' y => ?_⟩, fun hi => ⟨hi, hG H F1 s1 s2⟩⟩
  obtain ⟨T, u, v, rfl, nT, rfl, hu, hv⟩ := y
  obtain ⟨d, hd, rd⟩ := hf i u hu
  obtain ⟨e, he, re⟩ := hg i v hv
  have E := Ext.new (fp := E00) (HO.tup [u, v]) s2 nT
  refine ⟨_, .tup [d, e], E, ?_, .tup upd_same (.cons ((rd.mono s1).mono E.f) (.cons ((re.mono s1).mono E.f) .nil))⟩
  unfold pairD
  rw [List.getElem?_map, List.getElem?_range hi]
  simp [hd, he]
end
/-- enumerate, zip on data -/
def enumD (ds : List D) : List D := pairD (fun i => some (.int (i : Nat))) (fun i => ds[i]?) ds.length
def zipD (ds es : List D) : List D := pairD (fun i => ds[i]?) (fun i => es[i]?) (min ds.length es.length)
theorem enumD_len (ds : List D) : (enumD ds).length = ds.length := by unfold enumD pairD; simp
theorem zipD_len (ds es : List D) : (zipD ds es).length = min ds.length es.length := by unfold zipD pairD; simp
theorem enumD_get {ds : List D} {i : Nat} {d : D} (h : ds[i]? = some d) : (enumD ds)[i]? = some (.tup [.int (i : Nat), d]) := by
  have hi : i < ds.length := (List.getElem?_eq_some_iff.mp h).1
  unfold enumD pairD
  rw [List.getElem?_map, List.getElem?_range hi]
  simp [h]
theorem zipD_get {ds es : List D} {i : Nat} {d e : D} (h : ds[i]? = some d) (h' : es[i]? = some e) : (zipD ds es)[i]? = some (.tup [d, e]) := by
  have hi : i < ds.length := (List.getElem?_eq_some_iff.mp h).1
  have hi' : i < es.length := (List.getElem?_eq_some_iff.mp h').1
  unfold zipD pairD
  rw [List.getElem?_map, List.getElem?_range (by omega)]
  simp [h, h']

/-- the source of an enumerate or zip -/
theorem Rep.src {K : Frg} {F H : Hp} {v : V} {d : D} {ds : List D} (sm : Same F H) (r : Rep K F v d) (h : itemsD d = some ds) : ∃ a vs k, v = .ref a ∧ SrcAt K F a vs k ∧ SrcAt K H a vs k ∧ Reps K F vs ds := by
  obtain ⟨a, vs, rfl, hs, rs⟩ := r.items h
  rcases hs with hs | hs
  · exact ⟨a, vs, true, rfl, hs, sm.seq hs, rs⟩
  · exact ⟨a, vs, false, rfl, hs, same_tup sm hs, rs⟩
theorem SrcAt.mono {K : Frg} {F H : Hp} {a : Addr} {vs : List V} {k : Bool} (sm : Same F H) (h : SrcAt K F a vs k) : SrcAt K H a vs k := by
  cases k
  · exact same_tup sm h
  · exact sm.seq h
theorem Reps.fn {K : Frg} {F : Hp} {vs : List V} {ds : List D} (r : Reps K F vs ds) : ∀ (i : Nat) (x : V), vs[i]? = some x → ∃ d, ds[i]? = some d ∧ Rep K F x d := fun i x h => r.getV h
def itEnum : List D → Option (List D)
  | [d] => (itemsD d).map enumD
  | _ => none
def itZip : List D → Option (List D)
  | [d, e] => (itemsD d).bind fun ds => (itemsD e).map fun es => zipD ds es
  | _ => none
def itR1 : List D → Option (List D)
  | [.int j] => if -(2 ^ 62) ≤ j ∧ j < 2 ^ 62 then some (rngD 0 j.toNat) else none
  | _ => none
def itR2 : List D → Option (List D)
  | [.int i, .int j] => if -(2 ^ 62) ≤ i ∧ i < 2 ^ 62 ∧ -(2 ^ 62) ≤ j ∧ j < 2 ^ 62 then some (rngD i (j - i).toNat) else none
  | _ => none
section
variable {X : Cx} {G : Gh} {W : WX} {tg a b e : Expr} {es elts : List Expr} {R : Env → DM G.S D} {Rs : Env → DM G.S (List D)} {pos p tpos : Pos} {kk : Nat}
theorem pid_seq (h : PD X G W e R) : PID X G W tg e (iOf R itemsD) := PI.imp (pi_seqM h) fun σ H Rc ⟨H0, F0, F, env, s, o, s', S, h, k, xc⟩ => by
  refine tG_bind S h xc fun d v H1 F1 s1 S1 e1 g1 h1 xc1 => ?_
  obtain ⟨rfl, ds, hd, rfl⟩ := h1
  obtain ⟨a, vs, rfl, hs, rs⟩ := Rep.items g1 hd
  rcases hs with hs | hs
  · exact ⟨a, rfl, .inl ⟨vs, S1.fh.seq hs, k ds rfl _ H1 F1 e1 S1.at_ (yields_list hs rs)⟩⟩
  · exact ⟨a, rfl, .inr ⟨vs, same_tup S1.fh hs, k ds rfl _ H1 F1 e1 S1.at_ (yields_tup hs rs)⟩⟩
theorem pid_rev (hm : X.mg "reversed" = none) (h : PD X G W e R) (hg : Gl X "reversed" := by rfl) (hs : starEach [e] X.env = (false, eval e X.env) :: starEach [] X.env := by rfl) :
    PID X G W tg (.Call (.Name "reversed" p) [e] [] pos) (iOf R fun d => (itemsD d).map List.reverse) := PI.imp (pi_revA hg hm h hs) fun σ H Rc ⟨H0, F0, F, env, s, o, s', S, h, k, xc⟩ => by
  refine tG_bind S h xc fun d v H1 F1 s1 S1 e1 g1 h1 xc1 => ?_
  obtain ⟨rfl, ds, hd, rfl⟩ := h1
  obtain ⟨es, he, rfl⟩ := Option.map_eq_some_iff.mp hd
  obtain ⟨a, vs, rfl, hs, rs⟩ := Rep.items g1 he
  rcases hs with hs | hs
  · exact ⟨a, vs, rfl, .inl ⟨S1.fh.seq hs, k _ rfl _ H1 F1 e1 S1.at_ (yields_rev hs rs)⟩⟩
  · exact ⟨a, vs, rfl, .inr ⟨same_tup S1.fh hs, k _ rfl _ H1 F1 e1 S1.at_ (yields_revT hs rs)⟩⟩
theorem pid_range1 (hm : X.mg "range" = none) (h : PAs X G W [a] Rs) (hg : Gl X "range" := by rfl) (hs : starEach [a] X.env = [(false, eval a X.env)] := by rfl) : PID X G W tg (.Call (.Name "range" p) [a] [] pos) (iOf Rs itR1) :=
  PI.imp (pi_range1 hg hm h hs) fun σ H Rc ⟨H0, F0, F, env, s, o, s', S, h, k, xc⟩ => by
    refine tG_bind S h xc fun ds vs H1 F1 s1 S1 e1 g1 h1 xc1 => ?_
    obtain ⟨rfl, xs, hx, rfl⟩ := h1
    unfold itR1 at hx
    split at hx
    · split at hx
      · rename_i j c
        cases hx
        obtain ⟨v, rfl, hv⟩ := Reps.one g1
        cases hv
        exact ⟨j, rfl, c.1, c.2, k _ rfl _ H1 F1 e1 S1.at_ yields_range⟩
      · cases hx
    · cases hx
theorem pid_range2 (hm : X.mg "range" = none) (h : PAs X G W [a, b] Rs) (hg : Gl X "range" := by rfl) (hs : starEach [a, b] X.env = [(false, eval a X.env), (false, eval b X.env)] := by rfl) (hs2 : starEach [b] X.env = [(false, eval b X.env)] := by rfl) :
    PID X G W tg (.Call (.Name "range" p) [a, b] [] pos) (iOf Rs itR2) := PI.imp (pi_range2 hg hm h hs hs2) fun σ H Rc ⟨H0, F0, F, env, s, o, s', S, h, k, xc⟩ => by
    refine tG_bind S h xc fun ds vs H1 F1 s1 S1 e1 g1 h1 xc1 => ?_
    obtain ⟨rfl, xs, hx, rfl⟩ := h1
    unfold itR2 at hx
    split at hx
    · split at hx
      · rename_i i j c
        cases hx
        obtain ⟨v, w, rfl, hv, hw⟩ := Reps.two g1
        cases hv; cases hw
        exact ⟨i, j, rfl, c, k _ rfl _ H1 F1 e1 S1.at_ yields_range⟩
      · cases hx
    · cases hx
theorem pid_enum (hm : X.mg "enumerate" = none) (h : PAs X G W [e] Rs) (hg : Gl X "enumerate" := by rfl) (hs : starEach [e] X.env = [(false, eval e X.env)] := by rfl) :
    PID X G W (.Tuple elts kk tpos) (.Call (.Name "enumerate" p) [e] [] pos) (iOf Rs itEnum) := PI.imp (pi_enumM hg hm h hs) fun σ H Rc ⟨H0, F0, F, env, s, o, s', S, h, k, xc⟩ => by
    refine tG_bind S h xc fun ds vs H1 F1 s1 S1 e1 g1 h1 xc1 => ?_
    obtain ⟨rfl, xs, hx, rfl⟩ := h1
    unfold itEnum at hx
    split at hx
    · obtain ⟨es, he, rfl⟩ := Option.map_eq_some_iff.mp hx
      obtain ⟨v, rfl, hv⟩ := Reps.one g1
      obtain ⟨a, ws, kd, rfl, hF, hH, rs⟩ := Rep.src S1.fh hv he
      refine ⟨a, ws, kd, rfl, hH, k _ rfl _ H1 F1 e1 S1.at_ ?_⟩
      have y := yields_pair (K := X.K) (F := F1) (n := ws.length) (f := fun i => some (.int (i : Nat))) (g := fun i => ws[i]?) (fd := fun i => some (.int (i : Nat))) (gd := fun i => es[i]?) (Gd := fun H => SrcAt X.K H a ws kd)
        (fun H' F2 s1 s2 => (hF.mono s1).mono s2) (fun i x hx => by cases hx; exact ⟨_, rfl, .int _⟩) rs.fn
      rw [rs.len] at y ⊢
      exact y
    · cases hx
theorem pid_zip (hm : X.mg "zip" = none) (h : PAs X G W [a, b] Rs) (hg : Gl X "zip" := by rfl) (hs : starEach [a, b] X.env = (false, eval a X.env) :: starEach [b] X.env := by rfl) (hpl : (backTo pos (starEach [b] X.env)).any (·.1) = false := by rfl) :
    PID X G W (.Tuple elts kk tpos) (.Call (.Name "zip" p) [a, b] [] pos) (iOf Rs itZip) := PI.imp (pi_zipM hg hm h hs hpl) fun σ H Rc ⟨H0, F0, F, env, s, o, s', S, h, k, xc⟩ => by
    refine tG_bind S h xc fun ds vs H1 F1 s1 S1 e1 g1 h1 xc1 => ?_
    obtain ⟨rfl, xs, hx, rfl⟩ := h1
    unfold itZip at hx
    split at hx
    · obtain ⟨es, he, hx⟩ := Option.bind_eq_some_iff.mp hx
      obtain ⟨es2, he2, rfl⟩ := Option.map_eq_some_iff.mp hx
      obtain ⟨v, w, rfl, hv, hw⟩ := Reps.two g1
      obtain ⟨a, ws, kd, rfl, hF, hH, rs⟩ := Rep.src S1.fh hv he
      obtain ⟨b, ws2, kd2, rfl, hF2, hH2, rs2⟩ := Rep.src S1.fh hw he2
      refine ⟨a, b, ws, ws2, kd, kd2, rfl, hH, hH2, k _ rfl _ H1 F1 e1 S1.at_ ?_⟩
      have y := yields_pair (K := X.K) (F := F1) (n := min ws.length ws2.length) (f := fun i => ws[i]?) (g := fun i => ws2[i]?) (fd := fun i => es[i]?) (gd := fun i => es2[i]?) (Gd := fun H => SrcAt X.K H a ws kd ∧ SrcAt X.K H b ws2 kd2)
        (fun H' F2 s1 s2 => ⟨(hF.mono s1).mono s2, (hF2.mono s1).mono s2⟩) rs.fn rs2.fn
      rw [rs.len, rs2.len] at y ⊢
      exact y
    · cases hx
end

/-! ### targets -/
/-- the slots that a target stores -/
inductive TP where
  | nm (i : Nat)
  | tp (ts : List TP)
mutual
def TP.put : TP → D → Env → Option Env
  | .nm i, d, env => some (env.set i (.fz d))
  | .tp ts, .tup ds, env => TP.puts ts ds env
  | .tp ts, .lst ds, env => TP.puts ts ds env
  | .tp _, _, _ => none
def TP.puts : List TP → List D → Env → Option Env
  | [], [], env => some env
  | t :: ts, d :: ds, env => (t.put d env).bind fun e => TP.puts ts ds e
  | _, _, _ => none
end
mutual
def TP.slots : TP → List Nat
  | .nm i => [i]
  | .tp ts => TP.slotss ts
def TP.slotss : List TP → List Nat
  | [] => []
  | t :: ts => t.slots ++ TP.slotss ts
end
/-- σ' is σ but at some slots -/
def But (is : List Nat) (σ σ' : L2.St) : Prop := σ'.length = σ.length ∧ ∀ j, j ∉ is → σ'[j]? = σ[j]?
theorem But.refl (is : List Nat) (σ : L2.St) : But is σ σ := ⟨rfl, fun _ _ => rfl⟩
theorem But.trans {is js : List Nat} {σ σ1 σ2 : L2.St} (a : But is σ σ1) (b : But js σ1 σ2) : But (is ++ js) σ σ2 :=
  ⟨b.1.trans a.1, fun j h => (b.2 j fun z => h (List.mem_append_right _ z)).trans (a.2 j fun z => h (List.mem_append_left _ z))⟩
theorem But.set (i : Nat) (v : Option V) (σ : L2.St) : But [i] σ (σ.set i v) := ⟨by simp, fun j h => by rw [List.getElem?_set_ne (fun z => h (by simp [z]))]⟩
theorem But.mono {is js : List Nat} {σ σ' : L2.St} (a : But is σ σ') (h : ∀ i ∈ is, i ∈ js) : But js σ σ' := ⟨a.1, fun j hj => a.2 j fun z => hj (h j z)⟩
theorem wipe_get_other {σ : L2.St} {j : Nat} : ∀ {vs : List Nat}, j ∉ vs → (wipe σ vs)[j]? = σ[j]?
  | [], _ => rfl
  | v :: vs, h => by
    show ((wipe σ vs).set v none)[j]? = _
    rw [List.getElem?_set_ne (fun z => h (by simp [z]))]
    exact wipe_get_other fun z => h (List.mem_cons_of_mem _ z)
theorem wipe_get_in {σ : L2.St} {j : Nat} : ∀ {vs : List Nat}, j ∈ vs → j < σ.length → (wipe σ vs)[j]? = some none
  | v :: vs, h, hl => by
    show ((wipe σ vs).set v none)[j]? = _
    by_cases c : v = j
    · subst c
      rw [List.getElem?_set_self (by rw [wipe_length]; exact hl)]
    · rw [List.getElem?_set_ne c]
      exact wipe_get_in ((List.mem_cons.mp h).resolve_left fun z => c z.symm) hl
theorem wipe_but {is vs : List Nat} {σ σ' : L2.St} (b : But is σ σ') (h : ∀ i ∈ is, i ∈ vs) : wipe σ' vs = wipe σ vs := by
  apply List.ext_getElem?
  intro j
  by_cases c : j ∈ vs
  · by_cases l : j < σ.length
    · rw [wipe_get_in c l, wipe_get_in c (by rw [b.1]; exact l)]
    · have hb := b.1
      rw [List.getElem?_eq_none (by rw [wipe_length]; omega), List.getElem?_eq_none (by rw [wipe_length]; omega)]
  · rw [wipe_get_other c, wipe_get_other c]
    exact b.2 j fun z => c (h j z)
theorem wipe_wipe (σ : L2.St) (vs : List Nat) : wipe (wipe σ vs) vs = wipe σ vs := by
  apply List.ext_getElem?
  intro j
  by_cases c : j ∈ vs
  · by_cases l : j < σ.length
    · rw [wipe_get_in c l, wipe_get_in c (by rw [wipe_length]; exact l)]
    · rw [List.getElem?_eq_none (by rw [wipe_length, wipe_length]; omega), List.getElem?_eq_none (by rw [wipe_length]; omega)]
  · rw [wipe_get_other c]
def wipeE (env : Env) : List Nat → Env
  | [] => env
  | v :: vs => (wipeE env vs).set v .no
theorem Sim.wipe {K : Frg} {G : Gh} {H0 F0 F H : Hp} {env : Env} {σ : L2.St} {s : G.S} (S : Sim K G H0 F0 env σ H F s) : ∀ vs : List Nat, Sim K G H0 F0 (wipeE env vs) (L2.wipe σ vs) H F s
  | [] => S
  | v :: vs => (Sim.wipe S vs).set_no v

theorem puts_len : ∀ {ts : List TP} {ds : List D} {env env' : Env}, TP.puts ts ds env = some env' → ds.length = ts.length
  | [], [], _, _, _ => rfl
  | [], _ :: _, _, _, h => by simp [TP.puts] at h
  | _ :: _, [], _, _, h => by simp [TP.puts] at h
  | t :: ts, d :: ds, env, env', h => by
    have h' : (t.put d env).bind (fun e => TP.puts ts ds e) = some env' := h
    obtain ⟨e1, h3, h4⟩ := Option.bind_eq_some_iff.mp h'
    exact congrArg (· + 1) (puts_len h4)
/-- storing a datum by a target, read as data -/
def gD (K : Frg) (G : Gh) (t : TP) : TG := fun v σ H Q => ∃ (H0 F0 F : Hp) (env : Env) (s : G.S) (d : D) (env' : Env), Sim K G H0 F0 env σ H F s ∧ Rep K F v d ∧ t.put d env = some env' ∧
  ∀ σ', (∀ H' F' s', Same F F' → Sim K G H0 F0 env σ H' F' s' → Sim K G H0 F0 env' σ' H' F' s') → But t.slots σ σ' → Q σ' H
def gDs (K : Frg) (G : Gh) (ts : List TP) : TGs := fun vs σ H Q => ∃ (H0 F0 F : Hp) (env : Env) (s : G.S) (ds : List D) (env' : Env), Sim K G H0 F0 env σ H F s ∧ Reps K F vs ds ∧ TP.puts ts ds env = some env' ∧
  ∀ σ', (∀ H' F' s', Same F F' → Sim K G H0 F0 env σ H' F' s' → Sim K G H0 F0 env' σ' H' F' s') → But (TP.slotss ts) σ σ' → Q σ' H
theorem PG.imp {X : Cx} {tg : Expr} {t t' : TG} (p : PG X tg t) (h : ∀ v σ H Q, t' v σ H Q → t v σ H Q) : PG X tg t' := ⟨fun pins s σ H v u Q I r q => p.run pins s σ H v u Q I r (h v σ H Q q)⟩
theorem PGs.imp {X : Cx} {tg : List Expr} {t t' : TGs} (p : PGs X tg t) (h : ∀ v σ H Q, t' v σ H Q → t v σ H Q) : PGs X tg t' := ⟨fun pins s σ H v u Q I r q => p.run pins s σ H v u Q I r (h v σ H Q q)⟩
section
variable {X : Cx} {G : Gh} {es : List Expr} {e : Expr} {t : TP} {ts : List TP} {pos : Pos} {k : Nat}
theorem pgd_name {i : Nat} {x : Str} (hN : X.N.Nodup) (hi : X.N[i]? = some x := by rfl) (hx : Loc X.env.scope x := by first | exact Or.inl rfl | exact Or.inr rfl)
    (hf : X.fn x = true ∨ X.env.scope.names.lookup x = some .local := by first | exact .inl rfl | exact .inr rfl) : PG X (.Name x pos) (gD X.K G (.nm i)) :=
  PG.imp (pg_name hN hi hx hf) fun v σ H Q ⟨H0, F0, F, env, s, d, env', S, r, hp, q⟩ => by
    have e : some (env.set i (.fz d)) = some env' := hp
    cases e
    exact q _ (fun H' F' s' sF S' => S'.set_fz i (r.mono sF)) (But.set _ _ _)
theorem pgsd_nil : PGs X [] (gDs X.K G []) := PGs.imp pgs_nil fun vs σ H Q ⟨H0, F0, F, env, s, ds, env', S, r, hp, q⟩ => by
  cases ds with
  | nil =>
    cases r
    have e : some env = some env' := hp
    cases e
    exact ⟨rfl, q σ (fun _ _ _ _ S' => S') (But.refl _ _)⟩
  | cons d ds => simp [TP.puts] at hp
theorem pgsd_cons (h1 : PG X e (gD X.K G t)) (h2 : PGs X es (gDs X.K G ts)) (hs : (assignEach (e :: es) X.env).map (·.2) = assign e X.env :: (assignEach es X.env).map (·.2) := by rfl) : PGs X (e :: es) (gDs X.K G (t :: ts)) := PGs.imp (pgs_cons h1 h2 hs) fun vs σ H Q ⟨H0, F0, F, env, s, ds, env', S, r, hp, q⟩ => by
  cases ds with
  | nil => simp [TP.puts] at hp
  | cons d ds =>
    cases r with
    | cons hv r =>
      have hp' : (t.put d env).bind (fun e => TP.puts ts ds e) = some env' := hp
      obtain ⟨e1, h3, h4⟩ := Option.bind_eq_some_iff.mp hp'
      refine ⟨_, _, rfl, ⟨H0, F0, F, env, s, d, e1, S, hv, h3, fun σ1 S1 b1 => ⟨H0, F0, F, e1, s, ds, env', S1 H F s (Same.refl F) S, r, h4, fun σ2 S2 b2 => q σ2 (fun H' F' s' sF S' => S2 H' F' s' sF (S1 H' F' s' sF S')) (b1.trans b2)⟩⟩⟩
theorem pgd_tup (hc : X.calm = true) (h : PGs X es (gDs X.K G ts)) (hl : (assignEach es X.env).length = ts.length := by rfl) (hst : (assignEach es X.env).findIdx? (·.1) = none := by rfl) : PG X (.Tuple es k pos) (gD X.K G (.tp ts)) := by
  have A := pg_tup (k := k) (pos := pos) hc h hl hst
  have B := pg_lst (k := k) (pos := pos) hc h hl hst
  refine ⟨fun pins s σ H v u Q I r hq => ?_⟩
  obtain ⟨H0, F0, F, env, s', d, env', S, rd, hp, q⟩ := hq
  have fin : ∀ (vs : List V) (ds : List D), Reps X.K F vs ds → TP.puts ts ds env = some env' → vs.length = ts.length ∧ gDs X.K G ts vs σ H Q := fun vs ds r h => by
    refine ⟨?_, H0, F0, F, env, s', ds, env', S, r, h, q⟩
    rw [r.len]
    exact puts_len h
  cases rd with
  | tup e r' =>
    obtain ⟨hl', z⟩ := fin _ _ r' hp
    exact A.run pins s σ H _ u Q I r ⟨_, _, rfl, SqT.of (S.fh _ _ e), hl', z⟩
  | lst e r' =>
    obtain ⟨hl', z⟩ := fin _ _ r' hp
    exact B.run pins s σ H _ u Q I r ⟨_, _, rfl, SqL.of (S.fh _ _ e), hl', z⟩
  | _ => cases hp
end
end Pl
/-! The pure layer, part 7: list comprehensions. -/
namespace Pl
open PySem PySem.Spec PyProof.Rows L2

/-- what a walk gathers: step tells what an item gives -/
def Coll {S : Type} (step : D → DM S (List D)) : List D → S → List D → S → Prop
  | [], s, out, s' => out = [] ∧ s' = s
  | d :: ds, s, out, s' => ∃ ys s1 rest, step d s (.ok ys) s1 ∧ Coll step ds s1 rest s' ∧ out = ys ++ rest
theorem Coll.nil {S : Type} {step : D → DM S (List D)} {s : S} : Coll step [] s [] s := ⟨rfl, rfl⟩
theorem Coll.cons {S : Type} {step : D → DM S (List D)} {d : D} {ds ys rest : List D} {s s1 s' : S} (h : step d s (.ok ys) s1) (r : Coll step ds s1 rest s') : Coll step (d :: ds) s (ys ++ rest) s' := ⟨ys, s1, rest, h, r, rfl⟩
/-- where nothing of the state changes -/
theorem Coll.pure {S : Type} {step : D → DM S (List D)} {s : S} {f : D → List D} : ∀ {ds : List D}, (∀ d ∈ ds, step d s (.ok (f d)) s) → Coll step ds s (ds.flatMap f) s
  | [], _ => ⟨rfl, rfl⟩
  | d :: ds, h => ⟨f d, s, ds.flatMap f, h d List.mem_cons_self, Coll.pure fun e he => h e (List.mem_cons_of_mem _ he), by rw [List.flatMap_cons]⟩
/-- one item of a comprehension with one for -/
def cStep {S : Type} (t : TP) (Tt : Env → DM S Bool) (Re : Env → DM S D) (env : Env) : D → DM S (List D) := fun d => match t.put d env with
  | some env1 => (Tt env1).bind fun c => if c = true then (Re env1).bind fun y => .ret [y] else .ret []
  | none => fun _ _ _ => False
/-- .. with two -/
def cStep2 {S : Type} (t : TP) (Tt : Env → DM S Bool) (Ri : Env → DM S (List D)) (t1 : TP) (vs1 : List Nat) (Tt1 : Env → DM S Bool) (Re : Env → DM S D) (env : Env) : D → DM S (List D) := fun d => match t.put d env with
  | some env1 => (Tt env1).bind fun c => if c = true then (Ri env1).bind fun ds => fun s o s' => ∃ out, Coll (cStep t1 Tt1 Re (wipeE env1 vs1)) ds s out s' ∧ o = .ok out else .ret []
  | none => fun _ _ _ => False
def bYes {S : Type} : Env → DM S Bool := fun _ => .ret true
def fLc {S : Type} (Ri : Env → DM S (List D)) (step : Env → D → DM S (List D)) (vs : List Nat) : Env → DM S OD := fun env => (Ri env).bind fun ds => fun s o s' => ∃ out, Coll (step (wipeE env vs)) ds s out s' ∧ out.length ≤ sizeLine ∧ o = .ok (.lst out)

/-- the list that grows at D, from the heap H1 on in which D was free -/
structure Grows (K : Frg) (G : Gh) (H1 F1 : Hp) (D : Addr) (H F : Hp) (s : G.S) (acc : List Pl.D) : Prop where
  ext : Ext G.fp H1 F1 H F
  at_ : G.At s H F
  fz : F D = none
  ls : ∃ vs, H D = some (.lst vs) ∧ Reps K F vs acc
theorem Ext.upd_new {fp : Addr → Prop} {H1 F1 H F : Hp} {D : Addr} {o : HO} (e : Ext fp H1 F1 H F) (n : H1 D = none) (f : F D = none) : Ext fp H1 F1 (upd H D o) F where
  h := fun p u nf z => by rw [upd_ne (ne_of_none z n)]; exact e.h p u nf z
  d := fun p z => by
    by_cases c : p = D
    · rw [c, upd_same]; simp
    · rw [upd_ne c]; exact e.d p z
  f := e.f
  fh := fun p u z => by rw [upd_ne (ne_of_none z f)]; exact e.fh p u z
  n := e.n
section
variable {K : Frg} {G : Gh} {H1 F1 : Hp} {D : Addr}
theorem Grows.step {H F H' F' : Hp} {s s' : G.S} {acc : List Pl.D} (g : Grows K G H1 F1 D H F s acc) (nfp : ¬ G.fp D) (e : Ext G.fp H F H' F') (a : G.At s' H' F') : Grows K G H1 F1 D H' F' s' acc := by
  obtain ⟨vs, h1, h2⟩ := g.ls
  exact ⟨g.ext.trans e, a, e.n D (by rw [h1]; simp) g.fz, vs, e.h _ _ nfp h1, h2.mono e.f⟩
theorem Grows.app {H F : Hp} {s : G.S} {acc : List Pl.D} {v : V} {d : Pl.D} (g : Grows K G H1 F1 D H F s acc) (n : H1 D = none) (nfp : ¬ G.fp D) (r : Rep K F v d) :
    ∃ vs, H D = some (.lst vs) ∧ vs.length = acc.length ∧ Grows K G H1 F1 D (upd H D (.lst (vs ++ [v]))) F s (acc ++ [d]) := by
  obtain ⟨vs, h1, h2⟩ := g.ls
  exact ⟨vs, h1, h2.len, g.ext.upd_new n g.fz, G.loc s H _ (fun p hp => upd_ne fun c => nfp (c ▸ hp)) (fun p φ z => by rw [upd_ne (fun c => by rw [c, h1] at z; cases z)]; exact z) (Same.refl F) g.at_, g.fz, _, upd_same, h2.app (.cons r .nil)⟩
/-- the loop of a comprehension: the body at an item brings its step's things to the list -/
theorem comp_loop (Fs : Hp) {J : It} {step : Pl.D → DM G.S (List Pl.D)} {body : V → Hp → (Hp → Prop) → Prop} (nfp : ¬ G.fp D) {total : Nat} (Ht : total ≤ sizeLine)
    (hb : ∀ (x : V) (d : Pl.D) (H F : Hp) (s : G.S) (acc ys : List Pl.D) (s2 : G.S) (Nx : Hp → Prop), Same Fs F → Grows K G H1 F1 D H F s acc → Rep K F x d → step d s (.ok ys) s2 → acc.length + ys.length ≤ total →
      (∀ H' F', Same F F' → Grows K G H1 F1 D H' F' s2 (acc ++ ys) → Nx H') → body x H Nx)
    {ds : List Pl.D} {F0 : Hp} (hy : Yields K J ds F0) : ∀ {H F : Hp} {s s' : G.S} {acc out : List Pl.D} {Q : Hp → Prop}, Same Fs F → Same F0 F → Grows K G H1 F1 D H F s acc → Coll step ds s out s' → acc.length + out.length ≤ total →
      (∀ H' F', Same F F' → Grows K G H1 F1 D H' F' s' (acc ++ out) → Q H') →
      ∃ Wv : Nat → Nat → Hp → Prop, (∃ m, Wv 0 m H) ∧ ∀ i m H, Wv i m H → (J.stop i H ∧ Q H) ∨ (J.go i H ∧ ∃ Nx : Hp → Prop, (∀ H', Nx H' → ∃ m', m' < m ∧ Wv (i + 1) m' H') ∧ ∀ x H', J.yld i H x H' → body x H' Nx) := by
  intro H F s s' acc out Q sB sF g hc hlen hQ
  refine ⟨fun i m H => m + i = ds.length ∧ ∃ Fi si acci rest, Same F Fi ∧ Grows K G H1 F1 D H Fi si acci ∧ Coll step (ds.drop i) si rest s' ∧ acc ++ out = acci ++ rest, ⟨ds.length, rfl, F, s, acc, out, Same.refl F, g, hc, rfl⟩, ?_⟩
  rintro i m H ⟨hm, Fi, si, acci, rest, sFi, g, hc, he⟩
  obtain ⟨y1, y2⟩ := hy i H Fi (sF.trans sFi) g.ext.fh
  by_cases hi : i < ds.length
  · obtain ⟨go, yl⟩ := y1 hi
    have e : ds.drop i = ds[i] :: ds.drop (i + 1) := List.drop_eq_getElem_cons hi
    rw [e] at hc
    obtain ⟨ys, s1, rest', h1, h2, rfl⟩ := hc
    refine .inr ⟨go, fun H' => ∃ F', Same F F' ∧ Grows K G H1 F1 D H' F' s1 (acci ++ ys), fun H' ⟨F', sF', g'⟩ => ⟨m - 1, by omega, by omega, F', s1, _, rest', sF', g', h2, by rw [he, List.append_assoc]⟩, fun x H' y => ?_⟩
    obtain ⟨F2, d, E, hd, r⟩ := yl x H' y
    have hd' : ds[i] = d := by rw [List.getElem?_eq_getElem hi] at hd; exact Option.some.inj hd
    have at2 : G.At si H' F2 := G.loc si H H' (fun p hp => by
      have h1 := G.dom si H p g.at_ hp
      cases q : H p with
      | none => exact absurd q h1
      | some o => exact E.same p o q) (fun p φ z => E.same p _ z) E.f g.at_
    have g2 := g.step nfp (.of_all E) at2
    have hl : acci.length + ys.length ≤ total := by
      have z := congrArg List.length he
      simp only [List.length_append] at z
      omega
    exact hb x d H' F2 si acci ys s1 _ ((sB.trans sFi).trans E.f) g2 r (by rw [← hd']; exact h1) hl fun H'' F'' sF2 g'' => ⟨F'', (sFi.trans E.f).trans sF2, g''⟩
  · have hi' : i = ds.length := by omega
    subst hi'
    rw [List.drop_length] at hc
    obtain ⟨rfl, rfl⟩ := hc
    rw [List.append_nil] at he
    exact .inl ⟨y2 rfl, hQ H Fi sFi (by rw [he]; exact g)⟩
end

section
variable {X : Cx} {G : Gh} {W : WX} {elt tg iter tg1 iter1 : Expr} {ifs ifs1 : List Expr} {scope : Scope} {own : List (Str × Nat)} {vs1 : List Nat} {pos : Pos} {Ri Ri1 : Env → DM G.S (List D)} {t t1 : TP} {Tt Tt1 : Env → DM G.S Bool} {Re : Env → DM G.S D}
abbrev W0 : WX := fun _ _ _ _ => False
/-- what holds in each block of the comprehension -/
abbrev InBlk (X : Cx) (scope : Scope) (P : Cx → Prop) : Prop := ∀ (s : Shared) (H : Hp) (C : Addr) (cl : List (Str × Addr)) (fp : List Addr), P (X.blk s H scope (compEnvC scope cl C X.env) fp)
abbrev PTsD (X : Cx) (G : Gh) (W : WX) (ifs : List Expr) (R : Env → DM G.S Bool) : Prop := PTs X ifs (tT X.K G W R)
theorem PTs.imp {X : Cx} {e : List Expr} {t t' : TT} (p : PTs X e t) (h : ∀ σ H Q, t' σ H Q → t σ H Q) : PTs X e t' := ⟨fun pins s σ H Q I q => p.run pins s σ H Q I (h σ H Q q)⟩
theorem ptsd_nil : PTsD X G W [] bYes := PTs.imp pts_nil fun σ H Q ⟨H0, F0, F, env, s, o, s', S, ⟨e1, e2⟩, k, _⟩ => by
  subst e2
  exact k _ e1 _ H F S.refl S.at_ rfl
theorem ptsd_one {c : Expr} (h : PB X G W c Tt) : PTsD X G W [c] Tt := pts_one h
/-- one turn of a comprehension with one for: the frame is known wherever the list grows -/
theorem turn1 {K : Frg} {H0 F0 H1 F1 Fb : Hp} {env : Env} {σ : L2.St} {D : Addr} {vs : List Nat} {total : Nat} (Ht : total ≤ sizeLine) (S : ∀ H F s acc, Same Fb F → Grows K G H1 F1 D H F s acc → Sim K G H0 F0 env σ H F s) (n : H1 D = none) (nfp : ¬ G.fp D) (hs : ∀ i ∈ t.slots, i ∈ vs)
    {x : V} {d : Pl.D} {H F : Hp} {s : G.S} {acc ys : List Pl.D} {s2 : G.S} {Nx : Hp → Prop} (sF : Same Fb F) (g : Grows K G H1 F1 D H F s acc) (r : Rep K F x d) (h : cStep t Tt Re (wipeE env vs) d s (.ok ys) s2) (hl : acc.length + ys.length ≤ total)
    (hN : ∀ H' F', Same F F' → Grows K G H1 F1 D H' F' s2 (acc ++ ys) → Nx H') :
    gD K G t x (wipe σ vs) H fun σ2 H2 => wipe σ2 vs = wipe σ vs ∧ tT K G W0 Tt σ2 H2 fun b H3 =>
      if b = true then tE K G W0 Re σ2 H3 fun y H4 => ∃ accv, H4 D = some (.lst accv) ∧ accv.length < sizeLine ∧ Nx (upd H4 D (.lst (accv ++ [y]))) else Nx H3 := by
  have Sw := (S H F s acc sF g).wipe vs
  unfold cStep at h
  cases q : t.put d (wipeE env vs) with
  | none => rw [q] at h; exact h.elim
  | some env1 =>
    rw [q] at h
    refine ⟨H0, F0, F, _, s, d, env1, Sw, r, q, fun σ2 S2 b2 => ⟨?_, ?_⟩⟩
    · have z := wipe_but b2 hs
      rw [z, wipe_wipe]
    · refine tG_bind (S2 H F s (Same.refl F) Sw) h .ok fun c c' H3 F3 s3 S3 e3 g3 h3 xc3 => ?_
      cases g3
      have g' := g.step nfp e3 S3.at_
      by_cases z : c = true
      · rw [if_pos z] at h3 ⊢
        refine tG_bind S3 h3 .ok fun y v H4 F4 s4 S4 e4 g4 h4 xc4 => ?_
        obtain ⟨ho, rfl⟩ := h4
        cases ho
        have g'' := g'.step nfp e4 S4.at_
        obtain ⟨accv, a1, a2, a3⟩ := g''.app n nfp g4
        refine ⟨accv, a1, ?_, hN _ F4 (e3.f.trans e4.f) a3⟩
        have e1 : ([y] : List Pl.D).length = 1 := rfl
        rw [e1] at hl
        omega
      · rw [if_neg z] at h3 ⊢
        obtain ⟨ho, rfl⟩ := h3
        cases ho
        exact hN _ F3 e3.f (by rw [List.append_nil]; exact g')
/-- a list comprehension with one for -/
theorem lc_use {K : Frg} (hs : ∀ i ∈ t.slots, i ∈ own.map (·.2)) (σ : L2.St) (H : Hp) (Q : VK) (h : tF K G W (fLc Ri (cStep t Tt Re) (own.map (·.2))) σ H Q) :
    tLc (iD K G W Ri) (gD K G t) (tT K G W0 Tt) (tE K G W0 Re) (own.map (·.2)) σ H Q := by
  obtain ⟨H0, F0, F, env, s, o, s', S, h, k, xc⟩ := h
  rcases h with ⟨ds, s1, h1, out, hc, hz, rfl⟩ | ⟨C, ns, es, h1, rfl⟩
  · refine ⟨H0, F0, F, env, s, .ok ds, s1, S, h1, fun ds' e J H1 F1 x1 a1 hy => ?_, .ok⟩
    cases e
    intro D hD
    have S1 := S.step x1 a1
    have nfp : ¬ G.fp D := fun z => G.dom s1 H1 D a1 z hD
    have g0 : Grows K G H1 F1 D (upd H1 D (.lst [])) F1 s1 [] :=
      ⟨(Ext.refl S1.fh).upd_new hD (none_of_same S1.fh hD), G.loc s1 H1 _ (fun p hp => upd_ne fun c => nfp (c ▸ hp)) (fun p φ z => by rw [upd_ne (ne_of_none z hD)]; exact z) (Same.refl F1) a1, none_of_same S1.fh hD, [], upd_same, .nil⟩
    refine comp_loop F1 (out := out) nfp (total := out.length) hz (fun x d H F s acc ys s2 Nx sB g r hst hl hN => turn1 hz (fun H F s acc _ g => S1.step g.ext g.at_) hD nfp hs g.ext.f g r hst hl hN) hy (Same.refl F1) (Same.refl F1) g0 hc (by simp) fun H' F' sF g => ?_
    obtain ⟨vs, hv, hr⟩ := g.ls
    refine k _ rfl _ H' F' (x1.trans g.ext) g.at_ ⟨D, _, rfl, ?_, hv, g.fz, hr⟩
    cases q : H D with
    | none => rfl
    | some oo => exact absurd hD (x1.d D (by rw [q]; simp))
  · exact ⟨H0, F0, F, env, s, .ex C ns es, s', S, h1, fun ds' e => by (cases e), xc.tr⟩
theorem pf_lc (hc : X.calm = true) (hN : X.N.Nodup) (hi : PID X G W tg iter Ri) (ok : BlkOk X.N X.env.scope scope own) (hg : InBlk X scope fun Y => PG Y tg (gD X.K G t)) (ht : InBlk X scope fun Y => PTs Y ifs (tT X.K G W0 Tt)) (he : InBlk X scope fun Y => PE Y elt (tE X.K G W0 Re))
    (hs : ∀ i ∈ t.slots, i ∈ own.map (·.2) := by decide) (hst : ∀ x, foldedSetIterable iter X.env x = pure x := by intro _; rfl) : PF X G W (.ListComp elt [⟨tg, iter, ifs, 0⟩] scope pos) (fLc Ri (cStep t Tt Re) (own.map (·.2))) :=
  PE.imp (pe_lc hc hN hi ok hg ht he hst) (lc_use hs)
/-- .. with two -/
theorem lc2_use {K : Frg} (hs : ∀ i ∈ t.slots, i ∈ own.map (·.2)) (hs1 : ∀ i ∈ t1.slots, i ∈ vs1) (σ : L2.St) (H : Hp) (Q : VK) (h : tF K G W (fLc Ri (cStep2 t Tt Ri1 t1 vs1 Tt1 Re) (own.map (·.2))) σ H Q) :
    tLc2 (iD K G W Ri) (gD K G t) (tT K G W0 Tt) (iD K G W0 Ri1) (gD K G t1) (tT K G W0 Tt1) (tE K G W0 Re) (own.map (·.2)) vs1 σ H Q := by
  obtain ⟨H0, F0, F, env, s, o, s', S, h, k, xc⟩ := h
  rcases h with ⟨ds, s1, h1, out, hc, hz, rfl⟩ | ⟨C, ns, es, h1, rfl⟩
  · refine ⟨H0, F0, F, env, s, .ok ds, s1, S, h1, fun ds' e J H1 F1 x1 a1 hy => ?_, .ok⟩
    cases e
    intro D hD
    have S1 := S.step x1 a1
    have nfp : ¬ G.fp D := fun z => G.dom s1 H1 D a1 z hD
    have g0 : Grows K G H1 F1 D (upd H1 D (.lst [])) F1 s1 [] :=
      ⟨(Ext.refl S1.fh).upd_new hD (none_of_same S1.fh hD), G.loc s1 H1 _ (fun p hp => upd_ne fun c => nfp (c ▸ hp)) (fun p φ z => by rw [upd_ne (ne_of_none z hD)]; exact z) (Same.refl F1) a1, none_of_same S1.fh hD, [], upd_same, .nil⟩
    refine comp_loop F1 (out := out) nfp (total := out.length) hz (fun x d H F s acc ys s2 Nx sB g r hst hl hN => ?_) hy (Same.refl F1) (Same.refl F1) g0 hc (by simp) fun H' F' sF g => ?_
    · have Sw := (S1.step g.ext g.at_).wipe (own.map (·.2))
      unfold cStep2 at hst
      cases q : t.put d (wipeE env (own.map (·.2))) with
      | none => rw [q] at hst; exact hst.elim
      | some env1 =>
        rw [q] at hst
        refine ⟨H0, F0, F, _, s, d, env1, Sw, r, q, fun σ2 S2 b2 => ⟨?_, ?_⟩⟩
        · have z := wipe_but b2 hs
          rw [z, wipe_wipe]
        · refine tG_bind (S2 H F s (Same.refl F) Sw) hst .ok fun c c' H3 F3 s3 S3 e3 g3 h3 xc3 => ?_
          cases g3
          have g' := g.step nfp e3 S3.at_
          by_cases z : c = true
          · rw [if_pos z] at h3 ⊢
            rcases h3 with ⟨ds1, s4, hi, out1, hc1, ho⟩ | ⟨C, ns, es, _, ho⟩
            · cases ho
              refine ⟨H0, F0, F3, env1, s3, .ok ds1, s4, S3, hi, fun ds' e J1 H4 F4 x4 a4 hy1 => ?_, .ok⟩
              cases e
              have g4 := g'.step nfp x4 a4
              refine comp_loop F4 (out := ys) nfp (total := out.length) hz (fun x' d' H' F' s' acc' ys' s2' Nx' sB' gx rx hst' hl' hN' => ?_) hy1 (Same.refl F4) (Same.refl F4) g4 hc1 hl fun H' F' sF gg => hN H' F' ((e3.f.trans x4.f).trans sF) gg
              exact turn1 hz (fun H F s acc sF g => S2 H F s ((e3.f.trans x4.f).trans sF) ((S1.step g.ext g.at_).wipe _)) hD nfp hs1 sB' gx rx hst' hl' hN'
            · cases ho
          · rw [if_neg z] at h3 ⊢
            obtain ⟨ho, rfl⟩ := h3
            cases ho
            exact hN _ F3 e3.f (by rw [List.append_nil]; exact g')
    · obtain ⟨vs, hv, hr⟩ := g.ls
      refine k _ rfl _ H' F' (x1.trans g.ext) g.at_ ⟨D, _, rfl, ?_, hv, g.fz, hr⟩
      cases q : H D with
      | none => rfl
      | some oo => exact absurd hD (x1.d D (by rw [q]; simp))
  · exact ⟨H0, F0, F, env, s, .ex C ns es, s', S, h1, fun ds' e => by (cases e), xc.tr⟩
theorem pf_lc2 (hc : X.calm = true) (hN : X.N.Nodup) (hi : PID X G W tg iter Ri) (ok : BlkOk X.N X.env.scope scope own) (hv : ∀ i ∈ vs1, i ∈ own.map (·.2)) (hg : InBlk X scope fun Y => PG Y tg (gD X.K G t)) (ht : InBlk X scope fun Y => PTs Y ifs (tT X.K G W0 Tt))
    (hi1 : InBlk X scope fun Y => PI Y tg1 iter1 (iD X.K G W0 Ri1)) (hg1 : InBlk X scope fun Y => PG Y tg1 (gD X.K G t1)) (ht1 : InBlk X scope fun Y => PTs Y ifs1 (tT X.K G W0 Tt1)) (he : InBlk X scope fun Y => PE Y elt (tE X.K G W0 Re))
    (hs : ∀ i ∈ t.slots, i ∈ own.map (·.2) := by decide) (hs1 : ∀ i ∈ t1.slots, i ∈ vs1 := by decide) (hst : ∀ x, foldedSetIterable iter X.env x = pure x := by intro _; rfl) (hst1 : ∀ env x, foldedSetIterable iter1 env x = pure x := by intro _ _; rfl) :
    PF X G W (.ListComp elt [⟨tg, iter, ifs, 0⟩, ⟨tg1, iter1, ifs1, 0⟩] scope pos) (fLc Ri (cStep2 t Tt Ri1 t1 vs1 Tt1 Re) (own.map (·.2))) :=
  PE.imp (pe_lc2 hc hN hi ok hv hg ht hi1 hg1 ht1 he hst hst1) (lc2_use hs hs1)
end
end Pl
/-! The pure layer, part 8: statements, loops, a def by its body. -/
namespace Pl
open PySem PySem.Spec PyProof.Rows L2

theorem Ext.base {fp : Addr → Prop} {H0 F0 Hm Fm H F : Hp} (e : Ext fp H0 Fm H F) (a : Ext fp H0 F0 Hm Fm) : Ext fp H0 F0 H F := ⟨e.h, e.d, a.f.trans e.f, e.fh, fun p h n => e.n p h (a.n p h n)⟩
theorem Sim.base {K : Frg} {G : Gh} {H0 F0 Hm Fm H F : Hp} {env : Env} {σ : L2.St} {s : G.S} (S : Sim K G H0 Fm env σ H F s) (a : Ext G.fp H0 F0 Hm Fm) : Sim K G H0 F0 env σ H F s := ⟨S.fh, S.ext.base a, S.at_, S.nf, S.sl⟩
theorem Sim.top {K : Frg} {G : Gh} {H0 F0 H F : Hp} {env : Env} {σ : L2.St} {s : G.S} (S : Sim K G H0 F0 env σ H F s) : Sim K G H0 F env σ H F s := ⟨S.fh, ⟨S.ext.h, S.ext.d, Same.refl F, S.fh, fun _ _ n => n⟩, S.at_, S.nf, S.sl⟩
/-- no code tables -/
def NoTbl (H : Hp) : Prop := ∀ p ps, H p ≠ some (HO.tbl ps)
/-- what is wanted behind a statement, in the words of data -/
structure DE (S : Type) where
  nx : Env → S → Prop
  rt : D → S → Prop
  rf : OD → S → Prop := fun _ _ => False
  rg : DlS → S → Prop := fun _ _ => False
  al : Bool := false
  bk : Env → S → Prop := fun _ _ => False
  ct : Env → S → Prop := fun _ _ => False
  ex : Addr → List Str → List D → Env → S → Prop := fun _ _ _ _ _ => False
abbrev DW (S : Type) := DE S → Env → S → Prop
structure Lands (K : Frg) (G : Gh) (W : WX) (H0 F0 : Hp) (De : DE G.S) (Dn : Ends) : Prop where
  nx : ∀ env σ H F s, Sim K G H0 F0 env σ H F s → De.nx env s → Dn.nx σ H
  bk : ∀ env σ H F s, Sim K G H0 F0 env σ H F s → De.bk env s → Dn.bk σ H
  ct : ∀ env σ H F s, Sim K G H0 F0 env σ H F s → De.ct env s → Dn.ct σ H
  rt : ∀ v H F d s, Ext G.fp H0 F0 H F → G.At s H F → Rep K F v d → De.rt d s → Dn.rt v H
  rf : ∀ p ob H F w s, Ext G.fp H0 F0 H F → G.At s H F → H0 p = none → H p = some ob → F p = none → OwnO K F ob w → De.rf w s → Dn.rt (.ref p) H
  rg : ∀ (p : Addr × Addr) H F x s, Ext G.fp H0 F0 H F → G.At s H F → H0 p.1 = none → H0 p.2 = none → F p.1 = none → F p.2 = none → (dl p).At x H F → De.rg x s → Dn.rt (.ref p.1) H
  al : De.al = true → NoTbl H0 ∧ NoTbl F0
  ex : ∀ C ns ds env σ H F s dx fs, Sim K G H0 F0 env σ H F s → H dx = some (.xd fs) → fs.map (·.1) = ns → Reps K F (fs.map (·.2)) ds → De.ex C ns ds env s → W (.ref C) (some dx) σ H
def tS (K : Frg) (G : Gh) (W : WX) (w : DW G.S) : TS := fun Dn σ H => ∃ (H0 F0 F : Hp) (env : Env) (s : G.S) (De : DE G.S), Sim K G H0 F0 env σ H F s ∧ w De env s ∧ Lands K G W H0 F0 De Dn
abbrev PSd (X : Cx) (G : Gh) (W : WX) (st : Stmt) (w : DW G.S) : Prop := PS X st (tS X.K G W w)
abbrev PSSd (X : Cx) (G : Gh) (W : WX) (sts : List Stmt) (w : DW G.S) : Prop := PSs X sts (tS X.K G W w)
theorem PS.imp {X : Cx} {st : Stmt} {t t' : TS} (p : PS X st t) (h : ∀ Dn σ H, t' Dn σ H → t Dn σ H) : PS X st t' := ⟨fun pins s σ H Dn I q => p.run pins s σ H Dn I (h Dn σ H q)⟩
theorem PSs.imp {X : Cx} {st : List Stmt} {t t' : TS} (p : PSs X st t) (h : ∀ Dn σ H, t' Dn σ H → t Dn σ H) : PSs X st t' := ⟨fun pins s σ H Dn I q => p.run pins s σ H Dn I (h Dn σ H q)⟩

/-- an expression, then what follows -/
def run {S α : Type} (m : DM S α) (De : DE S) (env : Env) (k : α → S → Prop) : S → Prop := fun s => ∃ o s1, m s o s1 ∧ (match o with
  | .ok a => k a s1
  | .ex C ns ds => De.ex C ns ds env s1)
theorem run_ok {S α : Type} {m : DM S α} {De : DE S} {env : Env} {k : α → S → Prop} {s s1 : S} {a : α} (h : m s (.ok a) s1) (h' : k a s1) : run m De env k s := ⟨.ok a, s1, h, h'⟩
theorem run_ex {S α : Type} {m : DM S α} {De : DE S} {env : Env} {k : α → S → Prop} {s s1 : S} {C : Addr} {ns : List Str} {ds : List D} (h : m s (.ex C ns ds) s1) (h' : De.ex C ns ds env s1) : run m De env k s := ⟨.ex C ns ds, s1, h, h'⟩
/-- a statement's expression by its reading -/
theorem tG_run {α β : Type} {K : Frg} {G : Gh} {W : WX} {H0 F0 H F : Hp} {env : Env} {σ : L2.St} {s : G.S} {Gd : Hp → Hp → Hp → β → α → Prop} {R : Env → DM G.S α} {De : DE G.S} {Dn : Ends} {k : α → G.S → Prop} {Q : β → Hp → Prop}
    (S : Sim K G H0 F0 env σ H F s) (h : run (R env) De env k s) (L : Lands K G W H0 F0 De Dn)
    (hk : ∀ a b H1 F1 s1, Sim K G H0 F0 env σ H1 F1 s1 → Ext G.fp H F H1 F1 → Gd H H1 F1 b a → k a s1 → Q b H1) : tG K G W Gd R σ H Q := by
  obtain ⟨o, s1, h1, h2⟩ := h
  refine ⟨H0, F0, F, env, s, o, s1, S, h1, fun a e b H1 F1 x at_ g => ?_, fun C ns ds e dx fs H1 F1 x at_ e1 e2 e3 => ?_⟩
  · subst e
    exact hk a b H1 F1 s1 (S.step x at_) x g h2
  · subst e
    exact L.ex C ns ds env σ H1 F1 s1 dx fs (S.step x at_) e1 e2 e3 h2

def wNext {S : Type} : DW S := fun De env s => De.nx env s
def wSeq {S : Type} (w1 w2 : DW S) : DW S := fun De env s => w1 { De with nx := w2 De } env s
def wBreak {S : Type} : DW S := fun De env s => De.bk env s
def wCont {S : Type} : DW S := fun De env s => De.ct env s
def wExpr {S : Type} (R : Env → DM S D) : DW S := fun De env s => run (R env) De env (fun _ s1 => De.nx env s1) s
def wAsg {S : Type} (t : TP) (R : Env → DM S D) : DW S := fun De env s => run (R env) De env (fun d s1 => ∃ env', t.put d env = some env' ∧ De.nx env' s1) s
def wAsgF {S : Type} (i : Nat) (R : Env → DM S OD) : DW S := fun De env s => run (R env) De env (fun w s1 => De.nx (env.set i (.ow w)) s1) s
def wRet {S : Type} (R : Env → DM S D) : DW S := fun De env s => run (R env) De env De.rt s
def wRetF {S : Type} (R : Env → DM S OD) : DW S := fun De env s => run (R env) De env De.rf s
def wRetO {S : Type} (i : Nat) : DW S := fun De env s => ∃ w, env[i]? = some (.ow w) ∧ De.rf w s
def wRetN {S : Type} : DW S := fun De _ s => De.rt .non s
def wIf {S : Type} (R : Env → DM S Bool) (w1 w2 : DW S) : DW S := fun De env s => run (R env) De env (fun c s1 => if c = true then w1 De env s1 else w2 De env s1) s
def wNever {S : Type} : DW S := fun _ _ _ => False
/-- an own slot is frozen for good (no statement) -/
def wFz {S : Type} (i : Nat) (w : DW S) : DW S := fun De env s => ∃ x, env[i]? = some (.ow x) ∧ w De (env.set i (.fz x.d)) s
def forL {S : Type} (t : TP) (body : DW S) (De : DE S) : List D → Env → S → Prop
  | [], env, s => De.nx env s
  | d :: ds, env, s => ∃ env', t.put d env = some env' ∧ body { De with nx := forL t body De ds, ct := forL t body De ds, bk := De.nx, al := false } env' s
def wFor {S : Type} (t : TP) (Ri : Env → DM S (List D)) (body : DW S) : DW S := fun De env s => run (Ri env) De env (fun ds s1 => forL t body De ds env s1) s
def wWhile {S : Type} (R : Env → DM S Bool) (body : DW S) : DW S := fun De env s => ∃ I : Nat → Env → S → Prop, (∃ m, I m env s) ∧ ∀ m env s, I m env s → run (R env) De env (fun c s1 =>
  if c = true then body { De with nx := fun e z => ∃ m', m' < m ∧ I m' e z, ct := fun e z => ∃ m', m' < m ∧ I m' e z, bk := De.nx, al := false } env s1 else De.nx env s1) s

section
variable {X : Cx} {G : Gh} {W : WX} {st : Stmt} {rest a b : List Stmt} {w w1 w2 : DW G.S} {e c : Expr} {pos : Pos} {R : Env → DM G.S D} {Rf : Env → DM G.S OD} {Rb : Env → DM G.S Bool} {Ri : Env → DM G.S (List D)} {t : TP}
theorem pssd_nil : PSSd X G W [] wNext := PSs.imp pss_nil fun Dn σ H ⟨H0, F0, F, env, s, De, S, h, L⟩ => L.nx env σ H F s S h
theorem pssd_cons (h1 : PSd X G W st w1) (h2 : PSSd X G W rest w2) : PSSd X G W (st :: rest) (wSeq w1 w2) := PSs.imp (pss_cons h1 h2) fun Dn σ H ⟨H0, F0, F, env, s, De, S, h, L⟩ =>
  ⟨H0, F0, F, env, s, { De with nx := w2 De }, S, h, ⟨fun env σ H F s S h => ⟨H0, F0, F, env, s, De, S, h, L⟩, L.bk, L.ct, L.rt, L.rf, L.rg, L.al, L.ex⟩⟩
theorem pssd_one (h : PSd X G W st w) : PSSd X G W [st] w := pss_one h
theorem pssd_fz (i : Nat) (h : PSSd X G W rest w) : PSSd X G W rest (wFz i w) := PSs.imp h fun Dn σ H ⟨H0, F0, F, env, s, De, S, ⟨x, hx, h⟩, L⟩ => by
  obtain ⟨p, o, a1, a2, a3, a4, a5, a6, S1⟩ := S.frz hx
  exact ⟨H0, F0, _, _, s, De, S1, h, L⟩
theorem psd_pass : PSd X G W (.Pass pos) wNext := PS.imp ps_pass fun Dn σ H ⟨H0, F0, F, env, s, De, S, h, L⟩ => L.nx env σ H F s S h
theorem psd_break : PSd X G W (.Break pos) wBreak := PS.imp ps_break fun Dn σ H ⟨H0, F0, F, env, s, De, S, h, L⟩ => L.bk env σ H F s S h
theorem psd_cont : PSd X G W (.Continue pos) wCont := PS.imp ps_continue fun Dn σ H ⟨H0, F0, F, env, s, De, S, h, L⟩ => L.ct env σ H F s S h
theorem psd_never : PSd X G W st wNever := PS.imp ps_never fun Dn σ H ⟨H0, F0, F, env, s, De, S, h, L⟩ => h
theorem pssd_never : PSSd X G W rest wNever := PSs.imp pss_never fun Dn σ H ⟨H0, F0, F, env, s, De, S, h, L⟩ => h
theorem psd_expr (h : PD X G W e R) (hs : swapsWith e none pos.line X.env = pure false := by rfl) : PSd X G W (.Expr e pos) (wExpr R) := PS.imp (ps_expr h hs) fun Dn σ H ⟨H0, F0, F, env, s, De, S, h, L⟩ =>
  tG_run S h L fun d v H1 F1 s1 S1 x g k => L.nx env σ H1 F1 s1 S1 k
theorem psd_ret (h : PD X G W e R) : PSd X G W (.Return (some e) pos) (wRet R) := PS.imp (ps_ret h) fun Dn σ H ⟨H0, F0, F, env, s, De, S, h, L⟩ =>
  tG_run S h L fun d v H1 F1 s1 S1 x g k => L.rt v H1 F1 d s1 S1.ext S1.at_ g k
theorem psd_retF (h : PF X G W e Rf) : PSd X G W (.Return (some e) pos) (wRetF Rf) := PS.imp (ps_ret h) fun Dn σ H ⟨H0, F0, F, env, s, De, S, h, L⟩ =>
  tG_run S h L fun d v H1 F1 s1 S1 x g k => by
    obtain ⟨p, ob, rfl, n, hp, fp, q⟩ := g
    refine L.rf p ob H1 F1 d s1 S1.ext S1.at_ ?_ hp fp q k
    cases z : H0 p with
    | none => rfl
    | some oo => exact absurd n (S.ext.d p (by rw [z]; simp))
theorem psd_retO (i : Nat) {x : Str} {p : Pos} (hN : X.N[i]? = some x := by rfl) (hv : Vis X.env.scope x := by first | exact Or.inl rfl | exact Or.inr (Or.inl rfl) | exact Or.inr (Or.inr rfl)) (hd : (x == ("__debug__" : Str)) = false := by decide)
    (hcd : (x == ("__classdict__" : Str)) = false := by decide) : PSd X G W (.Return (some (.Name x p)) pos) (wRetO i) := PS.imp (ps_ret (pe_var hN hv hd hcd)) fun Dn σ H ⟨H0, F0, F, env, s, De, S, ⟨x, hx, h⟩, L⟩ => by
  obtain ⟨p, o, a1, a2, a3, a4, a5, a6, S1⟩ := S.frz hx
  exact ⟨_, a1, L.rf p o H F x s S.ext S.at_ a5 a2 a3 a6 h⟩
theorem psd_retN : PSd X G W (.Return none pos) wRetN := PS.imp ps_retN fun Dn σ H ⟨H0, F0, F, env, s, De, S, h, L⟩ => L.rt .non H F .non s S.ext S.at_ .non h
theorem psd_if (hc : PB X G W c Rb) (ha : PSSd X G W a w1) (hb : PSSd X G W b w2) : PSd X G W (.If c a b pos) (wIf Rb w1 w2) := PS.imp (ps_if hc ha hb) fun Dn σ H ⟨H0, F0, F, env, s, De, S, h, L⟩ =>
  tG_run S h L fun k k' H1 F1 s1 S1 x g h1 => by
    cases g
    by_cases z : k = true
    · rw [if_pos z] at h1 ⊢
      exact ⟨H0, F0, F1, env, s1, De, S1, h1, L⟩
    · rw [if_neg z] at h1 ⊢
      exact ⟨H0, F0, F1, env, s1, De, S1, h1, L⟩
theorem psd_asg {tg : Expr} (he : PD X G W e R) (hg : PG X tg (gD X.K G t)) (hs : swapsWithSole [tg] e pos.line X.env = pure false := by rfl) (hw : swappedStores [tg] e X.env = pure none := by rfl) (h1 : List.map (·.2) (assignEach [tg] X.env) = [assign tg X.env] := by rfl) : PSd X G W (.Assign [tg] e pos) (wAsg t R) :=
  PS.imp (ps_asg he hg hs hw h1) fun Dn σ H ⟨H0, F0, F, env, s, De, S, h, L⟩ => tG_run S h L fun d v H1 F1 s1 S1 x g ⟨env', hp, k⟩ =>
    ⟨H0, F0, F1, env, s1, d, env', S1, g, hp, fun σ' S' b => L.nx env' σ' H1 F1 s1 (S' H1 F1 s1 (Same.refl F1) S1) k⟩
/-- x = e -/
theorem psd_set {i : Nat} {x : Str} {pos' : Pos} (he : PD X G W e R) (hN : X.N.Nodup) (hi : X.N[i]? = some x := by rfl) (hx : Loc X.env.scope x := by first | exact Or.inl rfl | exact Or.inr rfl) (hs : swapsWith e (some (.Name x pos')) pos.line X.env = pure false := by rfl)
    (hf : X.fn x = true ∨ X.env.scope.names.lookup x = some .local := by first | exact .inl rfl | exact .inr rfl) : PSd X G W (.Assign [.Name x pos'] e pos) (wAsg (.nm i) R) :=
  PS.imp (ps_set hN hi hx he hs hf) fun Dn σ H ⟨H0, F0, F, env, s, De, S, h, L⟩ => tG_run S h L fun d v H1 F1 s1 S1 x g ⟨env', hp, k⟩ => by
    have z : some (env.set i (.fz d)) = some env' := hp
    cases z
    exact L.nx _ _ H1 F1 s1 (S1.set_fz i g) k
theorem Sim.set_ow {K : Frg} {H0 F0 H F H1 F1 : Hp} {env : Env} {σ : L2.St} {s s1 : G.S} {p : Addr} {o : HO} {x : OD} {i : Nat} (S : Sim K G H0 F0 env σ H F s) (e : Ext G.fp H F H1 F1) (a : G.At s1 H1 F1) (n : H p = none) (h : H1 p = some o) (f : F1 p = none) (q : OwnO K F1 o x) (hi : i < env.length) :
    Sim K G H0 F0 (env.set i (.ow x)) (σ.set i (some (.ref p))) H1 F1 s1 := by
  obtain ⟨L, r⟩ := S.sl
  have S1 := S.step e a
  have np : p ∉ L := fun z => r.own_at p z n
  have h0 : H0 p = none := by
    cases z : H0 p with
    | none => rfl
    | some oo => exact absurd n (S.ext.d p (by rw [z]; simp))
  have g : ¬ G.fp p := fun z => G.dom s H p S.at_ z n
  obtain ⟨L', r', _⟩ := (r.ext e).set_ow h f g h0 q np i hi
  exact ⟨S1.fh, S1.ext, S1.at_, S1.nf, L', r'⟩
theorem lt_of_N {X : Cx} {i : Nat} {x : Str} {K : Frg} {H0 F0 H F : Hp} {env : Env} {σ : L2.St} {s : G.S} (S : Sim K G H0 F0 env σ H F s) (hl : σ.length = X.N.length) (hi : X.N[i]? = some x) : i < env.length := by
  rw [S.len, hl]
  exact (List.getElem?_eq_some_iff.mp hi).1
/-- x = a new object, x's own from now on -/
theorem psd_setF {i : Nat} {x : Str} {pos' : Pos} (he : PF X G W e Rf) (hN : X.N.Nodup) (hi : X.N[i]? = some x := by rfl) (hx : Loc X.env.scope x := by first | exact Or.inl rfl | exact Or.inr rfl) (hs : swapsWith e (some (.Name x pos')) pos.line X.env = pure false := by rfl)
    (hf : X.fn x = true ∨ X.env.scope.names.lookup x = some .local := by first | exact .inl rfl | exact .inr rfl) : PSd X G W (.Assign [.Name x pos'] e pos) (wAsgF i Rf) := by
  have P := ps_set (pos := pos) (pos' := pos') hN hi hx he hs hf
  refine ⟨fun pins s σ H Dn I hq => P.run pins s σ H Dn I ?_⟩
  obtain ⟨H0, F0, F, env, s', De, S, h, L⟩ := hq
  have hl := lt_of_N S I.len hi
  exact tG_run S h L fun d v H1 F1 s1 S1 x g k => by
    obtain ⟨p, ob, rfl, n, hp, fp, q⟩ := g
    exact L.nx _ _ H1 F1 s1 (S.set_ow x S1.at_ n hp fp q hl) k
/-- x = [..], on one line -/
theorem psd_setLcF {i : Nat} {x : Str} {pos' : Pos} {te : TE} (P : PS X (.Assign [.Name x pos'] e pos) (tAsg te (gName i))) (hi : X.N[i]? = some x) (hu : ∀ σ H Q, tF X.K G W Rf σ H Q → te σ H Q) : PSd X G W (.Assign [.Name x pos'] e pos) (wAsgF i Rf) := by
  refine ⟨fun pins s σ H Dn I hq => P.run pins s σ H Dn I ?_⟩
  obtain ⟨H0, F0, F, env, s', De, S, h, L⟩ := hq
  have hl := lt_of_N S I.len hi
  refine hu σ H _ (tG_run S h L fun d v H1 F1 s1 S1 x g k => ?_)
  obtain ⟨p, ob, rfl, n, hp, fp, q⟩ := g
  exact L.nx _ _ H1 F1 s1 (S.set_ow x S1.at_ n hp fp q hl) k
theorem psd_setLc {i : Nat} {x : Str} {pos' : Pos} {te : TE} (P : PS X (.Assign [.Name x pos'] e pos) (tAsg te (gName i))) (hu : ∀ σ H Q, tF X.K G W Rf σ H Q → te σ H Q) : PSd X G W (.Assign [.Name x pos'] e pos) (wAsg (.nm i) (eOf Rf)) :=
  PS.imp P fun Dn σ H ⟨H0, F0, F, env, s, De, S, h, L⟩ => by
    obtain ⟨o, s1, h1, h2⟩ := h
    refine hu σ H _ ?_
    rcases h1 with ⟨w, s2, h3, ho, hs⟩ | ⟨C, ns, ds, h3, ho⟩
    · subst hs ho
      obtain ⟨env', hp, k⟩ := h2
      have z : some (env.set i (.fz w.d)) = some env' := hp
      cases z
      refine ⟨H0, F0, F, env, s, .ok w, s1, S, h3, fun a e b H1 F1 x at_ g => ?_, .ok⟩
      cases e
      obtain ⟨p, ob, rfl, n, hp, fp, q⟩ := g
      have E := x.freeze n hp fp
      exact L.nx _ _ H1 _ s1 ((S.step E (Gh.atF at_ (fz_same fp))).set_fz i ((q.mono (fz_same fp)).rep upd_same)) k
    · subst ho
      refine ⟨H0, F0, F, env, s, .ex C ns ds, s1, S, h3, fun a e => by (cases e), fun C' ns' ds' e dx fs H1 F1 x at_ e1 e2 e3 => ?_⟩
      cases e
      exact L.ex C ns ds env σ H1 F1 s1 dx fs (S.step x at_) e1 e2 e3 h2
/-- for -/
theorem psd_for {tg iter : Expr} {body : List Stmt} (hp : PassesOwn (model X.prog X.w) X.A X.env X.xe) (hc : X.calm = true) (hi : PID X G W tg iter Ri) (hg : PG X tg (gD X.K G t)) (hb : PSSd X G W body w) (hst : ∀ x, foldedSetIterable iter X.env x = pure x := by intro _; rfl) : PSd X G W (.For tg iter body [] pos) (wFor t Ri w) :=
  PS.imp (ps_for hp hc hi hg hb hst) fun Dn σ H ⟨H0, F0, F, env, s, De, S, h, L⟩ => by
    obtain ⟨o, s1, h1, h2⟩ := h
    refine ⟨H0, F0, F, env, s, o, s1, S, h1, fun ds e J H1 F1 x at_ hy => ?_, fun C ns ds e dx fs H1 F1 x at_ e1 e2 e3 => ?_⟩
    · subst e
      refine ⟨fun i m σ H => m + i = ds.length ∧ ∃ F env s, Same F1 F ∧ Sim X.K G H0 F0 env σ H F s ∧ forL t w De (ds.drop i) env s, ⟨ds.length, rfl, F1, env, s1, Same.refl F1, S.step x at_, h2⟩, ?_⟩
      rintro i m σ H ⟨hm, F, env, s, sF, S, h⟩
      obtain ⟨y1, y2⟩ := hy i H F sF S.fh
      by_cases hlt : i < ds.length
      · obtain ⟨go, yl⟩ := y1 hlt
        have e : ds.drop i = ds[i] :: ds.drop (i + 1) := List.drop_eq_getElem_cons hlt
        rw [e] at h
        obtain ⟨env', hp', hbody⟩ := h
        refine .inr ⟨go, fun σ' H' => ∃ F' env' s', Same F1 F' ∧ Sim X.K G H0 F0 env' σ' H' F' s' ∧ forL t w De (ds.drop (i + 1)) env' s', fun σ' H' ⟨F', env', s', a1, a2, a3⟩ => ⟨m - 1, by omega, by omega, F', env', s', a1, a2, a3⟩, fun v H' y => ?_⟩
        obtain ⟨F2, d, E, hd, r⟩ := yl v H' y
        have hd' : ds[i] = d := by rw [List.getElem?_eq_getElem hlt] at hd; exact Option.some.inj hd
        rw [hd'] at hp'
        have S2 := S.all E
        have sF2 : Same F1 F2 := sF.trans E.f
        refine ⟨H0, F0, F2, env, s, d, env', S2, r, hp', fun σ2 S3 b2 => ?_⟩
        have S4 := S3 H' F2 s (Same.refl F2) S2
        refine ⟨H0, F2, F2, env', s, { De with nx := forL t w De (ds.drop (i + 1)), ct := forL t w De (ds.drop (i + 1)), bk := De.nx, al := false }, S4.top, hbody, ?_⟩
        have up := fun {env σ H F s} (z : Sim X.K G H0 F2 env σ H F s) => z.base S2.ext
        exact ⟨fun env σ H F s z k => ⟨F, env, s, sF2.trans z.ext.f, up z, k⟩, fun env σ H F s z k => L.nx env σ H F s (up z) k, fun env σ H F s z k => ⟨F, env, s, sF2.trans z.ext.f, up z, k⟩,
          fun v H F d s e => L.rt v H F d s (e.base S2.ext), fun p ob H F w s e => L.rf p ob H F w s (e.base S2.ext), fun p H F x s e => L.rg p H F x s (e.base S2.ext), fun z => (by cases z), fun C ns ds env σ H F s dx fs z => L.ex C ns ds env σ H F s dx fs (up z)⟩
      · have e : i = ds.length := by omega
        subst e
        rw [List.drop_length] at h
        exact .inl ⟨y2 rfl, L.nx env σ H F s S h⟩
    · subst e
      exact L.ex C ns ds env σ H1 F1 s1 dx fs (S.step x at_) e1 e2 e3 h2
end
end Pl
/-! The pure layer, part 9: while, own lists, pairs, defs. -/
namespace Pl
open PySem PySem.Spec PyProof.Rows L2

theorem Sim.own {K : Frg} {G : Gh} {H0 F0 H F : Hp} {env : Env} {σ : L2.St} {s : G.S} {i : Nat} {w : OD} (S : Sim K G H0 F0 env σ H F s) (hi : env[i]? = some (.ow w)) :
    ∃ p o, σ[i]? = some (some (.ref p)) ∧ H p = some o ∧ F p = none ∧ ¬ G.fp p ∧ H0 p = none ∧ OwnO K F o w ∧ ∀ o' w', OwnO K F o' w' → Sim K G H0 F0 (env.set i (.ow w')) σ (upd H p o') F s := by
  obtain ⟨L, r⟩ := S.sl
  obtain ⟨p, o, a1, a2, a3, a4, a5, a6, a7, a8, _⟩ := r.get_ow hi
  have ne : ∀ q u, F q = some u → q ≠ p := fun q u z => ne_of_none z a4
  refine ⟨p, o, a1, a3, a4, a5, a6, a7, fun o' w' q' => ⟨fun q u z => by rw [upd_ne (ne q u z)]; exact S.fh q u z, ⟨fun q u nf z => ?_, fun q z => ?_, S.ext.f, fun q u z => by rw [upd_ne (ne q u z)]; exact S.fh q u z, S.ext.n⟩, ?_, S.nf, L, a8 o' w' q'⟩⟩
  · rw [upd_ne (ne_of_none z a6)]; exact S.ext.h q u nf z
  · by_cases c : q = p
    · rw [c, upd_same]; simp
    · rw [upd_ne c]; exact S.ext.d q z
  · exact G.loc s H _ (fun q z => upd_ne fun c => a5 (c ▸ z)) (fun q φ z => by rw [upd_ne (fun c => by rw [c, a3] at z; exact OwnO.no_ext a7 (Option.some.inj z))]; exact z) (Same.refl F) S.at_

section
variable {X : Cx} {G : Gh} {W : WX} {st : Stmt} {rest a b : List Stmt} {w w1 w2 : DW G.S} {e c : Expr} {pos : Pos} {R Ri : Env → DM G.S D} {Rf : Env → DM G.S OD} {Rb : Env → DM G.S Bool} {t : TP}
/-- while -/
theorem psd_while {body : List Stmt} (hp : PassesOwn (model X.prog X.w) X.A X.env X.xe) (hc : PB X G W c Rb) (hb : PSSd X G W body w) : PSd X G W (.While c body [] pos) (wWhile Rb w) := PS.imp (ps_while hp hc hb) fun Dn σ H ⟨H0, F0, F, env, s, De, S, ⟨I, ⟨m, hm⟩, turn⟩, L⟩ => by
  refine ⟨fun m σ H => ∃ F env s, Sim X.K G H0 F0 env σ H F s ∧ I m env s, ⟨m, F, env, s, S, hm⟩, ?_⟩
  rintro m σ H ⟨F, env, s, S, hI⟩
  refine tG_run S (turn m env s hI) L fun c c' H1 F1 s1 S1 x g h1 => ?_
  cases g
  by_cases z : c = true
  · rw [if_pos z] at h1 ⊢
    exact ⟨fun σ' H' => ∃ m', m' < m ∧ ∃ F env s, Sim X.K G H0 F0 env σ' H' F s ∧ I m' env s, fun σ' H' h => h, H0, F0, F1, env, s1,
      { De with nx := fun e z => ∃ m', m' < m ∧ I m' e z, ct := fun e z => ∃ m', m' < m ∧ I m' e z, bk := De.nx, al := false }, S1, h1,
      ⟨fun env σ H F s S ⟨m', l, h⟩ => ⟨m', l, F, env, s, S, h⟩, L.nx, fun env σ H F s S ⟨m', l, h⟩ => ⟨m', l, F, env, s, S, h⟩, L.rt, L.rf, L.rg, fun z => (by cases z), L.ex⟩⟩
  · rw [if_neg z] at h1 ⊢
    exact L.nx _ _ _ _ _ S1 h1

/-! ### own lists -/
/-- x.append(e) -/
def wApp {S : Type} (i : Nat) (R : Env → DM S D) : DW S := fun De env s => ∃ ds, env[i]? = some (.ow (.lst ds)) ∧ ds.length < sizeLine ∧ run (R env) De env (fun d s1 => De.nx (env.set i (.ow (.lst (ds ++ [d])))) s1) s
theorem own_keep {K : Frg} {G : Gh} {H0 F0 H F H1 F1 : Hp} {env : Env} {σ : L2.St} {s s1 : G.S} {i : Nat} {p : Addr} {ds : List D} (S1 : Sim K G H0 F0 env σ H1 F1 s1) (hi : env[i]? = some (.ow (.lst ds))) (e : σ[i]? = some (some (.ref p))) :
    ∃ vs, H1 p = some (.lst vs) ∧ Reps K F1 vs ds ∧ ∀ o' w', OwnO K F1 o' w' → Sim K G H0 F0 (env.set i (.ow w')) σ (upd H1 p o') F1 s1 := by
  obtain ⟨p', o, a1, a2, a3, a4, a5, a6, a7⟩ := S1.own hi
  rw [e] at a1
  cases a1
  obtain ⟨vs, rfl, r⟩ := a6.lst_inv
  exact ⟨vs, a2, r, a7⟩
theorem psd_app (i : Nat) {x : Str} {p apos cpos : Pos} (h : PD X G W e R) (hN : X.N[i]? = some x := by rfl) (hv : Vis X.env.scope x := by first | exact Or.inl rfl | exact Or.inr (Or.inl rfl) | exact Or.inr (Or.inr rfl)) (hd : (x == ("__debug__" : Str)) = false := by decide)
    (hcd : (x == ("__classdict__" : Str)) = false := by decide) (hbase : attributeBase (.Name x p) "append" X.env (eval (.Name x p) X.env) = eval (.Name x p) X.env := by rfl)
    (hfew : ((backTo cpos (starEach [e] X.env)).all (fun x => !x.1) && (backToKw cpos (keywordEach [] X.env)).all (fun x => x.1.isSome) && decide ([e].length + ([] : List Keyword).length + (if ([] : List Keyword).isEmpty then 0 else 1) < 30)) = true := by rfl)
    (hline : (apos.endLine == cpos.line) = true := by rfl) (hs : starEach [e] X.env = (false, eval e X.env) :: starEach [] X.env := by rfl)
    (hw : swapsWith (.Call (.Attribute (.Name x p) "append" apos) [e] [] cpos) none pos.line X.env = pure false := by rfl) :
    PSd X G W (.Expr (.Call (.Attribute (.Name x p) "append" apos) [e] [] cpos) pos) (wApp i R) :=
  PS.imp (ps_expr (pe_bm PySem.F.plainAttrs_list PySem.F.slot_list_append PySem.F.type_list_append mt_append (pe_var hN hv hd hcd) (pa_cons h pa_nil hs) hbase hfew hline hs rfl) hw) fun Dn σ H ⟨H0, F0, F, env, s, De, S, ⟨ds, hi, hz, h⟩, L⟩ => by
    obtain ⟨p, o, a1, a2, a3, a4, a5, a6, a7⟩ := S.own hi
    obtain ⟨vs, rfl, r⟩ := a6.lst_inv
    refine ⟨_, a1, .inl ⟨rfl, vs, .inl (.inl a2)⟩, tG_run S h L fun d v H1 F1 s1 S1 x g k => ?_⟩
    obtain ⟨vs1, b1, b2, b3⟩ := own_keep (H := H) (F := F) (s := s) S1 hi a1
    exact ⟨p, vs1, v, rfl, rfl, b1, by rw [b2.len]; exact hz, L.nx _ _ _ _ _ (b3 (.lst (vs1 ++ [v])) (.lst (ds ++ [d])) (b2.app (.cons g .nil))) k⟩
/-- x.extend(a new list) -/
def wExt {S : Type} (i : Nat) (R : Env → DM S OD) : DW S := fun De env s => ∃ ds, env[i]? = some (.ow (.lst ds)) ∧ run (R env) De env (fun w s1 => ∃ es, w = .lst es ∧ ds.length + es.length ≤ sizeLine ∧ De.nx (env.set i (.ow (.lst (ds ++ es)))) s1) s
theorem psd_ext (i : Nat) {x : Str} {p apos cpos : Pos} (h : PF X G W e Rf) (hN : X.N[i]? = some x := by rfl) (hv : Vis X.env.scope x := by first | exact Or.inl rfl | exact Or.inr (Or.inl rfl) | exact Or.inr (Or.inr rfl)) (hd : (x == ("__debug__" : Str)) = false := by decide)
    (hcd : (x == ("__classdict__" : Str)) = false := by decide) (hbase : attributeBase (.Name x p) "extend" X.env (eval (.Name x p) X.env) = eval (.Name x p) X.env := by rfl)
    (hfew : ((backTo cpos (starEach [e] X.env)).all (fun x => !x.1) && (backToKw cpos (keywordEach [] X.env)).all (fun x => x.1.isSome) && decide ([e].length + ([] : List Keyword).length + (if ([] : List Keyword).isEmpty then 0 else 1) < 30)) = true := by rfl)
    (hline : (apos.endLine == cpos.line) = true := by rfl) (hs : starEach [e] X.env = (false, eval e X.env) :: starEach [] X.env := by rfl)
    (hw : swapsWith (.Call (.Attribute (.Name x p) "extend" apos) [e] [] cpos) none pos.line X.env = pure false := by rfl) :
    PSd X G W (.Expr (.Call (.Attribute (.Name x p) "extend" apos) [e] [] cpos) pos) (wExt i Rf) :=
  PS.imp (ps_expr (pe_bm PySem.F.plainAttrs_list PySem.F.slot_list_extend PySem.F.type_list_extend mt_extend (pe_var hN hv hd hcd) (pa_cons h pa_nil hs) hbase hfew hline hs rfl) hw) fun Dn σ H ⟨H0, F0, F, env, s, De, S, ⟨ds, hi, h⟩, L⟩ => by
    obtain ⟨p, o, a1, a2, a3, a4, a5, a6, a7⟩ := S.own hi
    obtain ⟨vs, rfl, r⟩ := a6.lst_inv
    refine ⟨_, a1, .inl ⟨rfl, vs, .inl (.inl a2)⟩, tG_run S h L fun d v H1 F1 s1 S1 x g ⟨es, hd, hz, k⟩ => ?_⟩
    subst hd
    obtain ⟨vs1, b1, b2, b3⟩ := own_keep (H := H) (F := F) (s := s) S1 hi a1
    obtain ⟨q, ob, rfl, n, hq, fq, oq⟩ := g
    obtain ⟨ws, rfl, rw_⟩ := oq.lst_inv
    exact ⟨p, q, vs1, ws, rfl, rfl, b1, hq, by rw [b2.len, rw_.len]; exact hz, L.nx _ _ _ _ _ (b3 (.lst (vs1 ++ ws)) (.lst (ds ++ es)) (b2.app rw_)) k⟩
/-- x[i] = e, an own list -/
def wPut {S : Type} (i : Nat) (Ri R : Env → DM S D) : DW S := fun De env s => run (R env) De env (fun d s1 => ∃ ds, env[i]? = some (.ow (.lst ds)) ∧ run (Ri env) De env (fun k s2 => ∃ n j, k = .int n ∧ ixN ds.length n = some j ∧ De.nx (env.set i (.ow (.lst (ds.set j d)))) s2) s1) s
theorem psd_put (i : Nat) {x : Str} {p tpos : Pos} {ei : Expr} (h : PD X G W e R) (hi : PD X G W ei Ri) (hN : X.N[i]? = some x := by rfl) (hv : Vis X.env.scope x := by first | exact Or.inl rfl | exact Or.inr (Or.inl rfl) | exact Or.inr (Or.inr rfl)) (hd : (x == ("__debug__" : Str)) = false := by decide)
    (hcd : (x == ("__classdict__" : Str)) = false := by decide)
    (ha : ∀ v, assign (.Subscript (.Name x p) ei tpos) X.env v = (do
      let ov ← holding [v] (eval (.Name x p) X.env)
      let iv ← holding [v, ov] (eval ei X.env)
      standAt tpos
      holding [v, ov, iv] (setItem ov iv v)
      release [v, ov, iv] []) := by intro _; rfl)
    (hs : swapsWithSole [.Subscript (.Name x p) ei tpos] e pos.line X.env = pure false := by rfl) (hw : swappedStores [.Subscript (.Name x p) ei tpos] e X.env = pure none := by rfl)
    (h1 : List.map (·.2) (assignEach [.Subscript (.Name x p) ei tpos] X.env) = [assign (.Subscript (.Name x p) ei tpos) X.env] := by rfl) :
    PSd X G W (.Assign [.Subscript (.Name x p) ei tpos] e pos) (wPut i Ri R) :=
  PS.imp (ps_asg h (pg_sub (pe_var hN hv hd hcd) hi set_list ha) hs hw h1) fun Dn σ H ⟨H0, F0, F, env, s, De, S, h, L⟩ => by
    refine tG_run S h L fun d v H1 F1 s1 S1 x1 g1 ⟨ds, hd, h1⟩ => ?_
    obtain ⟨p, o, a1, a2, a3, a4, a5, a6, a7⟩ := S1.own hd
    refine ⟨_, a1, tG_run S1 h1 L fun k u H2 F2 s2 S2 x2 g2 ⟨n, j, hk, hj, h2⟩ => ?_⟩
    subst hk
    cases g2
    obtain ⟨vs1, b1, b2, b3⟩ := own_keep (H := H) (F := F) (s := s) S2 hd a1
    exact ⟨p, vs1, n, j, rfl, rfl, b1, by rw [b2.len]; exact hj, L.nx _ _ _ _ _ (b3 (.lst (vs1.set j v)) (.lst (ds.set j d)) (b2.put (Rep.mono x2.f g1) j)) h2⟩
theorem reps_erase {K : Frg} {F : Hp} : ∀ {vs : List V} {ds : List D} (i : Nat), Reps K F vs ds → Reps K F (vs.eraseIdx i) (ds.eraseIdx i)
  | _, _, _, .nil => .nil
  | _, _, 0, .cons _ r => r
  | _, _, i + 1, .cons h r => .cons h (reps_erase i r)
/-- x.append(y.pop(e)) -/
def wAppPop {S : Type} (i j : Nat) (R : Env → DM S D) : DW S := fun De env s => ∃ ds es, i ≠ j ∧ env[i]? = some (.ow (.lst ds)) ∧ env[j]? = some (.ow (.lst es)) ∧ ds.length < sizeLine ∧
  run (R env) De env (fun d s1 => ∃ n k y, d = .int n ∧ -(2 ^ 63) ≤ n ∧ n < 2 ^ 63 ∧ seqIndex? n es.length = some k ∧ es[k]? = some y ∧ De.nx ((env.set j (.ow (.lst (es.eraseIdx k)))).set i (.ow (.lst (ds ++ [y])))) s1) s
theorem psd_appPop (i j : Nat) {x y : Str} {p p2 apos apos2 cpos cpos2 : Pos} (h : PD X G W e R) (hN : X.N[i]? = some x := by rfl) (hN2 : X.N[j]? = some y := by rfl) (hv : Vis X.env.scope x := by first | exact Or.inl rfl | exact Or.inr (Or.inl rfl) | exact Or.inr (Or.inr rfl))
    (hv2 : Vis X.env.scope y := by first | exact Or.inl rfl | exact Or.inr (Or.inl rfl) | exact Or.inr (Or.inr rfl)) (hd : (x == ("__debug__" : Str)) = false := by decide) (hd2 : (y == ("__debug__" : Str)) = false := by decide)
    (hcd : (x == ("__classdict__" : Str)) = false := by decide) (hcd2 : (y == ("__classdict__" : Str)) = false := by decide)
    (hbase : attributeBase (.Name x p) "append" X.env (eval (.Name x p) X.env) = eval (.Name x p) X.env := by rfl) (hbase2 : attributeBase (.Name y p2) "pop" X.env (eval (.Name y p2) X.env) = eval (.Name y p2) X.env := by rfl)
    (hfew : ((backTo cpos (starEach [.Call (.Attribute (.Name y p2) "pop" apos2) [e] [] cpos2] X.env)).all (fun x => !x.1) && (backToKw cpos (keywordEach [] X.env)).all (fun x => x.1.isSome)
      && decide ([Expr.Call (.Attribute (.Name y p2) "pop" apos2) [e] [] cpos2].length + ([] : List Keyword).length + (if ([] : List Keyword).isEmpty then 0 else 1) < 30)) = true := by rfl)
    (hfew2 : ((backTo cpos2 (starEach [e] X.env)).all (fun x => !x.1) && (backToKw cpos2 (keywordEach [] X.env)).all (fun x => x.1.isSome) && decide ([e].length + ([] : List Keyword).length + (if ([] : List Keyword).isEmpty then 0 else 1) < 30)) = true := by rfl)
    (hline : (apos.endLine == cpos.line) = true := by rfl) (hline2 : (apos2.endLine == cpos2.line) = true := by rfl)
    (hs : starEach [.Call (.Attribute (.Name y p2) "pop" apos2) [e] [] cpos2] X.env = (false, eval (.Call (.Attribute (.Name y p2) "pop" apos2) [e] [] cpos2) X.env) :: starEach [] X.env := by rfl) (hs2 : starEach [e] X.env = (false, eval e X.env) :: starEach [] X.env := by rfl)
    (hw : swapsWith (.Call (.Attribute (.Name x p) "append" apos) [.Call (.Attribute (.Name y p2) "pop" apos2) [e] [] cpos2] [] cpos) none pos.line X.env = pure false := by rfl) :
    PSd X G W (.Expr (.Call (.Attribute (.Name x p) "append" apos) [.Call (.Attribute (.Name y p2) "pop" apos2) [e] [] cpos2] [] cpos) pos) (wAppPop i j R) :=
  PS.imp (ps_expr (pe_bm PySem.F.plainAttrs_list PySem.F.slot_list_append PySem.F.type_list_append mt_append (pe_var hN hv hd hcd)
    (pa_cons (pe_bm PySem.F.plainAttrs_list PySem.F.slot_list_pop PySem.F.type_list_pop mt_popAt (pe_var hN2 hv2 hd2 hcd2) (pa_cons h pa_nil hs2) hbase2 hfew2 hline2 hs2 rfl) pa_nil hs) hbase hfew hline hs rfl) hw)
  fun Dn σ H ⟨H0, F0, F, env, s, De, S, ⟨ds, es, hij, hi, hj, hz, h⟩, L⟩ => by
    obtain ⟨p, o, a1, a2, a3, a4, a5, a6, a7⟩ := S.own hi
    obtain ⟨vs, rfl, r⟩ := a6.lst_inv
    obtain ⟨p', o', c1, c2, c3, c4, c5, c6, c7⟩ := S.own hj
    obtain ⟨vs', rfl, r'⟩ := c6.lst_inv
    refine ⟨_, a1, .inl ⟨rfl, vs, .inl (.inl a2)⟩, _, c1, .inl ⟨rfl, vs', .inl (.inl c2)⟩, tG_run S h L fun d v H1 F1 s1 S1 x g ⟨n, k, y, hn, h1, h2, hk, hy, kk⟩ => ?_⟩
    subst hn
    cases g
    obtain ⟨vs2, b1, b2, b3⟩ := own_keep (H := H) (F := F) (s := s) S1 hj c1
    obtain ⟨u, hu, ru⟩ := b2.get hy
    have S2 := b3 (.lst (vs2.eraseIdx k)) (.lst (es.eraseIdx k)) (reps_erase k b2)
    have hi2 : (env.set j (.ow (.lst (es.eraseIdx k))))[i]? = some (.ow (.lst ds)) := by rw [List.getElem?_set_ne (fun z => hij z.symm)]; exact hi
    obtain ⟨vs3, d1, d2, d3⟩ := own_keep (H := H) (F := F) (s := s) S2 hi2 a1
    exact ⟨p', vs2, n, k, u, rfl, rfl, b1, h1, h2, by rw [b2.len]; exact hk, hu, p, vs3, u, rfl, rfl, d1, by rw [d2.len]; exact hz, L.nx _ _ _ _ _ (d3 (.lst (vs3 ++ [u])) (.lst (ds ++ [y])) (d2.app (.cons ru .nil))) kk⟩
end

/-! ### values of which some are new objects -/
inductive Mix (K : Frg) (H H' F' : Hp) : List V → List SV → List Addr → Prop
  | nil : Mix K H H' F' [] [] []
  | fz {v : V} {d : D} {vs : List V} {ss : List SV} {L : List Addr} (h : Rep K F' v d) (r : Mix K H H' F' vs ss L) : Mix K H H' F' (v :: vs) (.fz d :: ss) L
  | ow {p : Addr} {o : HO} {w : OD} {vs : List V} {ss : List SV} {L : List Addr} (n : H p = none) (h : H' p = some o) (f : F' p = none) (q : OwnO K F' o w) (m : p ∉ L) (r : Mix K H H' F' vs ss L) : Mix K H H' F' (.ref p :: vs) (.ow w :: ss) (p :: L)
def gM (K : Frg) : Hp → Hp → Hp → List V → List SV → Prop := fun H H' F' vs ss => ∃ L, Mix K H H' F' vs ss L
abbrev tM (K : Frg) (G : Gh) (W : WX) (R : Env → DM G.S (List SV)) : TA := tG K G W (gM K) R
abbrev PMs (X : Cx) (G : Gh) (W : WX) (es : List Expr) (R : Env → DM G.S (List SV)) : Prop := PA X es (tM X.K G W R)
def mNil {S : Type} : Env → DM S (List SV) := fun _ => .ret []
def mFz {S : Type} (R : Env → DM S D) (Rs : Env → DM S (List SV)) : Env → DM S (List SV) := fun env => (R env).bind fun d => (Rs env).bind fun ss => .ret (.fz d :: ss)
def mOw {S : Type} (R : Env → DM S OD) (Rs : Env → DM S (List SV)) : Env → DM S (List SV) := fun env => (R env).bind fun w => (Rs env).bind fun ss => .ret (.ow w :: ss)
theorem Mix.back {K : Frg} {H H1 H' F' : Hp} {vs : List V} {ss : List SV} {L : List Addr} (d : ∀ p, H p ≠ none → H1 p ≠ none) (m : Mix K H1 H' F' vs ss L) : Mix K H H' F' vs ss L := by
  induction m with
  | nil => exact .nil
  | fz h _ ih => exact .fz h ih
  | @ow p _ _ _ _ _ n h f q m _ ih => exact .ow (Classical.byContradiction fun z => d p z n) h f q m ih
theorem Mix.new {K : Frg} {H H' F' : Hp} {vs : List V} {ss : List SV} {L : List Addr} (m : Mix K H H' F' vs ss L) : ∀ p ∈ L, H p = none := by
  induction m with
  | nil => exact fun p z => by cases z
  | fz _ _ ih => exact ih
  | ow n _ _ _ _ _ ih => exact fun p z => (List.mem_cons.mp z).elim (fun z => z ▸ n) (ih p)
theorem Mix.len {K : Frg} {H H' F' : Hp} {vs : List V} {ss : List SV} {L : List Addr} (m : Mix K H H' F' vs ss L) : vs.length = ss.length := by
  induction m with
  | nil => rfl
  | fz _ _ ih => exact congrArg (· + 1) ih
  | ow _ _ _ _ _ _ ih => exact congrArg (· + 1) ih
section
variable {X : Cx} {G : Gh} {W : WX} {e : Expr} {es : List Expr} {R : Env → DM G.S D} {Rf : Env → DM G.S OD} {Rs : Env → DM G.S (List SV)}
theorem pms_nil : PMs X G W [] mNil := PA.imp pa_nil fun σ H Q ⟨H0, F0, F, env, s, o, s', S, ⟨e1, e2⟩, k, xc⟩ => by
  subst e1 e2
  exact k _ rfl [] H F (Ext.refl S.fh) S.at_ ⟨[], .nil⟩
theorem pms_fz (h : PD X G W e R) (hs : PMs X G W es Rs) (hst : starEach (e :: es) X.env = (false, eval e X.env) :: starEach es X.env := by rfl) : PMs X G W (e :: es) (mFz R Rs) :=
  PA.imp (pa_cons h hs hst) fun σ H Q ⟨H0, F0, F, env, s, o, s', S, h, k, xc⟩ => by
    refine tG_bind S h xc fun x v H1 F1 s1 S1 e1 g1 h1 xc1 => ?_
    refine tG_bind S1 h1 xc1 fun xs vs H2 F2 s2 S2 e2 g2 h2 xc2 => ?_
    obtain ⟨rfl, rfl⟩ := h2
    obtain ⟨L, m⟩ := g2
    exact k _ rfl _ H2 F2 (e1.trans e2) S2.at_ ⟨L, .fz (Rep.mono e2.f g1) (m.back e1.d)⟩
theorem pms_ow (h : PF X G W e Rf) (hs : PMs X G W es Rs) (hst : starEach (e :: es) X.env = (false, eval e X.env) :: starEach es X.env := by rfl) : PMs X G W (e :: es) (mOw Rf Rs) :=
  PA.imp (pa_cons h hs hst) fun σ H Q ⟨H0, F0, F, env, s, o, s', S, h, k, xc⟩ => by
    refine tG_bind S h xc fun x v H1 F1 s1 S1 e1 g1 h1 xc1 => ?_
    refine tG_bind S1 h1 xc1 fun xs vs H2 F2 s2 S2 e2 g2 h2 xc2 => ?_
    obtain ⟨rfl, rfl⟩ := h2
    obtain ⟨L, m⟩ := g2
    obtain ⟨p, ob, rfl, n, hp, fp, q⟩ := g1
    have hnf : ¬ G.fp p := fun z => G.dom s H p S.at_ z n
    exact k _ rfl _ H2 F2 (e1.trans e2) S2.at_ ⟨_, .ow n (e2.h _ _ hnf hp) (e2.n _ (by rw [hp]; simp) fp) (q.mono e2.f) (fun z => by have := m.new p z; rw [hp] at this; cases this) (m.back e1.d)⟩
end
def setsE : List Nat → List SV → Env → Env
  | i :: is, x :: xs, env => setsE is xs (env.set i x)
  | _, _, env => env
def setsV : List Nat → List V → L2.St → L2.St
  | i :: is, x :: xs, σ => setsV is xs (σ.set i (some x))
  | _, _, σ => σ
theorem Slots.sets {K : Frg} {G : Gh} {H0 H H' F' : Hp} (hn : ∀ p, H p = none → H0 p = none ∧ ¬ G.fp p) {vs : List V} {ss : List SV} {M : List Addr} (m : Mix K H H' F' vs ss M) :
    ∀ {is : List Nat} {env : Env} {σ : L2.St} {L : List Addr}, Slots K G H0 F' H' env σ L → (∀ p ∈ L, p ∉ M) → (∀ i ∈ is, i < env.length) → ∃ L', Slots K G H0 F' H' (setsE is ss env) (setsV is vs σ) L' := by
  induction m with
  | nil =>
    intro is env σ L r _ _
    cases is <;> exact ⟨L, r⟩
  | fz h _ ih =>
    intro is env σ L r hd hi
    cases is with
    | nil => exact ⟨L, r⟩
    | cons i is =>
      obtain ⟨L', r', sb⟩ := r.set_fz h i
      exact ih r' (fun p z => hd p (sb z)) fun j z => by rw [List.length_set]; exact hi j (List.mem_cons_of_mem _ z)
  | @ow p o w vs ss M n h f q m _ ih =>
    intro is env σ L r hd hi
    cases is with
    | nil => exact ⟨L, r⟩
    | cons i is =>
      obtain ⟨L', r', sb⟩ := r.set_ow h f (hn p n).2 (hn p n).1 q (fun z => hd p z List.mem_cons_self) i (hi i List.mem_cons_self)
      refine ih r' (fun p' z c => ?_) fun j z => by rw [List.length_set]; exact hi j (List.mem_cons_of_mem _ z)
      rcases List.mem_cons.mp (sb z) with c' | c'
      · exact m (c' ▸ c)
      · exact hd p' c' (List.mem_cons_of_mem _ c)
theorem Sim.sets {K : Frg} {G : Gh} {H0 F0 H F H1 F1 : Hp} {env : Env} {σ : L2.St} {s s1 : G.S} {vs : List V} {ss : List SV} {is : List Nat} (S : Sim K G H0 F0 env σ H F s) (e : Ext G.fp H F H1 F1) (a : G.At s1 H1 F1) (g : gM K H H1 F1 vs ss) (hi : ∀ i ∈ is, i < env.length) :
    Sim K G H0 F0 (setsE is ss env) (setsV is vs σ) H1 F1 s1 := by
  obtain ⟨M, m⟩ := g
  obtain ⟨L, r⟩ := S.sl
  have S1 := S.step e a
  refine ⟨S1.fh, S1.ext, S1.at_, S1.nf, Slots.sets (fun p n => ⟨Classical.byContradiction fun z => S.ext.d p z n, fun z => G.dom s H p S.at_ z n⟩) m (r.ext e) (fun p z c => r.own_at p z (m.new p c)) hi⟩
/-- x, y = a, b -/
def wPar {S : Type} (is : List Nat) (R : Env → DM S (List SV)) : DW S := fun De env s => run (R env) De env (fun ss s1 => ss.length = is.length ∧ De.nx (setsE is ss env) s1) s
section
variable {X : Cx} {G : Gh} {W : WX} {a b c : Expr} {Rs : Env → DM G.S (List SV)} {px py pz pt pt2 pos : Pos} {kt k2 : Nat} {x y z : Str}
theorem psd_par (i j : Nat) (h : PMs X G W [a, b] Rs) (hc : X.calm = true) (hN : X.N.Nodup) {kt k2 pt2} (hi : X.N[i]? = some x := by rfl) (hj : X.N[j]? = some y := by rfl) (hij : i ≠ j := by decide) (hx : X.env.scope.names.lookup x = some .local := by rfl) (hy : X.env.scope.names.lookup y = some .local := by rfl)
    (hw : swappedStores [.Tuple [.Name x px, .Name y py] kt pt] (.Tuple [a, b] k2 pt2) X.env = pure (some [x, y]) := by rfl)
    (hs : swapsWithSole [.Tuple [.Name x px, .Name y py] kt pt] (.Tuple [a, b] k2 pt2) pos.line X.env = pure false := by rfl) : PSd X G W (.Assign [.Tuple [.Name x px, .Name y py] kt pt] (.Tuple [a, b] k2 pt2) pos) (wPar [i, j] Rs) := by
  have P := ps_par hc hN hi hj hij hx hy h hw hs
  refine ⟨fun pins s σ H Dn I hq => P.run pins s σ H Dn I ?_⟩
  obtain ⟨H0, F0, F, env, s', De, S, h, L⟩ := hq
  have l1 := lt_of_N S I.len hi
  have l2 := lt_of_N S I.len hj
  refine tG_run S h L fun ss vs H1 F1 s1 S1 x1 g ⟨hl, k⟩ => ?_
  have S2 := S.sets (is := [i, j]) x1 S1.at_ g fun q hq => by
    simp only [List.mem_cons, List.not_mem_nil, or_false] at hq
    rcases hq with e | e <;> subst e <;> assumption
  obtain ⟨M, m⟩ := g
  obtain ⟨v, w, rfl⟩ : ∃ v w, vs = [v, w] := by
    have hl2 := m.len.trans hl
    match vs, hl2 with
    | [v, w], _ => exact ⟨v, w, rfl⟩
  exact ⟨v, w, rfl, L.nx _ _ _ _ _ S2 k⟩
theorem psd_par3 (i j l : Nat) (h : PMs X G W [a, b, c] Rs) (hc : X.calm = true) (hN : X.N.Nodup) {kt k2 pt2} (hi : X.N[i]? = some x := by rfl) (hj : X.N[j]? = some y := by rfl) (hl : X.N[l]? = some z := by rfl) (hij : i ≠ j := by decide) (hil : i ≠ l := by decide) (hjl : j ≠ l := by decide)
    (hx : X.env.scope.names.lookup x = some .local := by rfl) (hy : X.env.scope.names.lookup y = some .local := by rfl) (hz : X.env.scope.names.lookup z = some .local := by rfl)
    (hw : swappedStores [.Tuple [.Name x px, .Name y py, .Name z pz] kt pt] (.Tuple [a, b, c] k2 pt2) X.env = pure (some [x, y, z]) := by rfl)
    (hs : swapsWithSole [.Tuple [.Name x px, .Name y py, .Name z pz] kt pt] (.Tuple [a, b, c] k2 pt2) pos.line X.env = pure false := by rfl) : PSd X G W (.Assign [.Tuple [.Name x px, .Name y py, .Name z pz] kt pt] (.Tuple [a, b, c] k2 pt2) pos) (wPar [i, j, l] Rs) := by
  have P := ps_par3 hc hN hi hj hl hij hil hjl hx hy hz h hw hs
  refine ⟨fun pins s σ H Dn I hq => P.run pins s σ H Dn I ?_⟩
  obtain ⟨H0, F0, F, env, s', De, S, h, L⟩ := hq
  have l1 := lt_of_N S I.len hi
  have l2 := lt_of_N S I.len hj
  have l3 := lt_of_N S I.len hl
  refine tG_run S h L fun ss vs H1 F1 s1 S1 x1 g ⟨hlen, k⟩ => ?_
  have S2 := S.sets (is := [i, j, l]) x1 S1.at_ g fun q hq => by
    simp only [List.mem_cons, List.not_mem_nil, or_false] at hq
    rcases hq with e | e | e <;> subst e <;> assumption
  obtain ⟨M, m⟩ := g
  obtain ⟨u, v, w, rfl⟩ : ∃ u v w, vs = [u, v, w] := by
    have hl2 := m.len.trans hlen
    match vs, hl2 with
    | [u, v, w], _ => exact ⟨u, v, w, rfl⟩
  exact ⟨u, v, w, rfl, L.nx _ _ _ _ _ S2 k⟩
end

/-! ### a def by its body -/
def G0 : Gh := ⟨Unit, fun _ _ _ => True, fun _ => False, .non, fun _ _ _ _ _ _ _ _ _ => trivial, fun _ _ _ _ _ z => z.elim⟩
def env0 (ds : List D) (m : Nat) : Env := ds.map SV.fz ++ List.replicate m .no
def dEnd (o : Oc D) : DE Unit := { nx := fun _ _ => o = .ok .non, rt := fun d _ => o = .ok d, ex := fun C ns ds _ _ => o = .ex C ns ds }
/-- what a def gives, by its body's reading: n parameters, m further names -/
def dR (w : DW Unit) (n m : Nat) : List D → Oc D → Prop := fun ds o => ds.length = n ∧ w (dEnd o) (env0 ds m) ()
def dRF (w : DW Unit) (n m : Nat) : List D → OD → Prop := fun ds x => ds.length = n ∧ w { nx := fun _ _ => False, rt := fun _ _ => False, rf := fun y _ => x = y } (env0 ds m) ()
theorem Slots.start {K : Frg} {G : Gh} {H0 F H : Hp} : ∀ {vs : List V} {ds : List D} (m : Nat), Reps K F vs ds → Slots K G H0 F H (env0 ds m) (vs.map some ++ List.replicate m none) []
  | _, _, 0, .nil => .nil
  | _, _, m + 1, .nil => .no (Slots.start (vs := []) (ds := []) m .nil)
  | _, _, m, .cons h r => .fz h (Slots.start m r)
abbrev WE' (E : XK) : WX := fun c d _ H => E c d H
section
variable {P : Program} {w : World} {K : Frg} {mg : Str → Option Value} {base : Heap} {x qual : Str} {params : Arguments} {body : List Stmt} {scope : Scope} {f : Addr} {fd : FuncData} {N ps : List Str} {k : Nat}
theorem okD (D0 : FunD K x qual params body scope [] [] f fd) (S : FnScope N ps scope) (wd : DW Unit) (m : Nat) (hm : N.length - ps.length = m)
    (hb : ∀ (cdv : Value) (A : Around) (outer : List PySem.Env) (s : Shared) (H : Hp) (E : XK), Room k (A.deeper (envOfC qual scope s.heap.objs.size f cdv)) → PSSd (cxOf (L2.CX P w) P w K mg base N qual scope f cdv A outer s H E) G0 (WE' E) body wd) :
    FnOk P w K mg base (L2.CX P w) (k + 1) f fd ps (spP K (dR wd ps.length m)) := by
  refine D0.ok S (fun vs H Q E h => ?_) (fun cdv A outer s H vs Q E hr h => ⟨_, hb cdv A outer s H E hr, ?_⟩)
  · obtain ⟨F, ds, o, _, r, ⟨hl, _⟩, _⟩ := h
    rw [r.len, hl]
  · obtain ⟨F, ds, o, sf, r, ⟨hl, hw⟩, k1, k2⟩ := h
    have el : N.length - vs.length = m := by rw [r.len, hl, hm]
    refine ⟨H, F, F, env0 ds m, (), dEnd o, ⟨sf, Ext.refl sf, trivial, fun _ z => z.elim, [], ?_⟩, hw, ?_⟩
    · show Slots K G0 H F H (env0 ds m) (start N vs) []
      rw [L2.start, el]
      exact Slots.start m r
    · exact ⟨fun env σ H' F' s S z => k1 _ z _ H' F' S.ext .non, fun _ _ _ _ _ _ z => z.elim, fun _ _ _ _ _ _ z => z.elim, fun v H' F' d s e _ rv z => k1 _ z v H' F' e rv, fun _ _ _ _ _ _ _ _ _ _ _ _ z => z.elim, fun _ _ _ _ _ _ _ _ _ _ _ _ z => z.elim, fun z => (by cases z),
        fun C ns ds env σ H' F' s dx fs S a1 a2 a3 z => k2 C ns ds z dx fs H' F' S.ext a1 a2 a3⟩
theorem okF (D0 : FunD K x qual params body scope [] [] f fd) (S : FnScope N ps scope) (wd : DW Unit) (m : Nat) (hm : N.length - ps.length = m)
    (hb : ∀ (cdv : Value) (A : Around) (outer : List PySem.Env) (s : Shared) (H : Hp) (E : XK), Room k (A.deeper (envOfC qual scope s.heap.objs.size f cdv)) → PSSd (cxOf (L2.CX P w) P w K mg base N qual scope f cdv A outer s H E) G0 (WE' E) body wd) :
    FnOk P w K mg base (L2.CX P w) (k + 1) f fd ps (spF K (dRF wd ps.length m)) := by
  refine D0.ok S (fun vs H Q E h => ?_) (fun cdv A outer s H vs Q E hr h => ⟨_, hb cdv A outer s H E hr, ?_⟩)
  · obtain ⟨F, ds, o, _, r, ⟨hl, _⟩, _⟩ := h
    rw [r.len, hl]
  · obtain ⟨F, ds, o, sf, r, ⟨hl, hw⟩, k1⟩ := h
    have el : N.length - vs.length = m := by rw [r.len, hl, hm]
    refine ⟨H, F, F, env0 ds m, (), _, ⟨sf, Ext.refl sf, trivial, fun _ z => z.elim, [], ?_⟩, hw, ?_⟩
    · show Slots K G0 H F H (env0 ds m) (start N vs) []
      rw [L2.start, el]
      exact Slots.start m r
    · exact ⟨fun _ _ _ _ _ _ z => z.elim, fun _ _ _ _ _ _ z => z.elim, fun _ _ _ _ _ _ z => z.elim, fun _ _ _ _ _ _ _ _ z => z.elim, fun p ob H' F' y s e _ n hp fp q z => by
        have z' : o = y := z
        subst z'
        exact k1 p ob H' F' e n hp fp q, fun _ _ _ _ _ _ _ _ _ _ _ _ z => z.elim, fun z => (by cases z), fun _ _ _ _ _ _ _ _ _ _ _ _ _ _ z => z.elim⟩
def gEnd {S : Type} (o : Oc D) (s' : S) : DE S := { nx := fun _ s => o = .ok .non ∧ s = s', rt := fun d s => o = .ok d ∧ s = s', ex := fun C ns ds _ s => o = .ex C ns ds ∧ s = s' }
def dRG {S : Type} (w : DW S) (n m : Nat) : S → List D → Oc D → S → Prop := fun s ds o s' => ds.length = n ∧ w (gEnd o s') (.gh :: env0 ds m) s
theorem okG {ι S : Type} {mk : ι → GhS S} {p0 : Str} (D0 : FunD K x qual params body scope [] [] f fd) (Sc : FnScope N (p0 :: ps) scope) (wd : DW S) (m : Nat) (hm : N.length - (p0 :: ps).length = m)
    (hb : ∀ (i : ι) (cdv : Value) (A : Around) (outer : List PySem.Env) (s : Shared) (H : Hp) (E : XK), Room k (A.deeper (envOfC qual scope s.heap.objs.size f cdv)) → PSSd (cxOf (L2.CX P w) P w K mg base N qual scope f cdv A outer s H E) (mk i).g (WE' E) body wd) :
    FnOk P w K mg base (L2.CX P w) (k + 1) f fd (p0 :: ps) (spG mk K (dRG wd ps.length m)) := by
  refine D0.ok Sc (fun vs H Q E h => ?_) (fun cdv A outer s H vs Q E hr h => ?_)
  · obtain ⟨i, F, s, ds, o, s', vs', rfl, _, _, _, r, ⟨hl, _⟩, _⟩ := h
    rw [List.length_cons, r.len, hl]
    rfl
  · obtain ⟨i, F, g, ds, o, g', vs', rfl, sf, nf, at_, r, ⟨hl, hw⟩, k1, k2⟩ := h
    have el : N.length - (((mk i).self) :: vs').length = m := by rw [List.length_cons, r.len, hl]; exact hm
    refine ⟨_, hb i cdv A outer s H E hr, H, F, F, .gh :: env0 ds m, g, gEnd o g', ⟨sf, Ext.refl sf, at_, nf, [], ?_⟩, hw, ?_⟩
    · show Slots K (mk i).g H F H (.gh :: env0 ds m) (start N ((mk i).self :: vs')) []
      rw [L2.start, el]
      exact .gh (Slots.start m r)
    · exact ⟨fun env σ H' F' s S ⟨z, z2⟩ => k1 _ z _ H' F' S.ext (z2 ▸ S.at_) .non, fun _ _ _ _ _ _ z => z.elim, fun _ _ _ _ _ _ z => z.elim, fun v H' F' d s e a rv ⟨z, z2⟩ => k1 _ z v H' F' e (z2 ▸ a) rv, fun _ _ _ _ _ _ _ _ _ _ _ _ z => z.elim, fun _ _ _ _ _ _ _ _ _ _ _ _ z => z.elim, fun z => (by cases z),
        fun C ns ds env σ H' F' s dx fs S a1 a2 a3 ⟨z, z2⟩ => k2 C ns ds z dx fs H' F' S.ext (z2 ▸ S.at_) a1 a2 a3⟩
/-- a def of the module by its name -/
theorem FnD.of {sp : Sp} (D0 : FunD K x qual params body scope [] [] f fd) {y : Str} (hm : mg y = some (.ref f))
    (hb : ∀ (kV doc pm : Value) (an : Option Addr) (cdv ct : Value) (us : List Value), us.length = ps.length → bindArgs (PySem.W.fnOf x qual params body scope .none kV doc pm an cdv ct) ⟨us, []⟩ = pure (ps.zip us))
    (ok : FnOk P w K mg base (L2.CX P w) k f fd ps sp) : FnD P w K mg base k y ps sp := ⟨f, fd, hm, D0.kp, D0.bindsN hb, ok⟩
end
end Pl
/-! The pure layer, part 10: own dicts,. -/
namespace Pl
open PySem PySem.Spec PyProof.Rows L2

/-! ### dicts -/
def keyD : D → Option Key
  | .int i => some (.inl i)
  | .str x => some (.inr x)
  | _ => none
def keysL : List D → Option (List Key)
  | [] => some []
  | d :: r => (keyD d).bind fun k => (keysL r).map (k :: ·)
def keysD : D → Option (List Key)
  | .tup ds => keysL ds
  | _ => none
def dGetK {κ : Type} [DecidableEq κ] : List κ → List D → κ → Option D
  | k' :: ks, d :: ds, k => if k' = k then some d else dGetK ks ds k
  | _, _, _ => none
def dSetK {κ : Type} [DecidableEq κ] : List κ → List D → κ → D → List D
  | k' :: ks, d :: ds, k, x => if k' = k then x :: dSetK ks ds k x else d :: dSetK ks ds k x
  | _, _, _, _ => []
def ddLook : D → D → Option (Option D)
  | .dic ks ds, k => (keyD k).map (dGetK ks ds)
  | .dit ks ds, k => (keysD k).map (dGetK ks ds)
  | _, _ => none
def putKD {κ : Type} [DecidableEq κ] (ks : List κ) (ds : List D) (k : κ) (x : D) : List κ × List D := if k ∈ ks then (ks, dSetK ks ds k x) else (ks ++ [k], ds ++ [x])
def odPut : OD → D → D → Option OD
  | .dic ks ds, k, x => (keyD k).map fun k => .dic (putKD ks ds k x).1 (putKD ks ds k x).2
  | .dit ks ds, k, x => (keysD k).map fun k => .dit (putKD ks ds k x).1 (putKD ks ds k x).2
  | _, _, _ => none
def odSize : OD → Nat
  | .dic ks _ => ks.length
  | .dit ks _ => ks.length
  | _ => 0
section
variable {K : Frg} {F H : Hp}
theorem Rep.key {v : V} {d : D} {k : Key} (r : Rep K F v d) (h : keyD d = some k) : v = kV k := by
  cases r <;> simp [keyD] at h <;> subst h <;> rfl
theorem Reps.keys : ∀ {vs : List V} {ds : List D} {k : List Key}, Reps K F vs ds → keysL ds = some k → vs = k.map kV
  | _, _, _, .nil, h => by simp [keysL] at h; subst h; rfl
  | _, _, _, .cons r rs, h => by
    simp only [keysL, Option.bind_eq_some_iff, Option.map_eq_some_iff] at h
    obtain ⟨k1, h1, k2, h2, rfl⟩ := h
    rw [r.key h1, Reps.keys rs h2]
    rfl
theorem get_kv {κ : Type} [DecidableEq κ] {k : κ} : ∀ {kvs : List (κ × V)} {ds : List D}, Reps K F (kvs.map (·.2)) ds → (dGetK (kvs.map (·.1)) ds k = none → valV kvs k = none) ∧ ∀ d, dGetK (kvs.map (·.1)) ds k = some d → ∃ v, valV kvs k = some v ∧ Rep K F v d
  | [], _, r => ⟨fun _ => rfl, fun d h => by cases r; simp [dGetK] at h⟩
  | p :: kvs, _, r => by
    cases r with
    | cons r rs =>
      obtain ⟨i1, i2⟩ := get_kv (k := k) rs
      by_cases c : p.1 = k
      · refine ⟨fun h => ?_, fun d h => ⟨p.2, valV_pos c, ?_⟩⟩
        · simp [dGetK, c] at h
        · simp [dGetK, c] at h
          exact h ▸ r
      · refine ⟨fun h => ?_, fun d h => ?_⟩
        · simp [dGetK, c] at h
          rw [valV_neg c]; exact i1 h
        · simp [dGetK, c] at h
          rw [valV_neg c]; exact i2 d h
/-- a dict that can be read -/
def DAt (K : Frg) (F H : Hp) (a : Addr) : D → Prop
  | .dic ks ds => ∃ kvs, H a = some (.dK kvs) ∧ kvs.map (·.1) = ks ∧ Reps K F (kvs.map (·.2)) ds
  | .dit ks ds => ∃ kvs, H a = some (.dT kvs) ∧ kvs.map (·.1) = ks ∧ Reps K F (kvs.map (·.2)) ds
  | _ => False
theorem DAt.of_rep {v : V} {d : D} (sf : Same F H) (r : Rep K F v d) (k : D) {o : Option D} (h : ddLook d k = some o) : ∃ a, v = .ref a ∧ DAt K F H a d := by
  cases r <;> simp [ddLook] at h
  · rename_i h' r'
    exact ⟨_, rfl, _, sf _ _ h', rfl, r'⟩
  · rename_i h' r'
    exact ⟨_, rfl, _, sf _ _ h', rfl, r'⟩
theorem DAt.of_own {a : Addr} {o : HO} {w : OD} (h : H a = some o) (q : OwnO K F o w) (k : D) {r : Option D} (e : ddLook w.d k = some r) : DAt K F H a w.d := by
  cases w <;> simp [OD.d, ddLook] at e
  · obtain ⟨kvs, rfl, e1, e2⟩ := q.dic_inv
    exact ⟨kvs, h, e1, e2⟩
  · obtain ⟨kvs, rfl, e1, e2⟩ := q.dit_inv
    exact ⟨kvs, h, e1, e2⟩
theorem DAt.get {a : Addr} {d k : D} {y : V} {o : Option D} (sf : Same F H) (h : DAt K F H a d) (r : Rep K F y k) (e : ddLook d k = some o) : ∃ ov, DGet H a y ov ∧ (o = none → ov = none) ∧ ∀ x, o = some x → ∃ v, ov = some v ∧ Rep K F v x := by
  cases d <;> first | exact False.elim h | skip
  · obtain ⟨kvs, h1, rfl, h3⟩ := h
    simp only [ddLook, Option.map_eq_some_iff] at e
    obtain ⟨kk, hk, rfl⟩ := e
    obtain rfl := r.key hk
    obtain ⟨i1, i2⟩ := get_kv (k := kk) h3
    exact ⟨_, .k h1, i1, i2⟩
  · obtain ⟨kvs, h1, rfl, h3⟩ := h
    simp only [ddLook, Option.map_eq_some_iff] at e
    obtain ⟨kk, hk, rfl⟩ := e
    cases r <;> simp [keysD] at hk
    rename_i q1 q2
    obtain rfl := q2.keys hk
    obtain ⟨i1, i2⟩ := get_kv (k := kk) h3
    exact ⟨_, .t h1 (sf _ _ q1), i1, i2⟩
theorem set_kv {κ : Type} [DecidableEq κ] {k : κ} {v : V} {x : D} (rv : Rep K F v x) : ∀ {kvs : List (κ × V)} {ds : List D}, Reps K F (kvs.map (·.2)) ds → Reps K F ((kvs.map fun kv => if kv.1 = k then (kv.1, v) else kv).map (·.2)) (dSetK (kvs.map (·.1)) ds k x)
  | [], _, r => by cases r; exact .nil
  | p :: kvs, _, r => by
    cases r with
    | cons r rs =>
      have ih := set_kv (k := k) rv rs
      by_cases c : p.1 = k
      · simp only [List.map_cons, dSetK, c, if_true]
        exact .cons rv ih
      · simp only [List.map_cons, dSetK, c, if_false]
        exact .cons r ih
theorem put_kv {κ : Type} [DecidableEq κ] {k : κ} {v : V} {x : D} {kvs : List (κ × V)} {ds : List D} (rv : Rep K F v x) (r : Reps K F (kvs.map (·.2)) ds) :
    (putK kvs k v).map (·.1) = (putKD (kvs.map (·.1)) ds k x).1 ∧ Reps K F ((putK kvs k v).map (·.2)) (putKD (kvs.map (·.1)) ds k x).2 := by
  have e : (kvs.any fun kv => decide (kv.1 = k)) = true ↔ k ∈ kvs.map (·.1) := by
    simp [List.any_eq_true]
  unfold putK putKD
  by_cases c : k ∈ kvs.map (·.1)
  · rw [if_pos (e.mpr c), if_pos c]
    refine ⟨?_, set_kv rv r⟩
    rw [List.map_map]
    refine List.map_congr_left fun p _ => ?_
    show (if p.1 = k then (p.1, v) else p).1 = p.1
    split <;> rfl
  · rw [if_neg (fun z => c (e.mp z)), if_neg c]
    refine ⟨by simp, ?_⟩
    rw [List.map_append]
    exact Reps.app r (.cons rv .nil)
theorem own_put {a : Addr} {o : HO} {w w' : OD} {k x : D} {y v : V} (sf : Same F H) (h : H a = some o) (q : OwnO K F o w) (rk : Rep K F y k) (rv : Rep K F v x) (e : odPut w k x = some w') (hz : odSize w < sizeLine) : ∃ o', DPut H a y v (upd H a o') ∧ OwnO K F o' w' := by
  cases w <;> simp only [odPut, Option.map_eq_some_iff] at e
  · cases e
  · obtain ⟨kvs, rfl, rfl, e2⟩ := q.dic_inv
    obtain ⟨kk, hk, rfl⟩ := e
    obtain rfl := rk.key hk
    have hz' : kvs.length < sizeLine := by simpa [odSize] using hz
    exact ⟨_, .k h hz', put_kv rv e2⟩
  · obtain ⟨kvs, rfl, rfl, e2⟩ := q.dit_inv
    obtain ⟨kk, hk, rfl⟩ := e
    cases rk <;> simp [keysD] at hk
    rename_i q1 q2
    obtain rfl := q2.keys hk
    have hz' : kvs.length < sizeLine := by simpa [odSize] using hz
    exact ⟨_, .t h (sf _ _ q1) hz', put_kv rv e2⟩
  · cases e
end
/-- an own slot, or a datum, that is a dict: read by key -/
def eDGet {S : Type} (Rd Rk : Env → DM S D) : Env → DM S D := fun env => (Rd env).bind fun d => (Rk env).bind fun k => fun s o s' => s' = s ∧ ∃ x, ddLook d k = some (some x) ∧ o = .ok x
def eDGetO {S : Type} (i : Nat) (Rk : Env → DM S D) : Env → DM S D := fun env s o s' => ∃ w, env[i]? = some (.ow w) ∧ (Rk env).bind (fun k => fun s o s' => s' = s ∧ ∃ x, ddLook w.d k = some (some x) ∧ o = .ok x) s o s'
def bDIn {S : Type} (Rk Rd : Env → DM S D) : Env → DM S Bool := fun env => (Rk env).bind fun k => (Rd env).bind fun d => fun s o s' => s' = s ∧ ∃ r, ddLook d k = some r ∧ o = .ok r.isSome
def bDInO {S : Type} (i : Nat) (Rk : Env → DM S D) : Env → DM S Bool := fun env => (Rk env).bind fun k => fun s o s' => s' = s ∧ ∃ w r, env[i]? = some (.ow w) ∧ ddLook w.d k = some r ∧ o = .ok r.isSome
def wDPut {S : Type} (i : Nat) (Rk R : Env → DM S D) : DW S := fun De env s => run (R env) De env (fun x s1 => ∃ w, env[i]? = some (.ow w) ∧ run (Rk env) De env (fun k s2 => ∃ w', odPut w k x = some w' ∧ odSize w < sizeLine ∧ De.nx (env.set i (.ow w')) s2) s1) s
/-- a new dict -/
def fDicK {S : Type} : Env → DM S OD := fun _ => .ret (.dic [] [])
def fDicT {S : Type} : Env → DM S OD := fun _ => .ret (.dit [] [])
section
variable {X : Cx} {G : Gh} {W : WX} {a b e o i : Expr} {R Ra Rb Rk Rd : Env → DM G.S D} {pos : Pos}
theorem own_at {K : Frg} {H0 F0 H F H1 F1 : Hp} {env : Env} {σ : L2.St} {s s1 : G.S} {j : Nat} {w : OD} {p : Addr} (S1 : Sim K G H0 F0 env σ H1 F1 s1) (hi : env[j]? = some (.ow w)) (e : σ[j]? = some (some (.ref p))) :
    ∃ o, H1 p = some o ∧ OwnO K F1 o w ∧ ∀ o' w', OwnO K F1 o' w' → Sim K G H0 F0 (env.set j (.ow w')) σ (upd H1 p o') F1 s1 := by
  obtain ⟨p', o, a1, a2, a3, a4, a5, a6, a7⟩ := S1.own hi
  rw [e] at a1
  cases a1
  exact ⟨o, a2, a6, a7⟩
theorem pf_dicK : PF X G W (.Dict [] [] pos) fDicK := PE.imp pe_dnewK fun σ H Q ⟨H0, F0, F, env, s, o, s', S, ⟨h1, h2⟩, k, xc⟩ => fun p np => by
  subst h2
  have E := Ext.own (fp := fun _ => False) (HO.dK []) S.fh np
  exact k _ h1 _ _ _ (.of_all E) (at_all S E) ⟨p, _, rfl, np, upd_same, none_of_same S.fh np, ⟨rfl, .nil⟩⟩
theorem pf_dicT : PF X G W (.Dict [] [] pos) fDicT := PE.imp pe_dnewT fun σ H Q ⟨H0, F0, F, env, s, o, s', S, ⟨h1, h2⟩, k, xc⟩ => fun p np => by
  subst h2
  have E := Ext.own (fp := fun _ => False) (HO.dT []) S.fh np
  exact k _ h1 _ _ _ (.of_all E) (at_all S E) ⟨p, _, rfl, np, upd_same, none_of_same S.fh np, ⟨rfl, .nil⟩⟩
theorem pd_dget (hu : X.A.units + 1 < cLine) (ho : PD X G W o Rd) (hi : PD X G W i Rk) (hs : NoSl i := by exact fun _ _ => rfl) : PD X G W (.Subscript o i pos) (eDGet Rd Rk) := PE.imp (pe_dget hu ho hi hs) fun σ H Q ⟨H0, F0, F, env, s, o, s', S, h, k, xc⟩ => by
  refine tG_bind S h xc fun d v H1 F1 s1 S1 e1 g1 h1 xc1 => ?_
  refine tG_bind S1 h1 xc1 fun kd y H2 F2 s2 S2 e2 g2 h2 xc2 => ?_
  obtain ⟨rfl, x, hx, rfl⟩ := h2
  obtain ⟨a, rfl, da⟩ := DAt.of_rep S2.fh (Rep.mono e2.f g1) kd hx
  obtain ⟨ov, d1, d2, d3⟩ := da.get S2.fh g2 hx
  obtain ⟨u, rfl, ru⟩ := d3 x rfl
  exact ⟨a, u, rfl, d1, k x rfl u H2 F2 (e1.trans e2) S2.at_ ru⟩
theorem pd_dgetO (j : Nat) {x : Str} {p : Pos} (hu : X.A.units + 1 < cLine) (hi : PD X G W i Rk) (hN : X.N[j]? = some x := by rfl) (hv : Vis X.env.scope x := by first | exact Or.inl rfl | exact Or.inr (Or.inl rfl) | exact Or.inr (Or.inr rfl)) (hd : (x == ("__debug__" : Str)) = false := by decide)
    (hcd : (x == ("__classdict__" : Str)) = false := by decide) (hs : NoSl i := by exact fun _ _ => rfl) : PD X G W (.Subscript (.Name x p) i pos) (eDGetO j Rk) := PE.imp (pe_dget hu (pe_var hN hv hd hcd) hi hs) fun σ H Q ⟨H0, F0, F, env, s, o, s', S, ⟨w, hw, h⟩, k, xc⟩ => by
  obtain ⟨p, ob, a1, a2, a3, a4, a5, a6, a7⟩ := S.own hw
  refine ⟨_, a1, ?_⟩
  refine tG_bind S h xc fun kd y H2 F2 s2 S2 e2 g2 h2 xc2 => ?_
  obtain ⟨rfl, x, hx, rfl⟩ := h2
  obtain ⟨o2, b1, b2, b3⟩ := own_at (H := H) (F := F) (s := s) S2 hw a1
  obtain ⟨ov, d1, d2, d3⟩ := (DAt.of_own b1 b2 kd hx).get S2.fh g2 hx
  obtain ⟨u, rfl, ru⟩ := d3 x rfl
  exact ⟨p, u, rfl, d1, k x rfl u H2 F2 e2 S2.at_ ru⟩
theorem pb_din (hu : X.A.units + 1 < cLine) (hi : PD X G W i Rk) (ho : PD X G W o Rd) (hm : behindInMarks .In o = false := by rfl) : PB X G W (.Compare i [.In] [o] pos) (bDIn Rk Rd) := PT.imp (pt_cmp (pc_din hu hi ho) hm) fun σ H Q ⟨H0, F0, F, env, s, o, s', S, h, k, xc⟩ => by
  refine tG_bind S h xc fun kd y H1 F1 s1 S1 e1 g1 h1 xc1 => ?_
  refine tG_bind S1 h1 xc1 fun d v H2 F2 s2 S2 e2 g2 h2 xc2 => ?_
  obtain ⟨rfl, r, hr, rfl⟩ := h2
  obtain ⟨a, rfl, da⟩ := DAt.of_rep S2.fh g2 kd hr
  obtain ⟨ov, d1, d2, d3⟩ := da.get S2.fh (Rep.mono e2.f g1) hr
  have eo : ov.isSome = r.isSome := by
    cases r with
    | none => rw [d2 rfl] <;> rfl
    | some x => obtain ⟨u, rfl, _⟩ := d3 x rfl; rfl
  refine ⟨a, ov, rfl, d1, _, rfl, k _ rfl _ H2 F2 (e1.trans e2) S2.at_ eo⟩
theorem pb_dinO (j : Nat) {x : Str} {p : Pos} (hu : X.A.units + 1 < cLine) (hi : PD X G W i Rk) (hN : X.N[j]? = some x := by rfl) (hv : Vis X.env.scope x := by first | exact Or.inl rfl | exact Or.inr (Or.inl rfl) | exact Or.inr (Or.inr rfl)) (hd : (x == ("__debug__" : Str)) = false := by decide)
    (hcd : (x == ("__classdict__" : Str)) = false := by decide) (hm : behindInMarks .In (.Name x p) = false := by rfl) : PB X G W (.Compare i [.In] [.Name x p] pos) (bDInO j Rk) := PT.imp (pt_cmp (pc_din hu hi (pe_var hN hv hd hcd)) hm) fun σ H Q ⟨H0, F0, F, env, s, o, s', S, h, k, xc⟩ => by
  refine tG_bind S h xc fun kd y H2 F2 s2 S2 e2 g2 h2 xc2 => ?_
  obtain ⟨rfl, w, r, hw, hr, rfl⟩ := h2
  obtain ⟨p, ob, a1, a2, a3, a4, a5, a6, a7⟩ := S2.own hw
  obtain ⟨ov, d1, d2, d3⟩ := (DAt.of_own a2 a6 kd hr).get S2.fh g2 hr
  have eo : ov.isSome = r.isSome := by
    cases r with
    | none => rw [d2 rfl] <;> rfl
    | some x => obtain ⟨u, rfl, _⟩ := d3 x rfl; rfl
  exact ⟨_, a1, p, ov, rfl, d1, _, rfl, k _ rfl _ H2 F2 e2 S2.at_ eo⟩
theorem psd_dput (j : Nat) {x : Str} {p tpos : Pos} (hu : X.A.units + 1 < cLine) (h : PD X G W e R) (hi : PD X G W i Rk) (hN : X.N[j]? = some x := by rfl) (hv : Vis X.env.scope x := by first | exact Or.inl rfl | exact Or.inr (Or.inl rfl) | exact Or.inr (Or.inr rfl)) (hd : (x == ("__debug__" : Str)) = false := by decide)
    (hcd : (x == ("__classdict__" : Str)) = false := by decide) (hs : swapsWith e (some (.Subscript (.Name x p) i tpos)) pos.line X.env = pure false := by rfl) : PSd X G W (.Assign [.Subscript (.Name x p) i tpos] e pos) (wDPut j Rk R) :=
  PS.imp (ps_dput hu (pe_var hN hv hd hcd) hi h hs) fun Dn σ H ⟨H0, F0, F, env, s, De, S, h, L⟩ => by
    refine tG_run S h L fun d v H1 F1 s1 S1 x1 g1 ⟨w, hw, h1⟩ => ?_
    obtain ⟨p, o, a1, a2, a3, a4, a5, a6, a7⟩ := S1.own hw
    refine ⟨_, a1, tG_run S1 h1 L fun k u H2 F2 s2 S2 x2 g2 ⟨w', hp, hz, h2⟩ => ?_⟩
    obtain ⟨o2, b1, b2, b3⟩ := own_at (H := H) (F := F) (s := s) S2 hw a1
    obtain ⟨o', q1, q2⟩ := own_put S2.fh b1 b2 g2 (Rep.mono x2.f g1) hp hz
    exact ⟨p, _, rfl, q1, L.nx _ _ _ _ _ (b3 o' w' q2) h2⟩
end

end Pl
/-! The pure layer, part 11: conversions; instances made, their attributes written, called. -/
namespace Pl
open PySem PySem.Spec PyProof.Rows L2 RT

/-- tuple(reversed(x)) -/
def eTupRev {S : Type} (R : Env → DM S (List D)) : Env → DM S D := fun env => (R env).bind fun ds => .ret (.tup ds.reverse)
/-- x[::-1] -/
def fRevL {S : Type} (R : Env → DM S (List D)) : Env → DM S OD := fun env => (R env).bind fun ds => .ret (.lst ds.reverse)
/-- list(range(..)) -/
def fRg1 {S : Type} (R : Env → DM S D) : Env → DM S OD := fun env => (R env).bind fun d => .lift (match d with
  | .int n => if n ≤ 16777216 ∧ -16777216 ≤ n then some (.lst ((List.range n.toNat).map fun i : Nat => .int i)) else none
  | _ => none)
def fRg2 {S : Type} (R R2 : Env → DM S D) : Env → DM S OD := fun env => (R env).bind fun d => (R2 env).bind fun e => .lift (match d, e with
  | .int m, .int n => if 0 ≤ m ∧ m ≤ 16777216 ∧ n ≤ 16777216 ∧ 0 ≤ n then some (.lst ((List.range (n - m).toNat).map fun i : Nat => .int (m + i))) else none
  | _, _ => none)
def intsD : D → Option (List Int)
  | .tup ds => dInts ds
  | _ => none
abbrev dLtT : D → D → Option D := fun x y => (intsD x).bind fun a => (intsD y).map fun b => .bl (HT.lexLt a b)
/-- of ints, of tuples of ints -/
abbrev dLtA : D → D → Option D := fun x y => match x with
  | .tup _ => dLtT x y
  | _ => dLt x y
section
variable {X : Cx} {G : Gh} {W : WX} {a b e : Expr} {R Ra Rb : Env → DM G.S D} {Rl : Env → DM G.S (List D)} {pos p p2 pos2 : Pos}
theorem new_use {K : Frg} {H0 F0 H F H1 F1 : Hp} {env : Env} {σ : L2.St} {s1 : G.S} {o : HO} {w : OD} (S1 : Sim K G H0 F0 env σ H1 F1 s1) (e : Ext G.fp H F H1 F1) (q : OwnO K F1 o w) {q0 : Addr} (n : H1 q0 = none) :
    Ext G.fp H F (upd H1 q0 o) F1 ∧ G.At s1 (upd H1 q0 o) F1 ∧ gF K H (upd H1 q0 o) F1 (.ref q0) w := by
  have E := Ext.own (fp := fun _ => False) o S1.fh n
  refine ⟨e.trans (.of_all E), at_all S1 E, q0, o, rfl, ?_, upd_same, none_of_same S1.fh n, q⟩
  cases z : H q0 with
  | none => rfl
  | some oo => exact absurd n (e.d q0 (by rw [z]; simp))
theorem pd_tupRev (hc : X.calm = true) (hm : X.mg "tuple" = none) (hm2 : X.mg "reversed" = none) (h : PL X G W e Rl) (hg : Gl X "tuple" := by rfl) (hg2 : Gl X "reversed" := by rfl)
    (hs : starEach [e] X.env = (false, eval e X.env) :: starEach [] X.env := by rfl)
    (hs2 : starEach [.Call (.Name "reversed" p2) [e] [] pos2] X.env = (false, eval (.Call (.Name "reversed" p2) [e] [] pos2) X.env) :: starEach [] X.env := by rfl) :
    PD X G W (.Call (.Name "tuple" p) [.Call (.Name "reversed" p2) [e] [] pos2] [] pos) (eTupRev Rl) := PE.imp (pe_tupRev hc hg hm hg2 hm2 h hs hs2) fun σ H Q ⟨H0, F0, F, env, s, o, s', S, h, k, xc⟩ => by
  refine tG_bind S h xc fun ds v H1 F1 s1 S1 e1 g1 h1 xc1 => ?_
  obtain ⟨rfl, rfl⟩ := h1
  obtain ⟨a, vs, rfl, ls, r⟩ := g1
  refine ⟨a, vs, rfl, ls.seq S1.fh, fun q n => ?_⟩
  have E := Ext.new (fp := fun _ => False) (HO.tup vs.reverse) S1.fh n
  exact k _ rfl _ _ _ (e1.trans (.of_all E)) (at_all S1 E) (.tup upd_same (Reps.mono E.f r.rev))
theorem pf_revL {k : Nat} {p1 p2 p3 : Pos} (h : PL X G W e Rl) : PF X G W (.Subscript e (.Slice none none (some (.UnaryOp .USub (.Constant (.int 1) k p1) p2)) p3) pos) (fRevL Rl) := PE.imp (pe_revL h) fun σ H Q ⟨H0, F0, F, env, s, o, s', S, h, k, xc⟩ => by
  refine tG_bind S h xc fun ds v H1 F1 s1 S1 e1 g1 h1 xc1 => ?_
  obtain ⟨rfl, rfl⟩ := h1
  obtain ⟨a, vs, rfl, ls, r⟩ := g1
  refine ⟨a, vs, rfl, ls.seq S1.fh, fun q n => ?_⟩
  obtain ⟨u1, u2, u3⟩ := new_use (K := X.K) (o := .lst vs.reverse) (w := .lst ds.reverse) S1 e1 r.rev n
  exact k _ rfl _ _ _ u1 u2 u3
theorem reps_rg {K : Frg} {F : Hp} (m : Int) (n : Nat) : Reps K F ((List.range n).map fun i : Nat => V.int (m + i)) ((List.range n).map fun i : Nat => D.int (m + i)) := by
  have h := Reps.ints (K := K) (F := F) ((List.range n).map fun i : Nat => m + (i : Int))
  rw [List.map_map, List.map_map] at h
  exact h
theorem pf_rg1 (hc : X.calm = true) (hm : X.mg "list" = none) (hm2 : X.mg "range" = none) (h : PD X G W e R) (hg : Gl X "list" := by rfl) (hg2 : Gl X "range" := by rfl)
    (hs : starEach [e] X.env = (false, eval e X.env) :: starEach [] X.env := by rfl)
    (hs2 : starEach [.Call (.Name "range" p2) [e] [] pos2] X.env = (false, eval (.Call (.Name "range" p2) [e] [] pos2) X.env) :: starEach [] X.env := by rfl) :
    PF X G W (.Call (.Name "list" p) [.Call (.Name "range" p2) [e] [] pos2] [] pos) (fRg1 R) := PE.imp (pe_listRg hc hg hm (prg_1 hg2 hm2 h hs) hs2) fun σ H Q ⟨H0, F0, F, env, s, o, s', S, h, k, xc⟩ => by
  refine tG_bind S h xc fun d v H1 F1 s1 S1 e1 g1 h1 xc1 => ?_
  obtain ⟨rfl, x, hx, rfl⟩ := h1
  split at hx
  · rename_i n
    split at hx
    · rename_i c
      cases hx
      cases g1
      refine ⟨n, rfl, ⟨by omega, by omega, by omega, by omega, by omega⟩, fun q hn => ?_⟩
      have e0 : (n - 0).toNat = n.toNat := by omega
      have r := reps_rg (K := X.K) (F := F1) 0 n.toNat
      rw [rgV, e0]
      have r2 : Reps X.K F1 ((List.range n.toNat).map fun i : Nat => V.int (0 + i)) ((List.range n.toNat).map fun i : Nat => D.int i) := by
        have z : ((List.range n.toNat).map fun i : Nat => D.int (0 + i)) = (List.range n.toNat).map fun i : Nat => D.int i := List.map_congr_left fun i _ => by rw [Int.zero_add]
        rw [← z]; exact r
      obtain ⟨u1, u2, u3⟩ := new_use (K := X.K) (o := .lst _) (w := .lst _) S1 e1 r2 hn
      exact k _ rfl _ _ _ u1 u2 u3
    · cases hx
  · cases hx
theorem pf_rg2 (hc : X.calm = true) (hm : X.mg "list" = none) (hm2 : X.mg "range" = none) (ha : PD X G W a Ra) (hb : PD X G W b Rb) (hg : Gl X "list" := by rfl) (hg2 : Gl X "range" := by rfl)
    (na : starEach [a, b] X.env = (false, eval a X.env) :: starEach [b] X.env := by rfl) (nb : starEach [b] X.env = (false, eval b X.env) :: starEach [] X.env := by rfl) (hpl : (backTo pos2 (starEach [b] X.env)).any (·.1) = false := by rfl)
    (hs2 : starEach [.Call (.Name "range" p2) [a, b] [] pos2] X.env = (false, eval (.Call (.Name "range" p2) [a, b] [] pos2) X.env) :: starEach [] X.env := by rfl) :
    PF X G W (.Call (.Name "list" p) [.Call (.Name "range" p2) [a, b] [] pos2] [] pos) (fRg2 Ra Rb) := PE.imp (pe_listRg hc hg hm (prg_2 hg2 hm2 ha hb na nb hpl) hs2) fun σ H Q ⟨H0, F0, F, env, s, o, s', S, h, k, xc⟩ => by
  refine tG_bind S h xc fun d v H1 F1 s1 S1 e1 g1 h1 xc1 => ?_
  refine tG_bind S1 h1 xc1 fun d2 v2 H2 F2 s2 S2 e2 g2 h2 xc2 => ?_
  obtain ⟨rfl, x, hx, rfl⟩ := h2
  split at hx
  · rename_i m n
    split at hx
    · rename_i c
      cases hx
      cases g1
      cases g2
      refine ⟨m, n, rfl, rfl, ⟨by omega, by omega, by omega, by omega, by omega⟩, fun q hn => ?_⟩
      obtain ⟨u1, u2, u3⟩ := new_use (K := X.K) (o := .lst _) (w := .lst _) S2 (e1.trans e2) (reps_rg (K := X.K) (F := F2) m (n - m).toNat) hn
      exact k _ rfl _ _ _ u1 u2 u3
    · cases hx
  · cases hx
theorem Reps.dInts {K : Frg} {F : Hp} : ∀ {vs : List V} {ds : List D} {ns : List Int}, Reps K F vs ds → Pl.dInts ds = some ns → vs = ns.map V.int := fun r h => by
  have e := dInts_inv h
  subst e
  exact Reps.of_ints r
theorem opd_ltT {K : Frg} : OpD K (rLtT K) dLtT := fun H F v w d e x Q sf r1 r2 h k => by
  simp only [dLtT, Option.bind_eq_some_iff, Option.map_eq_some_iff] at h
  obtain ⟨ns, h1, ms, h2, rfl⟩ := h
  cases r1 <;> simp [intsD] at h1
  cases r2 <;> simp [intsD] at h2
  rename_i p1 _ _ q1 q2 p2 _ _ q3 q4
  obtain rfl := Reps.dInts q2 h1
  obtain rfl := Reps.dInts q4 h2
  exact ⟨_, _, ns, ms, rfl, rfl, .of (sf _ _ q1), .of (sf _ _ q3), k _ H F (Ext.refl sf) (.bl _)⟩
theorem pd_ltT (hu : X.A.units < cLine) (ha : PD X G W a Ra) (hb : PD X G W b Rb) : PD X G W (.Compare a [.Lt] [b] pos) (eBin dLtT Ra Rb) := pd_cmp (op_ltT hu) opd_ltT ha hb (nomark _)
end
end Pl
/-! The pure layer, part 12: instances made; their attributes written; len of one, a call of one. -/
namespace Pl
open PySem PySem.Spec PyProof.Rows L2

/-- an instance under hand: its attributes -/
def slf (K : Frg) (C a : Addr) : GhS (List (Str × D)) where
  At := fun s H F => ∃ (dx : Addr) (fs : List (Str × V)), H a = some (.ins C dx fs) ∧ fs.map (·.1) = s.map (·.1) ∧ Reps K F (fs.map (·.2)) (s.map (·.2))
  fp := fun p => p = a
  self := .ref a
  loc := by
    intro s H H' F F' e _ sf ⟨dx, fs, h1, h2, h3⟩
    exact ⟨dx, fs, by rw [e a rfl]; exact h1, h2, Reps.mono sf h3⟩
  dom := by
    intro s H F p ⟨dx, fs, h1, _⟩ e
    rw [e, h1]
    simp
def putFD (f : Str) (d : D) : List (Str × D) → List (Str × D)
  | [] => [(f, d)]
  | (g, x) :: r => if g = f then (g, d) :: r else (g, x) :: putFD f d r
theorem putF_reps {K : Frg} {F : Hp} {f : Str} {v : V} {d : D} (h : Rep K F v d) : ∀ {fs : List (Str × V)} {s : List (Str × D)}, fs.map (·.1) = s.map (·.1) → Reps K F (fs.map (·.2)) (s.map (·.2)) →
    (putF f v fs).map (·.1) = (putFD f d s).map (·.1) ∧ Reps K F ((putF f v fs).map (·.2)) ((putFD f d s).map (·.2))
  | [], [], _, _ => ⟨rfl, .cons h .nil⟩
  | [], _ :: _, e, _ => by cases e
  | _ :: _, [], e, _ => by cases e
  | (g, x) :: fs, (g', y) :: s, e, r => by
    simp only [List.map_cons, List.cons.injEq] at e
    obtain ⟨rfl, e⟩ := e
    simp only [List.map_cons] at r
    cases r with
    | cons r0 r =>
      obtain ⟨i1, i2⟩ := putF_reps h e r
      by_cases c : g = f
      · simp only [putF, putFD, if_pos c, List.map_cons]
        exact ⟨by rw [e], .cons h r⟩
      · simp only [putF, putFD, if_neg c, List.map_cons]
        exact ⟨by rw [i1], .cons r0 i2⟩
def lookFD : List (Str × D) → Str → Option D
  | [], _ => none
  | (g, x) :: r, f => if f = g then some x else lookFD r f
theorem lookFD_reps {K : Frg} {F : Hp} {f : Str} {d : D} : ∀ {fs : List (Str × V)} {s : List (Str × D)}, fs.map (·.1) = s.map (·.1) → Reps K F (fs.map (·.2)) (s.map (·.2)) → lookFD s f = some d → ∃ v, fs.lookup f = some v ∧ Rep K F v d
  | [], [], _, _, h => by cases h
  | [], _ :: _, e, _, _ => by cases e
  | _ :: _, [], e, _, _ => by cases e
  | (g, x) :: fs, (g', y) :: s, e, r, h => by
    simp only [List.map_cons, List.cons.injEq] at e
    obtain ⟨rfl, e⟩ := e
    simp only [List.map_cons] at r
    cases r with
    | cons r0 r =>
      by_cases c : f = g
      · have hb : (f == g) = true := beq_iff_eq.mpr c
        simp only [lookFD, if_pos c, Option.some.injEq] at h
        subst h
        exact ⟨x, by simp only [List.lookup, hb], r0⟩
      · have hb : (f == g) = false := beq_eq_false_iff_ne.mpr c
        simp only [lookFD, if_neg c] at h
        obtain ⟨v, h1, h2⟩ := lookFD_reps e r h
        exact ⟨v, by simp only [List.lookup, hb]; exact h1, h2⟩
section
variable {X : Cx} {K : Frg} {C a : Addr} {W : WX} {e : Expr} {pos p pos' : Pos} {R : Env → DM (List (Str × D)) D}
/-- self.f -/
theorem pd_self {f x : Str} (j : Nat) (cl : Cls X.K C) (na : NoAttr X.K C f) (hN : X.N[j]? = some x := by rfl) (hv : Vis X.env.scope x := by first | exact Or.inl rfl | exact Or.inr (Or.inl rfl) | exact Or.inr (Or.inr rfl)) (hd : (x == ("__debug__" : Str)) = false := by decide)
    (hcd : (x == ("__classdict__" : Str)) = false := by decide) (hb : attributeBase (.Name x p) f X.env (eval (.Name x p) X.env) = eval (.Name x p) X.env := by rfl) :
    PD X (slf X.K C a).g W (.Attribute (.Name x p) f pos) (fun env s o s' => env[j]? = some .gh ∧ s' = s ∧ ∃ d, lookFD s f = some d ∧ o = .ok d) :=
  PE.imp (pe_fld (pe_var hN hv hd hcd) hb) fun σ H Q ⟨H0, F0, F, env, s, o, s', S, ⟨hj, e1, d, hd, ho⟩, k, xc⟩ => by
    subst e1
    obtain ⟨L, rL⟩ := S.sl
    obtain ⟨dx, fs, h1, h2, h3⟩ := S.at_
    obtain ⟨v, h4, h5⟩ := lookFD_reps h2 h3 hd
    exact ⟨_, rL.get_gh hj, a, C, dx, fs, v, rfl, h1, cl, na, h4, k d ho v H F S.refl S.at_ h5⟩
theorem slf_put {H0 F0 H F : Hp} {env : Env} {σ : L2.St} {s : List (Str × D)} {f : Str} {v : V} {d : D} (S : Sim K (slf K C a).g H0 F0 env σ H F s) (r : Rep K F v d) :
    ∃ dx fs, H a = some (.ins C dx fs) ∧ fs.length = s.length ∧ Sim K (slf K C a).g H0 F0 env σ (upd H a (.ins C dx (putF f v fs))) F (putFD f d s) := by
  obtain ⟨dx, fs, h1, h2, h3⟩ := S.at_
  have fa : F a = none := S.nf a rfl
  have sf : Same F (upd H a (.ins C dx (putF f v fs))) := fun q u z => by rw [upd_ne (ne_of_none z fa)]; exact S.fh q u z
  obtain ⟨i1, i2⟩ := putF_reps (f := f) r h2 h3
  refine ⟨dx, fs, h1, by have := congrArg List.length h2; simpa using this, sf, ⟨fun q u nf z => ?_, fun q z => ?_, S.ext.f, sf, S.ext.n⟩, ⟨dx, _, upd_same, i1, i2⟩, S.nf, ?_⟩
  · rw [upd_ne nf]; exact S.ext.h q u nf z
  · by_cases c : q = a
    · rw [c, upd_same]; simp
    · rw [upd_ne c]; exact S.ext.d q z
  · obtain ⟨L, rL⟩ := S.sl
    refine ⟨L, rL.updH fun z => ?_⟩
    have : ∀ {env : Env} {σ : L2.St} {L : List Addr}, Slots K (slf K C a).g H0 F H env σ L → a ∈ L → False := by
      intro env σ L r
      induction r with
      | nil => intro z; cases z
      | no _ ih => exact ih
      | fz _ _ ih => exact ih
      | ow h f g h0 q m _ ih => exact fun z => (List.mem_cons.mp z).elim (fun z => g z.symm) ih
      | gh _ ih => exact ih
    exact this rL z
/-- self.f = e -/
def wSFld (j : Nat) (f : Str) (R : Env → DM (List (Str × D)) D) : DW (List (Str × D)) := fun De env s => env[j]? = some .gh ∧ run (R env) De env (fun d s1 => s1.length < 1000 ∧ De.nx env (putFD f d s1)) s
theorem psd_sfld {f x : Str} (j : Nat) (cl : Cls X.K C) (na : NoAttr X.K C f) (h : PD X (slf X.K C a).g W e R) (hN : X.N[j]? = some x := by rfl) (hv : Vis X.env.scope x := by first | exact Or.inl rfl | exact Or.inr (Or.inl rfl) | exact Or.inr (Or.inr rfl)) (hd : (x == ("__debug__" : Str)) = false := by decide)
    (hcd : (x == ("__classdict__" : Str)) = false := by decide) (hs : swapsWith e (some (.Attribute (.Name x p) f pos')) pos.line X.env = pure false := by rfl) : PSd X (slf X.K C a).g W (.Assign [.Attribute (.Name x p) f pos'] e pos) (wSFld j f R) :=
  PS.imp (ps_fld (pe_var hN hv hd hcd) h hs) fun Dn σ H ⟨H0, F0, F, env, s, De, S, ⟨hj, h⟩, L⟩ => tG_run S h L fun d v H1 F1 s1 S1 x1 g1 ⟨hz, k⟩ => by
    obtain ⟨LL, rL⟩ := S1.sl
    obtain ⟨dx, fs, h1, h2, S2⟩ := slf_put (f := f) S1 g1
    exact ⟨_, rL.get_gh hj, a, C, dx, fs, rfl, h1, cl, na, by rw [h2]; exact hz, L.nx _ _ _ _ _ S2 k⟩
/-- storing to attributes by a tuple target -/
def gSf (K : Frg) (C a : Addr) (fs : List Str) (j : Nat) : TGs := fun vs σ H Q => ∃ (H0 F0 F : Hp) (env : Env) (s : List (Str × D)) (ds : List D), Sim K (slf K C a).g H0 F0 env σ H F s ∧ env[j]? = some .gh ∧ Reps K F vs ds ∧ ds.length = fs.length ∧ s.length + fs.length < 1000 ∧
  ∀ H', Sim K (slf K C a).g H0 F0 env σ H' F ((fs.zip ds).foldl (fun s p => putFD p.1 p.2 s) s) → Q σ H'
theorem putFD_len (f : Str) (d : D) : ∀ s : List (Str × D), (putFD f d s).length ≤ s.length + 1
  | [] => Nat.le_refl _
  | (g, x) :: r => by
    by_cases c : g = f
    · simp only [putFD, if_pos c, List.length_cons]; omega
    · have := putFD_len f d r
      simp only [putFD, if_neg c, List.length_cons]; omega
theorem pgsf_nil {j : Nat} : PGs X [] (gSf X.K C a [] j) := PGs.imp pgs_nil fun vs σ H Q ⟨H0, F0, F, env, s, ds, S, hj, r, hl, hz, q⟩ => by
  cases ds with
  | nil => cases r; exact ⟨rfl, q H S⟩
  | cons _ _ => cases hl
theorem pgsf_cons {j : Nat} {f x : Str} {fs : List Str} {ts : List Expr} (cl : Cls X.K C) (na : NoAttr X.K C f) (h : PGs X ts (gSf X.K C a fs j)) (hN : X.N[j]? = some x := by rfl) (hv : Vis X.env.scope x := by first | exact Or.inl rfl | exact Or.inr (Or.inl rfl) | exact Or.inr (Or.inr rfl))
    (hd : (x == ("__debug__" : Str)) = false := by decide) (hcd : (x == ("__classdict__" : Str)) = false := by decide)
    (hs : (assignEach (.Attribute (.Name x p) f pos :: ts) X.env).map (·.2) = assign (.Attribute (.Name x p) f pos) X.env :: (assignEach ts X.env).map (·.2) := by rfl) : PGs X (.Attribute (.Name x p) f pos :: ts) (gSf X.K C a (f :: fs) j) := by
  refine PGs.imp (pgs_cons (t := fun v σ H Q => ∃ u, σ[j]? = some (some u) ∧ ∃ a C dx fs, u = V.ref a ∧ H a = some (.ins C dx fs) ∧ Cls X.K C ∧ NoAttr X.K C f ∧ fs.length < 1000 ∧ Q σ (upd H a (.ins C dx (putF f v fs)))) ⟨fun pins s σ H v u Q I r hq => ?_⟩ h hs) fun vs σ H Q ⟨H0, F0, F, env, s, ds, S, hj, r, hl, hz, q⟩ => ?_
  · refine PySem.W.kas_attr (thn ((pe_var hN hv hd hcd).run pins s σ H (fun x H1 => ∃ a C dx fs, x = V.ref a ∧ H1 a = some (.ins C dx fs) ∧ Cls X.K C ∧ NoAttr X.K C f ∧ fs.length < 1000 ∧ Q σ (upd H1 a (.ins C dx (putF f v fs)))) I hq) fun ov s1 ⟨x, H1, I1, rx, a, C, dx, fs, ex, ea, c, n, l, q2⟩ => ?_)
    subst ex
    obtain rfl : ov = Value.ref a := rx
    exact setattr_ok I1 ea c n l r fun s3 I3 => ⟨σ, _, I3, q2⟩
  · cases r with
    | nil => cases hl
    | @cons v d vs ds h r =>
      obtain ⟨LL, rL⟩ := S.sl
      obtain ⟨dx, fs', h1, h2, S2⟩ := slf_put (f := f) S h
      have hz' : s.length + (fs.length + 1) < 1000 := hz
      refine ⟨v, vs, rfl, _, rL.get_gh hj, a, C, dx, fs', rfl, h1, cl, na, by omega, H0, F0, F, env, _, ds, S2, hj, r, Nat.succ.inj hl, ?_, q⟩
      have := putFD_len f d s
      omega
/-- self.f, self.g = e -/
def wSFlds (j : Nat) (fs : List Str) (R : Env → DM (List (Str × D)) D) : DW (List (Str × D)) := fun De env s => env[j]? = some .gh ∧ run (R env) De env (fun d s1 => ∃ ds, d = .tup ds ∧ ds.length = fs.length ∧ s1.length + fs.length < 1000 ∧ De.nx env ((fs.zip ds).foldl (fun s p => putFD p.1 p.2 s) s1)) s
theorem psd_sflds {fs : List Str} {ts : List Expr} {kk : Nat} {tpos : Pos} (j : Nat) (hc : X.calm = true) (h : PD X (slf X.K C a).g W e R) (hg : PGs X ts (gSf X.K C a fs j)) (hn : (assignEach ts X.env).length = fs.length := by rfl) (hst : (assignEach ts X.env).findIdx? (·.1) = none := by rfl)
    (hs : swapsWithSole [.Tuple ts kk tpos] e pos.line X.env = pure false := by rfl) (hw : swappedStores [.Tuple ts kk tpos] e X.env = pure none := by rfl)
    (h1 : List.map (·.2) (assignEach [.Tuple ts kk tpos] X.env) = [assign (.Tuple ts kk tpos) X.env] := by rfl) : PSd X (slf X.K C a).g W (.Assign [.Tuple ts kk tpos] e pos) (wSFlds j fs R) :=
  PS.imp (ps_asg h (pg_tup (k := kk) (pos := tpos) hc hg hn hst) hs hw h1) fun Dn σ H ⟨H0, F0, F, env, s, De, S, ⟨hj, h⟩, L⟩ => tG_run S h L fun d v H1 F1 s1 S1 x1 g1 ⟨ds, hd, hl, hz, k⟩ => by
    subst hd
    cases g1 with
    | tup e0 r => exact ⟨_, _, rfl, SqT.of (S1.fh _ _ e0), by rw [r.len]; exact hl, H0, F0, F1, env, s1, ds, S1, hj, r, hl, hz, fun H' S' => L.nx _ _ _ _ _ S' k⟩
end

/-! ### an instance made -/
/-- a class of the module by its name, its __init__'s promise -/
structure MkD (P : Program) (w : World) (K : Frg) (mg : Str → Option Value) (base : Heap) (k : Nat) (x : Str) (C : Addr) (ps : List Str) (sp : Sp) : Prop where
  ex : ∃ f fd, mg x = some (.ref C) ∧ Mk K C f ∧ Binds K fd ps [] ∧ FnOk P w K mg base (L2.CX P w) k f fd ps sp
def fMake {S : Type} (C : Addr) (R : List (Str × D) → List D → Oc D → List (Str × D) → Prop) (Rs : Env → DM S (List D)) : Env → DM S OD := fun env => (Rs env).bind fun ds => fun s o s' => s' = s ∧ ∃ oc fs, R [] ds oc fs ∧ (match oc with
  | .ok d => d = .non ∧ o = .ok (.ins C (fs.map (·.1)) (fs.map (·.2)))
  | .ex C' ns es => o = .ex C' ns es)
section
variable {X : Cx} {G : Gh} {E : XK} {e : Expr} {es : List Expr} {pos p : Pos} {Rs : Env → DM G.S (List D)} {C : Addr} {k : Nat} {x : Str} {ps : List Str} {R : List (Str × D) → List D → Oc D → List (Str × D) → Prop}
theorem pf_make (M : MkD X.prog X.w X.K X.mg X.base k x C ps (spG (slf X.K C) X.K R)) (hr : Room (k + 1) X.A) (tk : Takes X (WE' E)) (ha : PAs X G (WE' E) (e :: es) Rs) (hg : Gl X x := by rfl) (hdb : (x == ("__debug__" : Str)) = false := by decide)
    (he : starEach (e :: es) X.env = (false, eval e X.env) :: starEach es X.env := by rfl) (hpl : (backTo pos (starEach es X.env)).any (·.1) = false := by rfl) : PF X G (WE' E) (.Call (.Name x p) (e :: es) [] pos) (fMake C R Rs) := by
  obtain ⟨f, fd, hm, mk, hb, Fk⟩ := M.ex
  refine PE.imp (pe_make mk Fk hr hg hm hb .nil (passes_call (E := E) tk fun _ _ _ _ h => h) ha hdb he hpl) fun σ H Q ⟨H0, F0, F, env, s, o, s', S, h, kk, xc⟩ => ?_
  refine tG_bind S h xc fun ds vs H1 F1 s1 S1 e1 g1 h1 xc1 => ?_
  obtain ⟨rfl, oc, fs, hR, hoc⟩ := h1
  intro x dx nx ndx ne
  have fx : F1 x = none := none_of_same S1.fh nx
  have fdx : F1 dx = none := none_of_same S1.fh ndx
  have hx0 : H x = none := Classical.byContradiction fun z => e1.d x z nx
  have sm : Same F1 (upd (upd H1 dx (.own x)) x (.ins C dx [])) := fun q u z => by
    rw [upd_ne (ne_of_none z fx), upd_ne (ne_of_none z fdx)]; exact S1.fh q u z
  have keep : ∀ q u, H1 q = some u → (upd (upd H1 dx (.own x)) x (.ins C dx [])) q = some u := fun q u z => by
    rw [upd_ne (ne_of_none z nx), upd_ne (ne_of_none z ndx)]; exact z
  have ext : ∀ H' F', Ext (fun p => p = x) (upd (upd H1 dx (.own x)) x (.ins C dx [])) F1 H' F' → Ext (fun _ => False) H1 F1 H' F' := fun H' F' y =>
    ⟨fun q u _ z => y.h q u (ne_of_none z nx) (keep q u z), fun q z => by
      cases z' : H1 q with
      | none => exact absurd z' z
      | some u => exact y.d q (by rw [keep q u z']; simp), y.f, y.fh, fun q z => by
      cases z' : H1 q with
      | none => exact absurd z' z
      | some u => exact y.n q (by rw [keep q u z']; simp)⟩
  refine ⟨x, F1, [], ds, oc, fs, vs ++ [], rfl, sm, fun q z => by rw [show q = x from z]; exact fx, ⟨dx, [], upd_same, rfl, .nil⟩, by rw [List.append_nil]; exact g1, hR, fun d z v H' F' y at_ r => ?_, fun C' ns es z dx' fs' H' F' y at_ h1 h2 h3 => ?_⟩
  · subst z
    obtain ⟨rfl, rfl⟩ := hoc
    cases r
    have y' := ext H' F' y
    obtain ⟨dx2, fs2, a1, a2, a3⟩ := at_
    exact ⟨rfl, kk _ rfl _ H' F' (e1.trans (.of_all y')) (at_all S1 y') ⟨x, _, rfl, hx0, a1, y.n x (by rw [upd_same]; simp) fx, rfl, a2, a3⟩⟩
  · subst z
    have y' := ext H' F' y
    exact xc1 C' ns es hoc dx' fs' H' F' (.of_all y') (at_all S1 y') h1 h2 h3
end

/-! ### special methods -/
structure SpD (P : Program) (w : World) (K : Frg) (mg : Str → Option Value) (base : Heap) (k : Nat) (C : Addr) (m : Str) (sp : Sp) : Prop where
  ex : ∃ f, PySem.W.findIn K (.ref C) m = some (some (.ref f)) ∧ PySem.W.isFn K (.ref f) = true ∧ PySem.W.fnIn K f = true ∧ FnR P w K mg base (L2.CX P w) k f sp
def insOf (C : Addr) : D → Prop
  | .ins C' _ _ => C' = C
  | _ => False
/-- len of an instance -/
def eLenO {S : Type} (C : Addr) (Rm : List D → Oc D → Prop) (R : Env → DM S D) : Env → DM S D := fun env => (R env).bind fun d => fun s o s' => s' = s ∧ insOf C d ∧ ∃ n, Rm [d] (.ok (.int n)) ∧ 0 ≤ n ∧ n < 2 ^ 63 ∧ o = .ok (.int n)
/-- an instance called -/
def eCallO {S : Type} (C : Addr) (Rm : List D → Oc D → Prop) (R : Env → DM S D) (Rs : Env → DM S (List D)) : Env → DM S D := fun env => (R env).bind fun d => fun s o s' => insOf C d ∧ (Rs env).bind (fun ds => fun s o s' => s' = s ∧ Rm (d :: ds) o) s o s'
section
variable {X : Cx} {G : Gh} {W : WX} {E : XK} {e f : Expr} {es : List Expr} {pos p : Pos} {R : Env → DM G.S D} {Rs : Env → DM G.S (List D)} {C : Addr} {k : Nat} {Rm : List D → Oc D → Prop}
theorem insOf.at {K : Frg} {F : Hp} {v : V} {d : D} (r : Rep K F v d) (h : insOf C d) : ∃ a dx fs, v = .ref a ∧ F a = some (.ins C dx fs) := by
  cases r <;> first | exact False.elim h | skip
  rename_i h' _
  cases h
  exact ⟨_, _, _, rfl, h'⟩
theorem call_lenO {f : Addr} {sp : Sp} (F : FnR X.prog X.w X.K X.mg X.base (L2.CX X.prog X.w) k f sp) (hr : Room (k + 1) X.A) (hs : PySem.W.findIn X.K (.ref C) "__len__" = some (some (.ref f))) (hf : PySem.W.isFn X.K (.ref f) = true) :
    CallR X (.builtin "len") (fun xs H Q => ∃ a dx fs, xs = [V.ref a] ∧ H a = some (.ins C dx fs) ∧ sp [V.ref a] H (fun v H' => ∃ n : Int, v = .int n ∧ 0 ≤ n ∧ n < 2 ^ 63 ∧ Q (.int n) H') E0) := by
  rintro pins s σ H xs us Q I r ⟨a, dx, fs, rfl, hH, h⟩
  obtain ⟨u, rfl, ru⟩ := r.one
  obtain rfl : u = Value.ref a := ru
  obtain ⟨ox, od, J, hd⟩ := StX.insC_at I (.inr ⟨dx, fs, hH⟩)
  have body : wpAny (model X.prog X.w) X.A.in1 (call (.ref f) [.ref a]) (PySem.W.LenBack (EP X pins σ Q)) X.xe s := by
    refine wpAny_call (codeAny_mono (F X.A.in1 X.stack s H [.ref a] [V.ref a] _ E0 hr.in1 I.env0.in1 (.cons rfl .nil) h) fun r s' hq => ?_)
    cases r with
    | error e => exact passL pins σ H s e s' I hq
    | ok fl =>
      cases fl with
      | ret u =>
        obtain ⟨v, H', I', rv, n, rfl, h0, h1, q⟩ := I.after hq
        obtain ⟨t, rfl⟩ := rv
        exact ⟨⟨h0, h1⟩, .int n, H', I'.tok _, ⟨_, rfl⟩, q⟩
      | next => exact False.elim hq
      | brk => exact False.elim hq
      | cont => exact False.elim hq
  have sp1 : ∀ (Qo : Option Value → Shared → Prop), (∀ v s', PySem.W.LenBack (EP X pins σ Q) v s' → Qo (some v) s') → wpAny (model X.prog X.w) X.A.in1 (callSpecial? (.ref a) (Str.ofString "__len__")) Qo X.xe s := fun Qo hQ =>
    PySem.W.special_fn I.kIn J hs (beq_iff_eq.mp hf) (wpAny_mono body (fun r s' hr => hQ r s' hr) fun _ _ y => y)
  have z : wpAny (model X.prog X.w) X.A.in1 (Builtin.«len» ⟨[.ref a], []⟩) (fun v s' => ∃ x, v = Fin.done (.ret x) ∧ EP X pins σ Q x s') X.xe s := by
    unfold Builtin.«len»
    refine wpAny_bind (m := oneArg "len" _) (wpAny_pure (wpAny_bind (m := callSpecial? (.ref a) (Str.ofString "__len__")) (sp1 _ fun r s' hr => ?_)))
    cases r <;> first | exact hr.elim | skip
    rename_i n u
    obtain ⟨⟨h0, h1⟩, hq⟩ := hr
    refine wpAny_bind (wpAny_holding (wpAny_pure (wpAny_bind (wpAny_letGo ?_))))
    show wpAny _ _ (if n < 0 then _ else if n ≥ 2 ^ 63 then _ else _) _ _ _
    rw [if_neg (by omega), if_neg (by omega)]
    exact wpAny_bind (wpAny_mkInt (wpAny_pure ⟨_, rfl, hq⟩))
  exact Calls.call_function_entry kind_len plain_len entry_len (args_len1 _) z
theorem pd_lenO (Sm : SpD X.prog X.w X.K X.mg X.base k C "__len__" (spP X.K Rm)) (hr : Room (k + 1) X.A) (hm : X.mg "len" = none) (h : PD X G W e R) (hg : Gl X "len" := by rfl) (hs : starEach [e] X.env = (false, eval e X.env) :: starEach [] X.env := by rfl) :
    PD X G W (.Call (.Name "len" p) [e] [] pos) (eLenO C Rm R) := by
  obtain ⟨f, h1, h2, h3, h4⟩ := Sm.ex
  refine PE.imp (pe_callB (call_lenO h4 hr h1 h2) hg hm boot_len (pa_cons h pa_nil hs) (he := hs) (hpl := rfl)) fun σ H Q ⟨H0, F0, F, env, s, o, s', S, h, kk, xc⟩ => ?_
  refine tG_bind S h xc fun d v H1 F1 s1 S1 e1 g1 h1 xc1 => ?_
  obtain ⟨rfl, hi, n, hR, h0, h1, rfl⟩ := h1
  obtain ⟨a, dx, fs, rfl, hF⟩ := insOf.at g1 hi
  refine ⟨a, dx, fs, rfl, S1.fh _ _ hF, F1, [d], _, S1.fh, .cons g1 .nil, hR, fun d' z v H' F' x rv => ?_, fun C ns es z => by cases z⟩
  cases z
  cases rv
  exact ⟨n, rfl, h0, h1, kk _ rfl _ H' F' (e1.trans (.of_all x)) (at_all S1 x) (.int n)⟩
theorem pd_callO (Sm : SpD X.prog X.w X.K X.mg X.base k C "__call__" (spP X.K Rm)) (hr : Room k X.A) (tk : Takes X (WE' E)) (hf : PD X G (WE' E) f R) (ha : PAs X G (WE' E) (e :: es) Rs)
    (ht : eval (.Call f (e :: es) [] pos) X.env = (do callWith pos (← eval f X.env) [] (backTo pos (starEach (e :: es) X.env)) (backToKw pos (keywordEach [] X.env))) := by rfl)
    (he : starEach (e :: es) X.env = (false, eval e X.env) :: starEach es X.env := by rfl) (hpl : (backTo pos (starEach es X.env)).any (·.1) = false := by rfl) : PD X G (WE' E) (.Call f (e :: es) [] pos) (eCallO C Rm R Rs) := by
  obtain ⟨g, h1, h2, h3, h4⟩ := Sm.ex
  refine PE.imp (StX.pe_callO hf ⟨h1, h2, h3⟩ h4 hr (passes_call (E := E) tk fun _ _ _ _ h => h) ha ht he hpl) fun σ H Q ⟨H0, F0, F, env, s, o, s', S, h, kk, xc⟩ => ?_
  refine tG_bind S h xc fun d v H1 F1 s1 S1 e1 g1 h1 xc1 => ?_
  obtain ⟨hi, h1⟩ := h1
  obtain ⟨a, dx, fs, rfl, hF⟩ := insOf.at g1 hi
  refine ⟨a, rfl, ?_⟩
  refine tG_bind S1 h1 xc1 fun ds vs H2 F2 s2 S2 e2 g2 h2 xc2 => ?_
  obtain ⟨rfl, hR⟩ := h2
  refine ⟨.inr ⟨dx, fs, S2.fh _ _ (e2.f _ _ hF)⟩, F2, d :: ds, o, S2.fh, .cons (Rep.mono e2.f g1) g2, hR, fun d' z v H' F' x rv => kk d' z v H' F' ((e1.trans e2).trans (.of_all x)) (at_all S2 x) rv, fun C' ns es z dx' fs' H' F' x a1 a2 a3 => xc2 C' ns es z dx' fs' H' F' (.of_all x) (at_all S2 x) a1 a2 a3⟩
end
end Pl
/-! The pure layer, part 13: calls by keywords. -/
namespace Pl
open PySem PySem.Spec PyProof.Rows L2

/-- the values at the places is -/
def pick {α : Type} (is : List Nat) (l : List α) : List α := is.filterMap fun i => l[i]?
theorem pick_vals {vs : List V} {us : List Value} (r : Vals vs us) : ∀ is : List Nat, Vals (pick is vs) (pick is us)
  | [] => .nil
  | i :: is => by
    have ih := pick_vals r is
    unfold pick at ih ⊢
    rw [List.filterMap_cons, List.filterMap_cons]
    cases h : vs[i]? with
    | none =>
      have h2 : us[i]? = none := by rw [List.getElem?_eq_none_iff] at h ⊢; rw [← r.length]; exact h
      rw [h2]; exact ih
    | some v =>
      obtain ⟨u, hu, ru⟩ := r.get h
      rw [hu]; exact .cons ru ih
theorem pick_reps {K : Frg} {F : Hp} {vs : List V} {ds : List D} (r : Reps K F vs ds) : ∀ is : List Nat, Reps K F (pick is vs) (pick is ds)
  | [] => .nil
  | i :: is => by
    have ih := pick_reps r is
    unfold pick at ih ⊢
    rw [List.filterMap_cons, List.filterMap_cons]
    cases h : ds[i]? with
    | none =>
      have h2 : vs[i]? = none := by rw [List.getElem?_eq_none_iff] at h ⊢; rw [r.len]; exact h
      rw [h2]; exact ih
    | some d =>
      obtain ⟨v, hv, rv⟩ := r.get h
      rw [hv]; exact .cons rv ih
structure FnKw (P : Program) (w : World) (K : Frg) (mg : Str → Option Value) (base : Heap) (k : Nat) (x : Str) (ps ks : List Str) (is : List Nat) (sp : Sp) : Prop where
  ex : ∃ f fd, mg x = some (.ref f) ∧ PySem.W.keepIn K (.ref f) = true ∧ (∀ (s : Shared) (ws : List Value), ws.length = ks.length → BindsTo s fd ⟨[], ks.zip ws⟩ (ps.zip (pick is ws))) ∧ FnOk P w K mg base (L2.CX P w) k f fd ps sp
theorem FnKw.of {P : Program} {w : World} {K : Frg} {mg : Str → Option Value} {base : Heap} {x qual : Str} {params : Arguments} {body : List Stmt} {scope : Scope} {f : Addr} {fd : FuncData} {ps ks : List Str} {is : List Nat} {k : Nat} {sp : Sp} (D0 : FunD K x qual params body scope [] [] f fd) {y : Str} (hm : mg y = some (.ref f))
    (hb : ∀ (kV doc pm : Value) (an : Option Addr) (cdv ct : Value) (ws : List Value), ws.length = ks.length → bindArgs (PySem.W.fnOf x qual params body scope .none kV doc pm an cdv ct) ⟨[], ks.zip ws⟩ = pure (ps.zip (pick is ws)))
    (ok : FnOk P w K mg base (L2.CX P w) k f fd ps sp) : FnKw P w K mg base k y ps ks is sp := by
  refine ⟨f, fd, hm, D0.kp, fun s ws hl => ?_, ok⟩
  obtain ⟨oc, od, dV, kV, doc, pm, an, cdv, ct, osl, rfl, lk, hcd, hD, hK⟩ := D0.ex
  rcases hD with ⟨_, rfl⟩ | ⟨e, _⟩
  · exact .of_eq (hb kV doc pm an cdv ct ws hl)
  · exact absurd rfl e
abbrev PKs (X : Cx) (G : Gh) (W : WX) (kws : List Keyword) (R : Env → DM G.S (List D)) : Prop := PK X kws (tA X.K G W R)
theorem PK.imp {X : Cx} {kws : List Keyword} {t t' : TA} (p : PK X kws t) (h : ∀ σ H Q, t' σ H Q → t σ H Q) : PK X kws t' := ⟨fun ps pins s σ H Q I q => p.run ps pins s σ H Q I (h σ H Q q)⟩
def eCallKw {S : Type} (is : List Nat) (R : List D → Oc D → Prop) (Rs : Env → DM S (List D)) : Env → DM S D := fun env => (Rs env).bind fun ds => fun s o s' => s' = s ∧ ds.length = is.length ∧ R (pick is ds) o
section
variable {X : Cx} {G : Gh} {W : WX} {E : XK} {e : Expr} {kws : List Keyword} {nm : Option Str} {kpos pos p : Pos} {R : Env → DM G.S D} {Rs : Env → DM G.S (List D)} {x : Str} {ps ks : List Str} {is : List Nat} {k : Nat}
theorem pks_nil : PKs X G W [] aNil := PK.imp pk_nil fun σ H Q ⟨H0, F0, F, env, s, o, s', S, ⟨e1, e2⟩, k, _⟩ => by
  subst e2
  exact k _ e1 _ H F S.refl S.at_ .nil
theorem pks_cons (h : PD X G W e R) (hs : PKs X G W kws Rs) : PKs X G W (⟨nm, e, kpos⟩ :: kws) (aCons R Rs) := PK.imp (pk_cons h hs) fun σ H Q ⟨H0, F0, F, env, s, o, s', S, h, k, xc⟩ => by
  refine tG_bind S h xc fun x v H1 F1 s1 S1 e1 g1 h1 xc1 => ?_
  refine tG_bind S1 h1 xc1 fun xs vs H2 F2 s2 S2 e2 g2 h2 xc2 => ?_
  obtain ⟨rfl, rfl⟩ := h2
  exact k _ rfl _ H2 F2 (e1.trans e2) S2.at_ (.cons (Rep.mono e2.f g1) g2)
theorem pd_callKw {Rm : List D → Oc D → Prop} (Fk : FnKw X.prog X.w X.K X.mg X.base k x ps ks is (spP X.K Rm)) (hr : Room k X.A) (tk : Takes X (WE' E)) (hkw : PKs X G (WE' E) kws Rs) (hg : Gl X x := by rfl)
    (hall : (backToKw pos (keywordEach kws X.env)).all (·.1.isSome) = true := by rfl) (hks : (backToKw pos (keywordEach kws X.env)).filterMap (·.1) = ks := by rfl) (hdb : (x == ("__debug__" : Str)) = false := by decide) (hil : is.length = ks.length := by rfl)
    (hpl : ((backTo pos (starEach [] X.env)).any (·.1) || (backToKw pos (keywordEach kws X.env)).any (·.1.isNone)) = false := by rfl) : PD X G (WE' E) (.Call (.Name x p) [] kws pos) (eCallKw is Rm Rs) := by
  obtain ⟨f, fd, hm, hk, hb, F⟩ := Fk.ex
  refine ⟨fun pins s σ H Q I h => ?_⟩
  refine wpAny_Call_Name_kw (ld_glob I hg hm ?_ hdb)
  refine PySem.W.callWith_KW0 (h₀ := X.base) I.ok.mod.kin hk hall ?_ hpl
  have h2 : tA X.K G (WE' E) Rs σ H (fun zs H1 => zs.length = ks.length ∧ spP X.K Rm (pick is zs) H1 Q E) := by
    obtain ⟨H0, F0, F, env, s', o, s'', S, h, kk, xc⟩ := h
    refine tG_bind S h xc fun ds vs H1 F1 s1 S1 e1 g1 h1 xc1 => ?_
    obtain ⟨rfl, hl, hR⟩ := h1
    exact ⟨by rw [g1.len, hl, hil], F1, pick is ds, o, S1.fh, pick_reps g1 is, hR, fun d z v H' F' x rv => kk d z v H' F' (e1.trans (.of_all x)) (at_all S1 x) rv, fun C ns es z dx fs H' F' x a1 a2 a3 => xc1 C ns es z dx fs H' F' (.of_all x) (at_all S1 x) a1 a2 a3⟩
  refine thn (hkw.run pos pins s σ H _ I h2) fun ws s2 ⟨zs, H2, I2, rz, hl, q⟩ => ⟨I2.kIn, ?_⟩
  rw [hks]
  show wpAny _ _ (call (.ref f) [] (ks.zip ws)) _ _ _
  refine wpAny_call (codeAny_mono (F.run X.A X.stack s2 H2 ⟨[], ks.zip ws⟩ (pick is ws) (pick is zs) Q E hr I2.env0 (hb s2 ws (by rw [← rz.length]; exact hl)) (pick_vals rz is) q) fun r s' hq => ?_)
  cases r with
  | error er => exact passes_call (E := E) tk (fun _ _ _ _ h => h) pins σ H2 s2 er s' I2 hq
  | ok fl =>
    cases fl with
    | ret u => exact I2.after hq
    | next => exact False.elim hq
    | brk => exact False.elim hq
    | cont => exact False.elim hq
end
end Pl
/-! The pure layer, part 14: the draw state, a list of a list of numbers and a number. -/
namespace Pl
open PySem PySem.Spec PyProof.Rows L2

theorem dl_flat (p : Addr × Addr) : Flat (dl p).g := fun _ _ _ _ h => h
section
variable {K : Frg} {p : Addr × Addr} {H0 F0 H F : Hp} {env : Env} {σ : L2.St} {s : DlS}
theorem dl_upd {q : Addr} {o : HO} {s' : DlS} (S : Sim K (dl p).g H0 F0 env σ H F s) (hq : q = p.1 ∨ q = p.2) (a : (dl p).At s' (upd H q o) F) : Sim K (dl p).g H0 F0 env σ (upd H q o) F s' := by
  have fq : F q = none := S.nf q hq
  have sf : Same F (upd H q o) := fun b u z => by rw [upd_ne (ne_of_none z fq)]; exact S.fh b u z
  refine ⟨sf, ⟨fun b u nf z => ?_, fun b z => ?_, S.ext.f, sf, S.ext.n⟩, a, S.nf, ?_⟩
  · have hb : b ≠ q := fun e => nf (show b = p.1 ∨ b = p.2 by rw [e]; exact hq)
    rw [upd_ne hb]; exact S.ext.h b u nf z
  · by_cases c : b = q
    · rw [c, upd_same]; simp
    · rw [upd_ne c]; exact S.ext.d b z
  · obtain ⟨L, rL⟩ := S.sl
    refine ⟨L, rL.updH fun z => ?_⟩
    have : ∀ {env : Env} {σ : L2.St} {L : List Addr}, Slots K (dl p).g H0 F H env σ L → q ∈ L → False := by
      intro env σ L r
      induction r with
      | nil => intro z; cases z
      | no _ ih => exact ih
      | fz _ _ ih => exact ih
      | ow h f g h0 q m _ ih => exact fun z => (List.mem_cons.mp z).elim (fun z => g (z ▸ hq)) ih
      | gh _ ih => exact ih
    exact this rL z
theorem dl_cells (S : Sim K (dl p).g H0 F0 env σ H F s) (ns : List Int) : Sim K (dl p).g H0 F0 env σ (upd H p.2 (.lst (ns.map V.int))) F (ns, s.2) := by
  obtain ⟨h0, h1, h2⟩ := S.at_
  exact dl_upd S (.inr rfl) ⟨h0, by rw [upd_ne h0]; exact h1, upd_same⟩
theorem dl_num (S : Sim K (dl p).g H0 F0 env σ H F s) (n : Int) : Sim K (dl p).g H0 F0 env σ (upd H p.1 (.lst [.ref p.2, .int n])) F (s.1, n) := by
  obtain ⟨h0, h1, h2⟩ := S.at_
  exact dl_upd S (.inl rfl) ⟨h0, upd_same, by rw [upd_ne (Ne.symm h0)]; exact h2⟩
end
section
variable {X : Cx} {p : Addr × Addr} {W : WX} {e : Expr} {pos px pc ps apos cpos : Pos} {kc : Nat} {R : Env → DM DlS D}
/-- deal[0], the list itself -/
theorem pe_d0 (j : Nat) {x : Str} (hN : X.N[j]? = some x) (hv : Vis X.env.scope x) (hd : (x == ("__debug__" : Str)) = false) (hcd : (x == ("__classdict__" : Str)) = false) : PE X (.Subscript (.Name x px) (.Constant (.int 0) kc pc) ps)
    (fun σ H Q => ∃ (H0 F0 F : Hp) (env : Env) (s : DlS), Sim X.K (dl p).g H0 F0 env σ H F s ∧ env[j]? = some .gh ∧ Q (.ref p.2) H) :=
  PE.imp (pe_ix ix_list (pe_var hN hv hd hcd) pe_int (fun _ _ => rfl)) fun σ H Q ⟨H0, F0, F, env, s, S, hj, q⟩ => by
    obtain ⟨L, rL⟩ := S.sl
    obtain ⟨h0, h1, h2⟩ := S.at_
    exact ⟨_, rL.get_gh hj, p.1, _, 0, .ref p.2, rfl, rfl, .of h1, rfl, q⟩
/-- deal[1] -/
def eD1 (j : Nat) : Env → DM DlS D := fun env s o s' => s' = s ∧ env[j]? = some .gh ∧ o = .ok (.int s.2)
theorem pd_d1 (j : Nat) {x : Str} (hN : X.N[j]? = some x := by rfl) (hv : Vis X.env.scope x := by first | exact Or.inl rfl | exact Or.inr (Or.inl rfl) | exact Or.inr (Or.inr rfl)) (hd : (x == ("__debug__" : Str)) = false := by decide) (hcd : (x == ("__classdict__" : Str)) = false := by decide) :
    PD X (dl p).g W (.Subscript (.Name x px) (.Constant (.int 1) kc pc) ps) (eD1 j) := PE.imp (pe_ix ix_list (pe_var hN hv hd hcd) pe_int (fun _ _ => rfl)) fun σ H Q ⟨H0, F0, F, env, s, o, s', S, ⟨e1, hj, ho⟩, k, xc⟩ => by
  subst e1
  obtain ⟨L, rL⟩ := S.sl
  obtain ⟨h0, h1, h2⟩ := S.at_
  exact ⟨_, rL.get_gh hj, p.1, _, 1, .int s'.2, rfl, rfl, .of h1, rfl, k _ ho _ H F S.refl S.at_ (.int _)⟩
/-- deal[0][e] -/
def eD0ix (j : Nat) (R : Env → DM DlS D) : Env → DM DlS D := fun env s o s' => env[j]? = some .gh ∧ (R env).bind (fun i => fun s o s' => s' = s ∧ ∃ n m, i = .int n ∧ atI s.1 n = some m ∧ o = .ok (.int m)) s o s'
theorem atI_map {ns : List Int} {n m : Int} (h : atI ns n = some m) : atI (ns.map V.int) n = some (.int m) := by
  unfold atI at h ⊢
  rw [List.length_map]
  cases q : ixN ns.length n with
  | none => rw [q] at h; cases h
  | some k =>
    rw [q] at h
    have h' : ns[k]? = some m := h
    show (ns.map V.int)[k]? = _
    rw [List.getElem?_map, h']
    rfl
theorem pd_d0ix (j : Nat) {x : Str} {ps2 : Pos} (h : PD X (dl p).g W e R) (hs : PlainIx e := by exact fun _ _ => rfl) (hN : X.N[j]? = some x := by rfl) (hv : Vis X.env.scope x := by first | exact Or.inl rfl | exact Or.inr (Or.inl rfl) | exact Or.inr (Or.inr rfl)) (hd : (x == ("__debug__" : Str)) = false := by decide)
    (hcd : (x == ("__classdict__" : Str)) = false := by decide) : PD X (dl p).g W (.Subscript (.Subscript (.Name x px) (.Constant (.int 0) kc pc) ps) e ps2) (eD0ix j R) := PE.imp (pe_ix ix_list (pe_d0 (p := p) j hN hv hd hcd) h hs) fun σ H Q ⟨H0, F0, F, env, s, o, s', S, ⟨hj, h⟩, k, xc⟩ => by
  refine ⟨H0, F0, F, env, s, S, hj, tG_bind S h xc fun i v H1 F1 s1 S1 e1 g1 h1 xc1 => ?_⟩
  obtain ⟨rfl, n, m, rfl, hm, rfl⟩ := h1
  cases g1
  obtain ⟨h0, h1, h2⟩ := S1.at_
  exact ⟨p.2, _, n, .int m, rfl, rfl, .of h2, atI_map hm, k _ rfl _ H1 F1 e1 S1.at_ (.int _)⟩
/-- deal[0] != [] -/
def bD0ne (j : Nat) : Env → DM DlS Bool := fun env s o s' => s' = s ∧ env[j]? = some .gh ∧ ∃ b, dNe (.lst (s.1.map D.int)) (.lst []) = some (.bl b) ∧ o = .ok b
theorem pb_d0ne (j : Nat) {x : Str} {pl ps2 : Pos} (hu : X.A.units + 64 < cLine) (hN : X.N[j]? = some x := by rfl) (hv : Vis X.env.scope x := by first | exact Or.inl rfl | exact Or.inr (Or.inl rfl) | exact Or.inr (Or.inr rfl)) (hd : (x == ("__debug__" : Str)) = false := by decide)
    (hcd : (x == ("__classdict__" : Str)) = false := by decide) : PB X (dl p).g W (.Compare (.Subscript (.Name x px) (.Constant (.int 0) kc pc) ps) [.NotEq] [.List [] pl] ps2) (bD0ne j) :=
  PT.imp (pt_cmpR (op_neD hu) (pe_d0 (p := p) j hN hv hd hcd) (pe_lst pa_nil) (nomark _)) fun σ H Q ⟨H0, F0, F, env, s, o, s', S, ⟨e1, hj, b, hb, ho⟩, k, xc⟩ => by
    subst e1
    refine ⟨H0, F0, F, env, s', S, hj, Nat.zero_le _, fun q nq => ?_⟩
    have E := Ext.own (fp := fun _ => False) (HO.lst []) S.fh nq
    obtain ⟨h0, h1, h2⟩ := at_all S E
    unfold dNe at hb
    split at hb
    · rename_i c
      cases hb
      exact ⟨_, _, (Rep.lst h2 (Reps.ints _)).py (SeqAt.canLay_of_shaped c.1), (Rep.lst upd_same .nil).py (SeqAt.canLay_of_shaped c.2), c.1, c.2, _, rfl, k _ ho _ _ F (.of_all E) (at_all S E) rfl⟩
    · cases hb
/-- deal[0].pop(), a statement -/
def wD0pop (j : Nat) : DW DlS := fun De env s => env[j]? = some .gh ∧ s.1 ≠ [] ∧ De.nx env (s.1.dropLast, s.2)
theorem last_map {ns : List Int} (h : ns ≠ []) : (ns.map V.int)[(ns.map V.int).length - 1]? = some (.int (ns.getLast h)) := by
  rw [List.getElem?_map, List.length_map, ← List.getLast?_eq_getElem?, List.getLast?_eq_some_getLast h]
  rfl
theorem psd_d0pop (j : Nat) {x : Str} (hN : X.N[j]? = some x := by rfl) (hv : Vis X.env.scope x := by first | exact Or.inl rfl | exact Or.inr (Or.inl rfl) | exact Or.inr (Or.inr rfl)) (hd : (x == ("__debug__" : Str)) = false := by decide) (hcd : (x == ("__classdict__" : Str)) = false := by decide)
    (hbase : attributeBase (.Subscript (.Name x px) (.Constant (.int 0) kc pc) ps) "pop" X.env (eval (.Subscript (.Name x px) (.Constant (.int 0) kc pc) ps) X.env) = eval (.Subscript (.Name x px) (.Constant (.int 0) kc pc) ps) X.env := by rfl)
    (hline : (apos.endLine == cpos.line) = true := by rfl) (hw : swapsWith (.Call (.Attribute (.Subscript (.Name x px) (.Constant (.int 0) kc pc) ps) "pop" apos) [] [] cpos) none pos.line X.env = pure false := by rfl) :
    PSd X (dl p).g W (.Expr (.Call (.Attribute (.Subscript (.Name x px) (.Constant (.int 0) kc pc) ps) "pop" apos) [] [] cpos) pos) (wD0pop j) :=
  PS.imp (ps_expr (pe_bm0 PySem.F.plainAttrs_list PySem.F.slot_list_pop PySem.F.type_list_pop mt_pop (pe_d0 (p := p) j hN hv hd hcd) hbase hline) hw) fun Dn σ H ⟨H0, F0, F, env, s, De, S, ⟨hj, hne, h⟩, L⟩ => by
    obtain ⟨h0, h1, h2⟩ := S.at_
    refine ⟨H0, F0, F, env, s, S, hj, .inl ⟨rfl, _, .of h2⟩, p.2, _, _, rfl, rfl, h2, last_map hne, ?_⟩
    rw [← List.map_dropLast]
    exact L.nx _ _ _ _ _ (dl_cells S _) h
/-- x = deal[0].pop() -/
def wD0popTo (j i : Nat) : DW DlS := fun De env s => env[j]? = some .gh ∧ ∃ h : s.1 ≠ [], De.nx (env.set i (.fz (.int (s.1.getLast h)))) (s.1.dropLast, s.2)
theorem psd_d0popTo (j i : Nat) {x y : Str} {py : Pos} (hNd : X.N.Nodup) (hN : X.N[j]? = some x := by rfl) (hi : X.N[i]? = some y := by rfl) (hy : Loc X.env.scope y := by first | exact Or.inl rfl | exact Or.inr rfl) (hv : Vis X.env.scope x := by first | exact Or.inl rfl | exact Or.inr (Or.inl rfl) | exact Or.inr (Or.inr rfl))
    (hd : (x == ("__debug__" : Str)) = false := by decide) (hcd : (x == ("__classdict__" : Str)) = false := by decide)
    (hbase : attributeBase (.Subscript (.Name x px) (.Constant (.int 0) kc pc) ps) "pop" X.env (eval (.Subscript (.Name x px) (.Constant (.int 0) kc pc) ps) X.env) = eval (.Subscript (.Name x px) (.Constant (.int 0) kc pc) ps) X.env := by rfl)
    (hline : (apos.endLine == cpos.line) = true := by rfl) (hs : swapsWith (.Call (.Attribute (.Subscript (.Name x px) (.Constant (.int 0) kc pc) ps) "pop" apos) [] [] cpos) (some (.Name y py)) pos.line X.env = pure false := by rfl)
    (hf : X.fn y = true ∨ X.env.scope.names.lookup y = some .local := by first | exact .inl rfl | exact .inr rfl) :
    PSd X (dl p).g W (.Assign [.Name y py] (.Call (.Attribute (.Subscript (.Name x px) (.Constant (.int 0) kc pc) ps) "pop" apos) [] [] cpos) pos) (wD0popTo j i) :=
  PS.imp (ps_set hNd hi hy (pe_bm0 PySem.F.plainAttrs_list PySem.F.slot_list_pop PySem.F.type_list_pop mt_pop (pe_d0 (p := p) j hN hv hd hcd) hbase hline) hs hf) fun Dn σ H ⟨H0, F0, F, env, s, De, S, ⟨hj, hne, h⟩, L⟩ => by
    obtain ⟨h0, h1, h2⟩ := S.at_
    refine ⟨H0, F0, F, env, s, S, hj, .inl ⟨rfl, _, .of h2⟩, p.2, _, _, rfl, rfl, h2, last_map hne, ?_⟩
    rw [← List.map_dropLast]
    exact L.nx _ _ _ _ _ ((dl_cells S _).set_fz i (.int _)) h
/-- deal[0].append(e) -/
def wD0app (j : Nat) (R : Env → DM DlS D) : DW DlS := fun De env s => env[j]? = some .gh ∧ run (R env) De env (fun d s1 => ∃ n, d = .int n ∧ s1.1.length < sizeLine ∧ De.nx env (s1.1 ++ [n], s1.2)) s
theorem psd_d0app (j : Nat) {x : Str} (h : PD X (dl p).g W e R) (hN : X.N[j]? = some x := by rfl) (hv : Vis X.env.scope x := by first | exact Or.inl rfl | exact Or.inr (Or.inl rfl) | exact Or.inr (Or.inr rfl)) (hd : (x == ("__debug__" : Str)) = false := by decide) (hcd : (x == ("__classdict__" : Str)) = false := by decide)
    (hbase : attributeBase (.Subscript (.Name x px) (.Constant (.int 0) kc pc) ps) "append" X.env (eval (.Subscript (.Name x px) (.Constant (.int 0) kc pc) ps) X.env) = eval (.Subscript (.Name x px) (.Constant (.int 0) kc pc) ps) X.env := by rfl)
    (hfew : ((backTo cpos (starEach [e] X.env)).all (fun x => !x.1) && (backToKw cpos (keywordEach [] X.env)).all (fun x => x.1.isSome) && decide ([e].length + ([] : List Keyword).length + (if ([] : List Keyword).isEmpty then 0 else 1) < 30)) = true := by rfl)
    (hline : (apos.endLine == cpos.line) = true := by rfl) (hs : starEach [e] X.env = (false, eval e X.env) :: starEach [] X.env := by rfl)
    (hw : swapsWith (.Call (.Attribute (.Subscript (.Name x px) (.Constant (.int 0) kc pc) ps) "append" apos) [e] [] cpos) none pos.line X.env = pure false := by rfl) :
    PSd X (dl p).g W (.Expr (.Call (.Attribute (.Subscript (.Name x px) (.Constant (.int 0) kc pc) ps) "append" apos) [e] [] cpos) pos) (wD0app j R) :=
  PS.imp (ps_expr (pe_bm PySem.F.plainAttrs_list PySem.F.slot_list_append PySem.F.type_list_append mt_append (pe_d0 (p := p) j hN hv hd hcd) (pa_cons h pa_nil hs) hbase hfew hline hs rfl) hw) fun Dn σ H ⟨H0, F0, F, env, s, De, S, ⟨hj, h⟩, L⟩ => by
    obtain ⟨h0, h1, h2⟩ := S.at_
    refine ⟨H0, F0, F, env, s, S, hj, .inl ⟨rfl, _, .of h2⟩, tG_run S h L fun d v H1 F1 s1 S1 x1 g ⟨n, hd, hz, k⟩ => ?_⟩
    subst hd
    cases g
    obtain ⟨h0, h1, h2⟩ := S1.at_
    refine ⟨p.2, _, .int n, rfl, rfl, h2, by rw [List.length_map]; exact hz, ?_⟩
    have e2 : s1.1.map V.int ++ [V.int n] = (s1.1 ++ [n]).map V.int := by simp
    rw [e2]
    exact L.nx _ _ _ _ _ (dl_cells S1 _) k
/-- deal[1] = e -/
def wD1set (j : Nat) (R : Env → DM DlS D) : DW DlS := fun De env s => env[j]? = some .gh ∧ run (R env) De env (fun d s1 => ∃ n, d = .int n ∧ De.nx env (s1.1, n)) s
theorem psd_d1set (j : Nat) {x : Str} (h : PD X (dl p).g W e R) (hN : X.N[j]? = some x := by rfl) (hv : Vis X.env.scope x := by first | exact Or.inl rfl | exact Or.inr (Or.inl rfl) | exact Or.inr (Or.inr rfl)) (hd : (x == ("__debug__" : Str)) = false := by decide) (hcd : (x == ("__classdict__" : Str)) = false := by decide)
    (ha : ∀ v, assign (.Subscript (.Name x px) (.Constant (.int 1) kc pc) ps) X.env v = (do
      let ov ← holding [v] (eval (.Name x px) X.env)
      let iv ← holding [v, ov] (eval (.Constant (.int 1) kc pc) X.env)
      standAt ps
      holding [v, ov, iv] (setItem ov iv v)
      release [v, ov, iv] []) := by intro _; rfl)
    (hs : swapsWithSole [.Subscript (.Name x px) (.Constant (.int 1) kc pc) ps] e pos.line X.env = pure false := by rfl) (hw : swappedStores [.Subscript (.Name x px) (.Constant (.int 1) kc pc) ps] e X.env = pure none := by rfl)
    (h1 : List.map (·.2) (assignEach [.Subscript (.Name x px) (.Constant (.int 1) kc pc) ps] X.env) = [assign (.Subscript (.Name x px) (.Constant (.int 1) kc pc) ps) X.env] := by rfl) :
    PSd X (dl p).g W (.Assign [.Subscript (.Name x px) (.Constant (.int 1) kc pc) ps] e pos) (wD1set j R) :=
  PS.imp (ps_asg h (pg_sub (pe_var hN hv hd hcd) pe_int set_list ha) hs hw h1) fun Dn σ H ⟨H0, F0, F, env, s, De, S, ⟨hj, h⟩, L⟩ => tG_run S h L fun d v H1 F1 s1 S1 x1 g ⟨n, hd, k⟩ => by
    subst hd
    cases g
    obtain ⟨LL, rL⟩ := S1.sl
    obtain ⟨h0, h1, h2⟩ := S1.at_
    exact ⟨_, rL.get_gh hj, p.1, _, 1, 1, rfl, rfl, h1, rfl, L.nx _ _ _ _ _ (dl_num S1 n) k⟩
end
end Pl
/-! The pure layer, part 15: a def that hands out a draw state; the def that takes one; the law's promise. -/
namespace Pl
open PySem PySem.Spec PyProof.Rows L2

def spDl (K : Frg) (R : List D → DlS → Prop) : Sp := fun vs H Q E => ∃ (F : Hp) (ds : List D) (x : DlS), Same F H ∧ Reps K F vs ds ∧ R ds x ∧
  ∀ (p : Addr × Addr) (H' F' : Hp), Ext E00 H F H' F' → H p.1 = none → H p.2 = none → F' p.1 = none → F' p.2 = none → (dl p).At x H' F' → Q (.ref p.1) H'
def dRDl (w : DW Unit) (n m : Nat) : List D → DlS → Prop := fun ds x => ds.length = n ∧ w { nx := fun _ _ => False, rt := fun _ _ => False, rg := fun y _ => x = y } (env0 ds m) ()
def wRetDl {S : Type} (Rs : Env → DM S (List SV)) : DW S := fun De env s => run (Rs env) De env (fun ss s1 => ∃ (ns : List Int) (n : Int), ss = [.ow (.lst (ns.map D.int)), .fz (.int n)] ∧ De.rg (ns, n) s1) s
section
variable {X : Cx} {G : Gh} {W : WX} {a b : Expr} {Rs : Env → DM G.S (List SV)} {pos pl : Pos}
theorem psd_retDl (h : PMs X G W [a, b] Rs) : PSd X G W (.Return (some (.List [a, b] pl)) pos) (wRetDl Rs) := PS.imp (ps_ret (pe_lst h)) fun Dn σ H ⟨H0, F0, F, env, s, De, S, h, L⟩ =>
  tG_run S h L fun ss vs H1 F1 s1 S1 x1 g ⟨ns, n, hs, k⟩ => by
    subst hs
    obtain ⟨M, m⟩ := g
    cases m with
    | @ow c o w vs ss M nc hc fc q nm m =>
      cases m with
      | @fz v d vs ss M rv m =>
        cases m
        cases rv
        obtain ⟨vs, rfl, r⟩ := q.lst_inv
        have ev := Reps.of_ints r
        subst ev
        refine ⟨(by decide : 2 ≤ sizeLine), fun q nq => ?_⟩
        have E := Ext.own (fp := fun _ => False) (HO.lst [V.ref c, V.int n]) S1.fh nq
        have n0 : ∀ p, H p = none → H0 p = none := fun p z => Classical.byContradiction fun y => S.ext.d p y z
        have hq : H q = none := Classical.byContradiction fun y => x1.d q y nq
        have cq : c ≠ q := ne_of_none hc nq
        exact L.rg (q, c) _ F1 (ns, n) s1 (S1.ext.trans (.of_all E)) (at_all S1 E) (n0 q hq) (n0 c nc) (none_of_same S1.fh nq) fc ⟨fun z => cq z.symm, upd_same, by rw [upd_ne cq]; exact hc⟩ k
end
section
variable {P : Program} {w : World} {K : Frg} {mg : Str → Option Value} {base : Heap} {x qual : Str} {params : Arguments} {body : List Stmt} {scope : Scope} {f : Addr} {fd : FuncData} {N ps : List Str} {k : Nat}
theorem okDl (D0 : FunD K x qual params body scope [] [] f fd) (S : FnScope N ps scope) (wd : DW Unit) (m : Nat) (hm : N.length - ps.length = m)
    (hb : ∀ (cdv : Value) (A : Around) (outer : List PySem.Env) (s : Shared) (H : Hp) (E : XK), Room k (A.deeper (envOfC qual scope s.heap.objs.size f cdv)) → PSSd (cxOf (L2.CX P w) P w K mg base N qual scope f cdv A outer s H E) G0 (WE' E) body wd) :
    FnOk P w K mg base (L2.CX P w) (k + 1) f fd ps (spDl K (dRDl wd ps.length m)) := by
  refine D0.ok S (fun vs H Q E h => ?_) (fun cdv A outer s H vs Q E hr h => ⟨_, hb cdv A outer s H E hr, ?_⟩)
  · obtain ⟨F, ds, o, _, r, ⟨hl, _⟩, _⟩ := h
    rw [r.len, hl]
  · obtain ⟨F, ds, o, sf, r, ⟨hl, hw⟩, k1⟩ := h
    have el : N.length - vs.length = m := by rw [r.len, hl, hm]
    refine ⟨H, F, F, env0 ds m, (), _, ⟨sf, Ext.refl sf, trivial, fun _ z => z.elim, [], ?_⟩, hw, ?_⟩
    · show Slots K G0 H F H (env0 ds m) (L2.start N vs) []
      rw [L2.start, el]
      exact Slots.start m r
    · exact ⟨fun _ _ _ _ _ _ z => z.elim, fun _ _ _ _ _ _ z => z.elim, fun _ _ _ _ _ _ z => z.elim, fun _ _ _ _ _ _ _ _ z => z.elim, fun _ _ _ _ _ _ _ _ _ _ _ _ z => z.elim, fun p H' F' y s e _ n1 n2 f1 f2 a z => by
        have z' : o = y := z
        subst z'
        exact k1 p H' F' e n1 n2 f1 f2 a, fun z => (by cases z), fun _ _ _ _ _ _ _ _ _ _ _ _ _ _ z => z.elim⟩
end
/-! ### the state taken by a def's first statement -/
theorem Slots.reG {K : Frg} {G G' : Gh} {H0 F H : Hp} {env : Env} {σ : L2.St} {L : List Addr} (r : Slots K G H0 F H env σ L) : (∀ q ∈ L, ¬ G'.fp q) → SV.gh ∉ env → Slots K G' H0 F H env σ L := by
  induction r with
  | nil => exact fun _ _ => .nil
  | no _ ih => exact fun h n => .no (ih h fun z => n (List.mem_cons_of_mem _ z))
  | fz h' _ ih => exact fun h n => .fz h' (ih h fun z => n (List.mem_cons_of_mem _ z))
  | ow a b c d e f _ ih => exact fun h n => .ow a b (h _ List.mem_cons_self) d e f (ih (fun q z => h q (List.mem_cons_of_mem _ z)) fun z => n (List.mem_cons_of_mem _ z))
  | gh _ _ => exact fun _ n => absurd List.mem_cons_self n
def upDE (De : DE Unit) : DE DlS := { nx := fun _ _ => False, rt := fun d _ => De.rt d (), ex := fun _ _ _ _ _ => False }
/-- x = f(..), x the state from now on, then the rest -/
def wDeal (i : Nat) (R : List D → DlS → Prop) (Rs : Env → DM Unit (List D)) (w : DW DlS) : DW Unit := fun De env s => run (Rs env) De env (fun ds _ => SV.gh ∉ env ∧ ∃ x, R ds x ∧ w (upDE De) (env.set i .gh) x) s
section
variable {X : Cx} {E : XK} {e : Expr} {es : List Expr} {rest : List Stmt} {Rs : Env → DM Unit (List D)} {R : List D → DlS → Prop} {pos p py : Pos} {k : Nat} {x y : Str} {ps : List Str} {w : DW DlS}
theorem pssd_deal (i : Nat) (Fn : FnD X.prog X.w X.K X.mg X.base k x ps (spDl X.K R)) (hr : Room k X.A) (tk : Takes X (WE' E)) (ha : PAs X G0 (WE' E) (e :: es) Rs) (hrest : ∀ p, PSSd X (dl p).g (WE' E) rest w) (hN : X.N.Nodup) (hi : X.N[i]? = some y := by rfl)
    (hx : Loc X.env.scope y := by first | exact Or.inl rfl | exact Or.inr rfl) (hg : Gl X x := by rfl) (hdb : (x == ("__debug__" : Str)) = false := by decide)
    (he : starEach (e :: es) X.env = (false, eval e X.env) :: starEach es X.env := by rfl) (hpl : (backTo p (starEach es X.env)).any (·.1) = false := by rfl)
    (hf : X.fn y = true ∨ X.env.scope.names.lookup y = some .local := by first | exact .inl rfl | exact .inr rfl) {pos' : Pos}
    (hs : swapsWith (.Call (.Name x py) (e :: es) [] p) (some (.Name y pos')) pos.line X.env = pure false := by rfl) :
    PSSd X G0 (WE' E) (.Assign [.Name y pos'] (.Call (.Name x py) (e :: es) [] p) pos :: rest) (wDeal i R Rs w) := by
  obtain ⟨f, fd, hm, hk, hb, Fk⟩ := Fn.ex
  have hall : PSs X rest (fun Dn σ H => ∃ p, tS X.K (dl p).g (WE' E) w Dn σ H) := ⟨fun pins s σ H Dn I ⟨p, q⟩ => (hrest p).run pins s σ H Dn I q⟩
  refine PSs.imp (pss_cons (ps_set hN hi hx (pe_callS Fk hr hg hm hk hb (fun σ => passAt tk σ) ha hdb he hpl) hs hf) hall) fun Dn σ H ⟨H0, F0, F, env, s, De, S, h, L⟩ => ?_
  refine tG_run S h L fun ds vs H1 F1 s1 S1 x1 g ⟨ng, x, hR, hw⟩ => ?_
  refine ⟨F1, ds, x, S1.fh, g, hR, fun p H' F' y n1 n2 f1 f2 a => ⟨p, ?_⟩⟩
  have S2 := S1.all y
  have n0 : ∀ q, H1 q = none → H0 q = none := fun q z => Classical.byContradiction fun y => S1.ext.d q y z
  obtain ⟨LL, rL⟩ := S1.sl
  have r2 := (rL.ext (.of_all y)).reG (G' := (dl p).g) (fun q hq z => by
    have hne := rL.own_at q hq
    rcases z with z | z
    · exact hne (z ▸ n1)
    · exact hne (z ▸ n2)) ng
  obtain ⟨L3, r3, _⟩ := r2.set_gh i
  have ex : Ext (dl p).g.fp H0 F0 H' F' := ⟨fun q o _ z => S2.ext.h q o (fun z => z) z, S2.ext.d, S2.ext.f, S2.ext.fh, S2.ext.n⟩
  have nfp : ∀ q, (dl p).g.fp q → H0 q = none := fun q z => by
    rcases z with z | z
    · exact z ▸ n0 _ n1
    · exact z ▸ n0 _ n2
  refine ⟨H0, F0, F', env.set i .gh, x, upDE De, ⟨S2.fh, ex, a, fun q z => ?_, L3, r3⟩, hw, ?_⟩
  · rcases z with z | z
    · rw [z]; exact f1
    · rw [z]; exact f2
  · exact ⟨fun _ _ _ _ _ _ z => z.elim, fun _ _ _ _ _ _ z => z.elim, fun _ _ _ _ _ _ z => z.elim, fun v H F d s e _ rv z => L.rt v H F d () ⟨fun q o _ z => e.h q o (fun y => by rw [nfp q y] at z; cases z) z, e.d, e.f, e.fh, e.n⟩ trivial rv z,
      fun _ _ _ _ _ _ _ _ _ _ _ _ z => z.elim, fun _ _ _ _ _ _ _ _ _ _ _ _ z => z.elim, fun z => (by cases z), fun _ _ _ _ _ _ _ _ _ _ _ _ _ _ z => z.elim⟩
end
/-! ### the law's promise -/
def spLaw (K : Frg) : Sp := fun vs H Q _ => ∃ (a : Addr) (ns : List Int), vs = [.ref a] ∧ SqL K H a (ns.map V.int) ∧ ∀ H', Q (.bl true) H'
theorem law_imp {P : Program} {w : World} {K : Frg} {mg : Str → Option Value} {base : Heap} {k : Nat} {f : Addr} {fd : FuncData} {ps : List Str} {R : List D → Oc D → Prop} (Fk : FnOk P w K mg base (L2.CX P w) k f fd ps (spP K R)) (h : ∀ ns : List Int, R [.frl (ns.map D.int)] (.ok (.bl true))) :
    FnOk P w K mg base (L2.CX P w) k f fd ps (spLaw K) := Fk.imp fun vs H Q E ⟨a, ns, e, hS, hQ⟩ => by
  subst e
  have go : ∀ F : Hp, Same F H → SqL K F a (ns.map V.int) → spP K R [.ref a] H Q E := fun F sf hF =>
    ⟨F, [.frl (ns.map D.int)], .ok (.bl true), sf, .cons (.frl hF (Reps.ints ns)) .nil, h ns, fun d e v H' F' x r => by
      cases e
      cases r
      exact hQ H', fun C ns es e => by cases e⟩
  refine go (fun q => if q = a then H q else none) (fun q o z => ?_) ?_
  · have z : (if q = a then H q else none) = some o := z
    by_cases c : q = a
    · rw [if_pos c] at z; exact z
    · rw [if_neg c] at z; cases z
  · rcases hS with (hS | ⟨o, hS⟩) | hS
    · exact .inl (.inl (by show (if a = a then H a else none) = _; rw [if_pos rfl]; exact hS))
    · exact .inl (.inr ⟨o, by show (if a = a then H a else none) = _; rw [if_pos rfl]; exact hS⟩)
    · exact .inr hS
end Pl
/-! The pure layer, part 16: short forms for printed terms. -/
namespace Pl
open PySem PySem.Spec PyProof.Rows L2

/-- the builtins that no name of the module hides -/
structure Bf (mg : Str → Option Value) : Prop where
  len : mg "len" = none
  tuple : mg "tuple" = none
  list : mg "list" = none
  range : mg "range" = none
  reversed : mg "reversed" = none
  enumerate : mg "enumerate" = none
  zip : mg "zip" = none
  sum : mg "sum" = none
  min : mg "min" = none
  max : mg "max" = none
  abs : mg "abs" = none
  int : mg "int" = none
  isinstance : mg "isinstance" = none
  all : mg "all" = none
  any : mg "any" = none
  bool : mg "bool" = none
  str : mg "str" = none
theorem units1 {k : Nat} {A : Around} (r : Room k A) : A.units + 1 < cLine := by have := r.units; omega
def fRep {S : Type} (Rf : Env → DM S OD) (Ri : Env → DM S D) : Env → DM S OD := fun env => (Rf env).bind fun w => (Ri env).bind fun d => .lift (match w, d with
  | .lst ds, .int k => if k < 2 ^ 24 ∧ -(2 ^ 24) < k ∧ ds.length * k.toNat ≤ sizeLine then some (.lst (List.replicate k.toNat ds).flatten) else none
  | _, _ => none)
theorem reps_rep {K : Frg} {F : Hp} {vs : List V} {ds : List D} (r : Reps K F vs ds) : ∀ n : Nat, Reps K F (List.replicate n vs).flatten (List.replicate n ds).flatten
  | 0 => .nil
  | n + 1 => by
    rw [List.replicate_succ, List.replicate_succ, List.flatten_cons, List.flatten_cons]
    exact r.app (reps_rep r n)
section
variable {X : Cx} {G : Gh} {W : WX} {a b c e : Expr} {es : List Expr} {R Ra Rb Rc Ri : Env → DM G.S D} {Rf : Env → DM G.S OD} {Rs : Env → DM G.S (List D)} {pos p : Pos}
theorem pf_rep (ha : PF X G W a Rf) (hb : PD X G W b Ri) : PF X G W (.BinOp a .Mult b pos) (fRep Rf Ri) := PE.imp (pe_op op_rep ha hb) fun σ H Q ⟨H0, F0, F, env, s, o, s', S, h, k, xc⟩ => by
  refine tG_bind S h xc fun w v H1 F1 s1 S1 e1 g1 h1 xc1 => ?_
  refine tG_bind S1 h1 xc1 fun d u H2 F2 s2 S2 e2 g2 h2 xc2 => ?_
  obtain ⟨rfl, x, hx, rfl⟩ := h2
  split at hx
  · rename_i ds n
    split at hx
    · rename_i c
      cases hx
      obtain ⟨q, ob, rfl, n1, hq, fq, oq⟩ := g1
      obtain ⟨vs, rfl, r⟩ := oq.lst_inv
      cases g2
      have nf : ¬ G.fp q := fun z => G.dom s H q S.at_ z n1
      refine ⟨q, n, vs, rfl, rfl, e2.h _ _ nf hq, by omega, by omega, by rw [r.len]; exact c.2.2, fun p0 np => ?_⟩
      obtain ⟨u1, u2, u3⟩ := new_use (K := X.K) (o := .lst _) (w := .lst _) S2 (e1.trans e2) (reps_rep (Reps.mono e2.f r) n.toNat) np
      exact k _ rfl _ _ _ u1 u2 u3
    · cases hx
  · cases hx
theorem pd_len (bf : Bf X.mg) (ha : PAs X G W (e :: es) Rs) (hg : Gl X "len" := by rfl) (he : starEach (e :: es) X.env = (false, eval e X.env) :: starEach es X.env := by rfl) (hpl : (backTo pos (starEach es X.env)).any (·.1) = false := by rfl) : PD X G W (.Call (.Name "len" p) (e :: es) [] pos) (eCa dLen Rs) :=
  pd_callB (call_len_seq.or (call_len_str.or call_lenD)) cad_len hg bf.len boot_len ha (by decide) (by decide) he hpl
theorem pd_abs (bf : Bf X.mg) (ha : PAs X G W (e :: es) Rs) (hg : Gl X "abs" := by rfl) (he : starEach (e :: es) X.env = (false, eval e X.env) :: starEach es X.env := by rfl) (hpl : (backTo pos (starEach es X.env)).any (·.1) = false := by rfl) : PD X G W (.Call (.Name "abs" p) (e :: es) [] pos) (eCa dAbs Rs) :=
  pd_callB call_abs cad_abs hg bf.abs boot_abs ha (by decide) (by decide) he hpl
theorem pd_sum (hc : X.calm = true) (bf : Bf X.mg) (ha : PAs X G W (e :: es) Rs) (hg : Gl X "sum" := by rfl) (he : starEach (e :: es) X.env = (false, eval e X.env) :: starEach es X.env := by rfl) (hpl : (backTo pos (starEach es X.env)).any (·.1) = false := by rfl) : PD X G W (.Call (.Name "sum" p) (e :: es) [] pos) (eCa dSum Rs) :=
  pd_callB (cr_sum hc) cad_sum hg bf.sum boot_sum ha (by decide) (by decide) he hpl
theorem pd_all (hc : X.calm = true) (bf : Bf X.mg) (ha : PAs X G W (e :: es) Rs) (hg : Gl X "all" := by rfl) (he : starEach (e :: es) X.env = (false, eval e X.env) :: starEach es X.env := by rfl) (hpl : (backTo pos (starEach es X.env)).any (·.1) = false := by rfl) : PD X G W (.Call (.Name "all" p) (e :: es) [] pos) (eCa dAll Rs) :=
  pd_callB (cr_all hc) cad_all hg bf.all (by decide +kernel) ha (by decide) (by decide) he hpl
theorem pd_any (hc : X.calm = true) (bf : Bf X.mg) (ha : PAs X G W (e :: es) Rs) (hg : Gl X "any" := by rfl) (he : starEach (e :: es) X.env = (false, eval e X.env) :: starEach es X.env := by rfl) (hpl : (backTo pos (starEach es X.env)).any (·.1) = false := by rfl) : PD X G W (.Call (.Name "any" p) (e :: es) [] pos) (eCa dAny Rs) :=
  pd_callB (cr_any hc) cad_any hg bf.any (by decide +kernel) ha (by decide) (by decide) he hpl
theorem pd_min (hc : X.calm = true) (bf : Bf X.mg) (ha : PAs X G W (e :: es) Rs) (hg : Gl X "min" := by rfl) (he : starEach (e :: es) X.env = (false, eval e X.env) :: starEach es X.env := by rfl) (hpl : (backTo pos (starEach es X.env)).any (·.1) = false := by rfl) : PD X G W (.Call (.Name "min" p) (e :: es) [] pos) (eCa dMin Rs) :=
  pd_callB ((cr_min hc).or (call_min2 hc)) cad_min hg bf.min (by decide +kernel) ha (by decide) (by decide) he hpl
theorem pd_max (hc : X.calm = true) (bf : Bf X.mg) (ha : PAs X G W (e :: es) Rs) (hg : Gl X "max" := by rfl) (he : starEach (e :: es) X.env = (false, eval e X.env) :: starEach es X.env := by rfl) (hpl : (backTo pos (starEach es X.env)).any (·.1) = false := by rfl) : PD X G W (.Call (.Name "max" p) (e :: es) [] pos) (eCa dMax Rs) :=
  pd_callB ((cr_max hc).or (call_max2 hc)) cad_max hg bf.max (by decide +kernel) ha (by decide) (by decide) he hpl
theorem pd_isi (bf : Bf X.mg) (ha : PAs X G W (e :: es) Rs) (hg : Gl X "isinstance" := by rfl) (he : starEach (e :: es) X.env = (false, eval e X.env) :: starEach es X.env := by rfl) (hpl : (backTo pos (starEach es X.env)).any (·.1) = false := by rfl) : PD X G W (.Call (.Name "isinstance" p) (e :: es) [] pos) (eCa dIsi Rs) :=
  pd_callB (call_isi.or call_isiT) cad_isi hg bf.isinstance boot_isinstance ha (by decide) (by decide) he hpl
theorem pd_intc (bf : Bf X.mg) (ha : PAs X G W (e :: es) Rs) (hg : Gl X "int" := by rfl) (he : starEach (e :: es) X.env = (false, eval e X.env) :: starEach es X.env := by rfl) (hpl : (backTo pos (starEach es X.env)).any (·.1) = false := by rfl) : PD X G W (.Call (.Name "int" p) (e :: es) [] pos) (eCa dInt1 Rs) :=
  pd_callTy call_int1 cad_int hg bf.int (by decide +kernel) ha (by decide) (by decide) he hpl
theorem pd_tupc (bf : Bf X.mg) (ha : PAs X G W (e :: es) Rs) (hg : Gl X "tuple" := by rfl) (he : starEach (e :: es) X.env = (false, eval e X.env) :: starEach es X.env := by rfl) (hpl : (backTo pos (starEach es X.env)).any (·.1) = false := by rfl) : PD X G W (.Call (.Name "tuple" p) (e :: es) [] pos) (eCa dTuple Rs) :=
  pd_callTy call_tuple_of cad_tuple hg bf.tuple (by decide +kernel) ha (by decide) (by decide) he hpl
theorem pf_lisc (bf : Bf X.mg) (ha : PAs X G W (e :: es) Rs) (hg : Gl X "list" := by rfl) (he : starEach (e :: es) X.env = (false, eval e X.env) :: starEach es X.env := by rfl) (hpl : (backTo pos (starEach es X.env)).any (·.1) = false := by rfl) : PF X G W (.Call (.Name "list" p) (e :: es) [] pos) (fCa dList Rs) :=
  pf_callTy call_list_of caf_list hg bf.list (by decide +kernel) ha (by decide) (by decide) he hpl
theorem pd_tyint (bf : Bf X.mg) (hg : Gl X "int" := by rfl) : PD X G W (.Name "int" p) (eC (.ty "int")) := pd_bty hg bf.int (by decide +kernel)
theorem pd_tybool (bf : Bf X.mg) (hg : Gl X "bool" := by rfl) : PD X G W (.Name "bool" p) (eC (.ty "bool")) := pd_bty hg bf.bool (by decide +kernel)
theorem pd_tystr (bf : Bf X.mg) (hg : Gl X "str" := by rfl) : PD X G W (.Name "str" p) (eC (.ty "str")) := pd_bty hg bf.str (by decide +kernel)
theorem pd_tylist (bf : Bf X.mg) (hg : Gl X "list" := by rfl) : PD X G W (.Name "list" p) (eC (.ty "list")) := pd_bty hg bf.list (by decide +kernel)
theorem pd_tytuple (bf : Bf X.mg) (hg : Gl X "tuple" := by rfl) : PD X G W (.Name "tuple" p) (eC (.ty "tuple")) := pd_bty hg bf.tuple (by decide +kernel)
/-! ### tests -/
theorem pb_lt (ha : PD X G W a Ra) (hb : PD X G W b Rb) : PB X G W (.Compare a [.Lt] [b] pos) (tB1 (eBin dLt Ra Rb)) := pb_cmp op_lt opd_B0 ha hb (nomark _)
theorem pb_le (ha : PD X G W a Ra) (hb : PD X G W b Rb) : PB X G W (.Compare a [.LtE] [b] pos) (tB1 (eBin dLe Ra Rb)) := pb_cmp op_le opd_B0 ha hb (nomark _)
theorem pb_gt (ha : PD X G W a Ra) (hb : PD X G W b Rb) : PB X G W (.Compare a [.Gt] [b] pos) (tB1 (eBin dGt Ra Rb)) := pb_cmp op_gt opd_B0 ha hb (nomark _)
theorem pb_ge (ha : PD X G W a Ra) (hb : PD X G W b Rb) : PB X G W (.Compare a [.GtE] [b] pos) (tB1 (eBin dGe Ra Rb)) := pb_cmp op_ge opd_B0 ha hb (nomark _)
theorem pb_eq (hu : X.A.units + 64 < cLine) (ha : PD X G W a Ra) (hb : PD X G W b Rb) : PB X G W (.Compare a [.Eq] [b] pos) (tB1 (eBin dEq Ra Rb)) := pb_cmp (op_eqD hu) opd_eq ha hb (nomark _)
theorem pb_ne (hu : X.A.units + 64 < cLine) (ha : PD X G W a Ra) (hb : PD X G W b Rb) : PB X G W (.Compare a [.NotEq] [b] pos) (tB1 (eBin dNe Ra Rb)) := pb_cmp (op_neD hu) opd_ne ha hb (nomark _)
theorem pb_isN (ha : PD X G W a Ra) (hb : PD X G W b Rb) : PB X G W (.Compare a [.Is] [b] pos) (tB1 (eBin dIsN Ra Rb)) := pb_cmp op_isN opd_isN ha hb (nomark _)
theorem pb_notN (ha : PD X G W a Ra) (hb : PD X G W b Rb) : PB X G W (.Compare a [.IsNot] [b] pos) (tB1 (eBin dNotN Ra Rb)) := pb_cmp op_notN opd_notN ha hb (nomark _)
theorem pb_in (ha : PD X G W a Ra) (hb : PD X G W b Rb) (hm : behindInMarks .In b = false := by rfl) : PB X G W (.Compare a [.In] [b] pos) (tB1 (eBin (dIn false) Ra Rb)) := pb_cmp op_in_seq opd_in ha hb hm
theorem pb_notIn (ha : PD X G W a Ra) (hb : PD X G W b Rb) (hm : behindInMarks .NotIn b = false := by rfl) : PB X G W (.Compare a [.NotIn] [b] pos) (tB1 (eBin (dIn true) Ra Rb)) := pb_cmp op_notIn_seq opd_in ha hb hm
theorem pb_ltT (hu : X.A.units < cLine) (ha : PD X G W a Ra) (hb : PD X G W b Rb) : PB X G W (.Compare a [.Lt] [b] pos) (tB1 (eBin dLtT Ra Rb)) := pb_cmp (op_ltT hu) opd_ltT ha hb (nomark _)
theorem tTest_use {t : TE} (σ : L2.St) (H : Hp) (Q : Bool → Hp → Prop) (h : tB t σ H Q) : tTest t σ H Q := h
theorem pb_lele (ha : PD X G W a Ra) (hb : PD X G W b Rb) (hc : PD X G W c Rc) (hm : lastMarks [.LtE, .LtE] [b, c] = false := by rfl) : PB X G W (.Compare a [.LtE, .LtE] [b, c] pos) (tB1 (eChain dLe dLe Ra Rb Rc)) :=
  PT.imp (pt_chain op_le op_le ha hb hc (hm := hm)) fun σ H Q h => chain_use opb_B0 opd_B0 σ H _ (tB_use (X := X) σ H Q h)
theorem pb_lelt (ha : PD X G W a Ra) (hb : PD X G W b Rb) (hc : PD X G W c Rc) (hm : lastMarks [.LtE, .Lt] [b, c] = false := by rfl) : PB X G W (.Compare a [.LtE, .Lt] [b, c] pos) (tB1 (eChain dLe dLt Ra Rb Rc)) :=
  PT.imp (pt_chain op_le op_lt ha hb hc (hm := hm)) fun σ H Q h => chain_use opb_B0 opd_B0 σ H _ (tB_use (X := X) σ H Q h)
/-! ### x = [..] on one line -/
variable {elt tg iter tg1 iter1 : Expr} {ifs ifs1 : List Expr} {scope : Scope} {vs1 : List Nat} {spos py : Pos} {Rl Rl1 : Env → DM G.S (List D)} {t t1 : TP} {Tt Tt1 : Env → DM G.S Bool} {Re : Env → DM G.S D} {y : Str} {i : Nat}
theorem psd_slc (own : List (Str × Nat)) (hc : X.calm = true) (hN : X.N.Nodup) (hi : PID X G W tg iter Rl) (ok : BlkOk X.N X.env.scope scope own) (hg : InBlk X scope fun Y => PG Y tg (gD X.K G t)) (ht : InBlk X scope fun Y => PTs Y ifs (tT X.K G W0 Tt)) (he : InBlk X scope fun Y => PE Y elt (tE X.K G W0 Re))
    (hy : X.N[i]? = some y := by rfl) (hyl : X.env.scope.names.lookup y = some .local := by rfl) (hsw : swapsWith (.ListComp elt [⟨tg, iter, ifs, 0⟩] scope pos) (some (.Name y py)) spos.line X.env = pure true := by rfl)
    (hs : ∀ i ∈ t.slots, i ∈ own.map (·.2) := by decide) (hst : ∀ x, foldedSetIterable iter X.env x = pure x := by intro _; rfl) : PSd X G W (.Assign [.Name y py] (.ListComp elt [⟨tg, iter, ifs, 0⟩] scope pos) spos) (wAsg (.nm i) (eOf (fLc Rl (cStep t Tt Re) (own.map (·.2))))) :=
  psd_setLc (ps_setLc hc hN hy hyl hsw hi ok hg ht he hst) (lc_use hs)
theorem psd_slcF (own : List (Str × Nat)) (hc : X.calm = true) (hN : X.N.Nodup) (hi : PID X G W tg iter Rl) (ok : BlkOk X.N X.env.scope scope own) (hg : InBlk X scope fun Y => PG Y tg (gD X.K G t)) (ht : InBlk X scope fun Y => PTs Y ifs (tT X.K G W0 Tt)) (he : InBlk X scope fun Y => PE Y elt (tE X.K G W0 Re))
    (hy : X.N[i]? = some y := by rfl) (hyl : X.env.scope.names.lookup y = some .local := by rfl) (hsw : swapsWith (.ListComp elt [⟨tg, iter, ifs, 0⟩] scope pos) (some (.Name y py)) spos.line X.env = pure true := by rfl)
    (hs : ∀ i ∈ t.slots, i ∈ own.map (·.2) := by decide) (hst : ∀ x, foldedSetIterable iter X.env x = pure x := by intro _; rfl) : PSd X G W (.Assign [.Name y py] (.ListComp elt [⟨tg, iter, ifs, 0⟩] scope pos) spos) (wAsgF i (fLc Rl (cStep t Tt Re) (own.map (·.2)))) :=
  psd_setLcF (ps_setLc hc hN hy hyl hsw hi ok hg ht he hst) hy (lc_use hs)
theorem psd_slc2 (own : List (Str × Nat)) (vs1 : List Nat) (hc : X.calm = true) (hN : X.N.Nodup) (hi : PID X G W tg iter Rl) (ok : BlkOk X.N X.env.scope scope own) (hg : InBlk X scope fun Y => PG Y tg (gD X.K G t)) (ht : InBlk X scope fun Y => PTs Y ifs (tT X.K G W0 Tt))
    (hi1 : InBlk X scope fun Y => PI Y tg1 iter1 (iD X.K G W0 Rl1)) (hg1 : InBlk X scope fun Y => PG Y tg1 (gD X.K G t1)) (ht1 : InBlk X scope fun Y => PTs Y ifs1 (tT X.K G W0 Tt1)) (he : InBlk X scope fun Y => PE Y elt (tE X.K G W0 Re)) (hv : ∀ i ∈ vs1, i ∈ own.map (·.2) := by decide)
    (hy : X.N[i]? = some y := by rfl) (hyl : X.env.scope.names.lookup y = some .local := by rfl) (hsw : swapsWith (.ListComp elt [⟨tg, iter, ifs, 0⟩, ⟨tg1, iter1, ifs1, 0⟩] scope pos) (some (.Name y py)) spos.line X.env = pure true := by rfl)
    (hs : ∀ i ∈ t.slots, i ∈ own.map (·.2) := by decide) (hs1 : ∀ i ∈ t1.slots, i ∈ vs1 := by decide) (hst : ∀ x, foldedSetIterable iter X.env x = pure x := by intro _; rfl) (hst1 : ∀ env x, foldedSetIterable iter1 env x = pure x := by intro _ _; rfl) :
    PSd X G W (.Assign [.Name y py] (.ListComp elt [⟨tg, iter, ifs, 0⟩, ⟨tg1, iter1, ifs1, 0⟩] scope pos) spos) (wAsg (.nm i) (eOf (fLc Rl (cStep2 t Tt Rl1 t1 vs1 Tt1 Re) (own.map (·.2))))) :=
  psd_setLc (ps_setLc2 hc hN hy hyl hsw hi ok hv hg ht hi1 hg1 ht1 he hst hst1) (lc2_use hs hs1)
end
end Pl
/-! The pure layer, part 17: readings run. -/
namespace Pl
open PySem PySem.Spec PyProof.Rows L2

/-- it gives a result, Q of it -/
def Go {S α : Type} (m : DM S α) (Q : α → S → Prop) (s : S) : Prop := ∃ a s1, m s (.ok a) s1 ∧ Q a s1
section
variable {S α β : Type} {s : S} {env : Env} {Ra Rb Rc R : Env → DM S D} {Ta Tb : Env → DM S Bool} {Rs : Env → DM S (List D)} {Rl : Env → DM S (List D)} {Rf : Env → DM S OD} {Rm : Env → DM S (List SV)} {i j : Nat} {Q : D → S → Prop} {Qb : Bool → S → Prop} {Qs : List D → S → Prop} {Qf : OD → S → Prop}
theorem Go.mono {m : DM S α} {Q Q' : α → S → Prop} (h : Go m Q s) (k : ∀ a s1, Q a s1 → Q' a s1) : Go m Q' s := let ⟨a, s1, h1, h2⟩ := h; ⟨a, s1, h1, k a s1 h2⟩
theorem go_bind {m : DM S α} {k : α → DM S β} {Q : β → S → Prop} : Go (DM.bind m k) Q s ↔ Go m (fun a s1 => Go (k a) Q s1) s := by
  constructor
  · rintro ⟨b, s2, h | h, q⟩
    · obtain ⟨a, s1, h1, h2⟩ := h
      exact ⟨a, s1, h1, b, s2, h2, q⟩
    · obtain ⟨C, ns, ds, _, h⟩ := h
      cases h
  · rintro ⟨a, s1, h1, b, s2, h2, q⟩
    exact ⟨b, s2, .inl ⟨a, s1, h1, h2⟩, q⟩
theorem go_ret {a : α} {Q : α → S → Prop} : Go (DM.ret a) Q s ↔ Q a s := by
  constructor
  · rintro ⟨b, s1, ⟨h1, h2⟩, q⟩
    cases h1
    subst h2
    exact q
  · exact fun q => ⟨a, s, ⟨rfl, rfl⟩, q⟩
theorem go_lift {x : Option α} {Q : α → S → Prop} : Go (DM.lift x) Q s ↔ ∃ a, x = some a ∧ Q a s := by
  constructor
  · rintro ⟨b, s1, ⟨h1, a, h2, h3⟩, q⟩
    cases h3
    subst h1
    exact ⟨_, h2, q⟩
  · exact fun ⟨a, h, q⟩ => ⟨a, s, ⟨rfl, a, h, rfl⟩, q⟩
/-- a reading that is told by what it gives -/
theorem go_tell {P : S → α → S → Prop} {Q : α → S → Prop} : Go (fun s o s' => ∃ a, P s a s' ∧ o = .ok a) Q s ↔ ∃ a s', P s a s' ∧ Q a s' := by
  constructor
  · rintro ⟨b, s1, ⟨a, h1, h2⟩, q⟩
    cases h2
    exact ⟨_, _, h1, q⟩
  · exact fun ⟨a, s', h, q⟩ => ⟨a, s', ⟨a, h, rfl⟩, q⟩
theorem go_var : Go (eVar i env) Q s ↔ ∃ d, env[i]? = some (.fz d) ∧ Q d s := by
  constructor
  · rintro ⟨a, s1, ⟨rfl, d, h, e⟩, q⟩
    cases e
    exact ⟨_, h, q⟩
  · rintro ⟨d, h, q⟩
    exact ⟨d, s, ⟨rfl, d, h, rfl⟩, q⟩
theorem go_C {d : D} : Go (eC d env) Q s ↔ Q d s := go_ret
theorem go_bin {g : D → D → Option D} : Go (eBin g Ra Rb env) Q s ↔ Go (Ra env) (fun x s1 => Go (Rb env) (fun y s2 => ∃ z, g x y = some z ∧ Q z s2) s1) s := by simp only [eBin, go_bind, go_lift]
theorem go_un {g : D → Option D} : Go (eUn g R env) Q s ↔ Go (R env) (fun x s1 => ∃ z, g x = some z ∧ Q z s1) s := by simp only [eUn, go_bind, go_lift]
theorem go_and : Go (eAnd Ra Rb env) Q s ↔ Go (Ra env) (fun x s1 => (x = .bl false ∧ Q (.bl false) s1) ∨ (x = .bl true ∧ Go (Rb env) Q s1)) s := by
  simp only [eAnd, go_bind]
  constructor
  · rintro ⟨a, s1, h1, b, s2, h2, q⟩
    refine ⟨a, s1, h1, ?_⟩
    rcases h2 with ⟨h, e, rfl⟩ | ⟨h, h2⟩
    · cases e; exact .inl ⟨h, q⟩
    · exact .inr ⟨h, b, s2, h2, q⟩
  · rintro ⟨a, s1, h1, h | h⟩
    · exact ⟨a, s1, h1, _, s1, .inl ⟨h.1, rfl, rfl⟩, h.2⟩
    · obtain ⟨h, b, s2, h2, q⟩ := h
      exact ⟨a, s1, h1, b, s2, .inr ⟨h, h2⟩, q⟩
theorem go_or : Go (eOr Ra Rb env) Q s ↔ Go (Ra env) (fun x s1 => (x = .bl true ∧ Q (.bl true) s1) ∨ (x = .bl false ∧ Go (Rb env) Q s1)) s := by
  simp only [eOr, go_bind]
  constructor
  · rintro ⟨a, s1, h1, b, s2, h2, q⟩
    refine ⟨a, s1, h1, ?_⟩
    rcases h2 with ⟨h, e, rfl⟩ | ⟨h, h2⟩
    · cases e; exact .inl ⟨h, q⟩
    · exact .inr ⟨h, b, s2, h2, q⟩
  · rintro ⟨a, s1, h1, h | h⟩
    · exact ⟨a, s1, h1, _, s1, .inl ⟨h.1, rfl, rfl⟩, h.2⟩
    · obtain ⟨h, b, s2, h2, q⟩ := h
      exact ⟨a, s1, h1, b, s2, .inr ⟨h, h2⟩, q⟩
theorem go_of_eq {α : Type} {P : α → Prop} {a : α → Oc D} : True := trivial
theorem go_at {m : S → Oc α → S → Prop} {P : α → Prop} {Q : α → S → Prop} (h : ∀ s o s', m s o s' ↔ s' = s ∧ ∃ a, P a ∧ o = .ok a) : Go m Q s ↔ ∃ a, P a ∧ Q a s := by
  constructor
  · rintro ⟨a, s1, h1, q⟩
    obtain ⟨rfl, b, h2, e⟩ := (h _ _ _).mp h1
    cases e
    exact ⟨_, h2, q⟩
  · rintro ⟨a, h1, q⟩
    exact ⟨a, s, (h _ _ _).mpr ⟨rfl, a, h1, rfl⟩, q⟩
theorem go_not : Go (eNot R env) Q s ↔ Go (R env) (fun x s1 => ∃ c, x = .bl c ∧ Q (.bl !c) s1) s := by
  simp only [eNot, go_bind]
  constructor
  · rintro ⟨a, s1, h1, b, s2, ⟨rfl, c, h2, e⟩, q⟩
    cases e
    exact ⟨a, _, h1, c, h2, q⟩
  · rintro ⟨a, s1, h1, c, h2, q⟩
    exact ⟨a, s1, h1, _, s1, ⟨rfl, c, h2, rfl⟩, q⟩
theorem go_tB1 : Go (tB1 R env) Qb s ↔ Go (R env) (fun x s1 => ∃ c, x = .bl c ∧ Qb c s1) s := by
  simp only [tB1, go_bind]
  constructor
  · rintro ⟨a, s1, h1, b, s2, ⟨rfl, c, h2, e⟩, q⟩
    cases e
    exact ⟨a, _, h1, _, h2, q⟩
  · rintro ⟨a, s1, h1, c, h2, q⟩
    exact ⟨a, s1, h1, _, s1, ⟨rfl, c, h2, rfl⟩, q⟩
theorem go_chain {g g' : D → D → Option D} : Go (eChain g g' Ra Rb Rc env) Q s ↔ Go (Ra env) (fun x s1 => Go (Rb env) (fun y s2 => (g x y = some (.bl false) ∧ Q (.bl false) s2) ∨ (g x y = some (.bl true) ∧ Go (Rc env) (fun z s3 => ∃ u, g' y z = some u ∧ Q u s3) s2)) s1) s := by
  simp only [eChain, go_bind]
  constructor
  · rintro ⟨a, s1, h1, b, s2, h2, c, s3, h3, q⟩
    refine ⟨a, s1, h1, b, s2, h2, ?_⟩
    rcases h3 with ⟨h, e, rfl⟩ | ⟨h, h3⟩
    · cases e; exact .inl ⟨h, q⟩
    · refine .inr ⟨h, ?_⟩
      have z : Go (DM.bind (Rc env) fun z => .lift (g' b z)) Q s2 := ⟨c, s3, h3, q⟩
      simpa only [go_bind, go_lift] using z
  · rintro ⟨a, s1, h1, b, s2, h2, h | ⟨h, h3⟩⟩
    · exact ⟨a, s1, h1, b, s2, h2, _, s2, .inl ⟨h.1, rfl, rfl⟩, h.2⟩
    · have z : Go (DM.bind (Rc env) fun z => .lift (g' b z)) Q s2 := by simpa only [go_bind, go_lift] using h3
      obtain ⟨c, s3, h4, q⟩ := z
      exact ⟨a, s1, h1, b, s2, h2, c, s3, .inr ⟨h, h4⟩, q⟩
theorem go_if : Go (eIf Ta Ra Rb env) Q s ↔ Go (Ta env) (fun c s1 => if c = true then Go (Ra env) Q s1 else Go (Rb env) Q s1) s := by
  simp only [eIf, go_bind]
  constructor <;> (rintro ⟨c, s1, h1, h2⟩; refine ⟨c, s1, h1, ?_⟩; split at h2 <;> simp_all)
theorem go_bAnd : Go (bAnd Ta Tb env) Qb s ↔ Go (Ta env) (fun c s1 => if c = true then Go (Tb env) Qb s1 else Qb false s1) s := by
  simp only [bAnd, go_bind]
  constructor <;> (rintro ⟨c, s1, h1, h2⟩; refine ⟨c, s1, h1, ?_⟩; split at h2 <;> simp_all [go_ret])
theorem go_bOr : Go (bOr Ta Tb env) Qb s ↔ Go (Ta env) (fun c s1 => if c = true then Qb true s1 else Go (Tb env) Qb s1) s := by
  simp only [bOr, go_bind]
  constructor <;> (rintro ⟨c, s1, h1, h2⟩; refine ⟨c, s1, h1, ?_⟩; split at h2 <;> simp_all [go_ret])
theorem go_bNot : Go (bNot Ta env) Qb s ↔ Go (Ta env) (fun c s1 => Qb (!c) s1) s := by simp only [bNot, go_bind, go_ret]
theorem go_yes : Go (bYes env) Qb s ↔ Qb true s := go_ret
theorem go_nil : Go (aNil env) Qs s ↔ Qs [] s := go_ret
theorem go_cons : Go (aCons R Rs env) Qs s ↔ Go (R env) (fun x s1 => Go (Rs env) (fun xs s2 => Qs (x :: xs) s2) s1) s := by simp only [aCons, go_bind, go_ret]
theorem go_tup : Go (eTup Rs env) Q s ↔ Go (Rs env) (fun ds s1 => ds.length ≤ sizeLine ∧ Q (.tup ds) s1) s := by
  simp only [eTup, go_bind, go_lift]
  constructor <;> (rintro ⟨c, s1, h1, h2⟩; refine ⟨c, s1, h1, ?_⟩)
  · obtain ⟨a, h, q⟩ := h2
    split at h
    · cases h; exact ⟨by assumption, q⟩
    · cases h
  · exact ⟨_, if_pos h2.1, h2.2⟩
theorem go_lst : Go (fLst Rs env) Qf s ↔ Go (Rs env) (fun ds s1 => ds.length ≤ sizeLine ∧ Qf (.lst ds) s1) s := by
  simp only [fLst, go_bind, go_lift]
  constructor <;> (rintro ⟨c, s1, h1, h2⟩; refine ⟨c, s1, h1, ?_⟩)
  · obtain ⟨a, h, q⟩ := h2
    split at h
    · cases h; exact ⟨by assumption, q⟩
    · cases h
  · exact ⟨_, if_pos h2.1, h2.2⟩
theorem go_of : Go (eOf Rf env) Q s ↔ Go (Rf env) (fun w s1 => Q w.d s1) s := by simp only [eOf, go_bind, go_ret]
theorem go_Ca {g : List D → Option D} : Go (eCa g Rs env) Q s ↔ Go (Rs env) (fun ds s1 => ∃ z, g ds = some z ∧ Q z s1) s := by simp only [eCa, go_bind, go_lift]
theorem go_fCa {g : List D → Option OD} : Go (fCa g Rs env) Qf s ↔ Go (Rs env) (fun ds s1 => ∃ z, g ds = some z ∧ Qf z s1) s := by simp only [fCa, go_bind, go_lift]
theorem go_fld {C : Addr} {f : Str} : Go (eFld C f R env) Q s ↔ Go (R env) (fun x s1 => ∃ z, fldD C f x = some z ∧ Q z s1) s := by simp only [eFld, go_bind, go_lift]
theorem go_call {P : List D → Oc D → Prop} : Go (eCall P Rs env) Q s ↔ Go (Rs env) (fun ds s1 => ∃ d, P ds (.ok d) ∧ Q d s1) s := by
  simp only [eCall, go_bind]
  constructor
  · rintro ⟨a, s1, h1, b, s2, ⟨rfl, h2⟩, q⟩
    exact ⟨a, _, h1, b, h2, q⟩
  · rintro ⟨a, s1, h1, b, h2, q⟩
    exact ⟨a, s1, h1, b, s1, ⟨rfl, h2⟩, q⟩
theorem go_callKw {is : List Nat} {P : List D → Oc D → Prop} : Go (eCallKw is P Rs env) Q s ↔ Go (Rs env) (fun ds s1 => ds.length = is.length ∧ ∃ d, P (pick is ds) (.ok d) ∧ Q d s1) s := by
  simp only [eCallKw, go_bind]
  constructor
  · rintro ⟨a, s1, h1, b, s2, ⟨rfl, h2, h3⟩, q⟩
    exact ⟨a, _, h1, h2, b, h3, q⟩
  · rintro ⟨a, s1, h1, h2, b, h3, q⟩
    exact ⟨a, s1, h1, b, s1, ⟨rfl, h2, h3⟩, q⟩
theorem go_callG {P : S → List D → Oc D → S → Prop} : Go (eCallG j P Rs env) Q s ↔ env[j]? = some .gh ∧ Go (Rs env) (fun ds s1 => ∃ d s2, P s1 ds (.ok d) s2 ∧ Q d s2) s := by
  constructor
  · rintro ⟨a, s1, ⟨hj, h⟩, q⟩
    refine ⟨hj, ?_⟩
    have z : Go (DM.bind (Rs env) fun ds s o s' => P s ds o s') Q s := ⟨a, s1, h, q⟩
    rw [go_bind] at z
    exact z
  · rintro ⟨hj, h⟩
    have z : Go (DM.bind (Rs env) fun ds s o s' => P s ds o s') Q s := by rw [go_bind]; exact h
    obtain ⟨a, s1, h1, q⟩ := z
    exact ⟨a, s1, ⟨hj, h1⟩, q⟩
theorem go_lOf : Go (lOf R env) Qs s ↔ Go (R env) (fun x s1 => ∃ z, lstD x = some z ∧ Qs z s1) s := by simp only [lOf, go_bind, go_lift]
theorem go_lOwn : Go (lOwn i env) Qs s ↔ ∃ ds, env[i]? = some (.ow (.lst ds)) ∧ Qs ds s := go_at (P := fun ds => env[i]? = some (.ow (.lst ds))) fun _ _ _ => Iff.rfl
theorem go_ixL : Go (eIxL Rl R env) Q s ↔ Go (Rl env) (fun ds s1 => Go (R env) (fun x s2 => ∃ n d, x = .int n ∧ atI ds n = some d ∧ Q d s2) s1) s := by
  simp only [eIxL, go_bind]
  constructor
  · rintro ⟨a, s1, h1, b, s2, h2, c, s3, ⟨rfl, n, d, e1, e2, e3⟩, q⟩
    cases e3
    exact ⟨a, s1, h1, b, _, h2, n, _, e1, e2, q⟩
  · rintro ⟨a, s1, h1, b, s2, h2, n, d, e1, e2, q⟩
    exact ⟨a, s1, h1, b, s2, h2, d, s2, ⟨rfl, n, d, e1, e2, rfl⟩, q⟩
theorem go_bor : Go (eBor i R env) Q s ↔ ∃ w, env[i]? = some (.ow w) ∧ Go (R (env.set i (.fz w.d))) (fun d s1 => scalD d = true ∧ Q d s1) s := by
  constructor
  · rintro ⟨a, s1, ⟨w, d, h1, h2, h3, e⟩, q⟩
    cases e
    exact ⟨w, h1, _, s1, h2, h3, q⟩
  · rintro ⟨w, h1, d, s1, h2, h3, q⟩
    exact ⟨d, s1, ⟨w, d, h1, h2, h3, rfl⟩, q⟩
theorem go_bBor : Go (bBor i Ta env) Qb s ↔ ∃ w, env[i]? = some (.ow w) ∧ Go (Ta (env.set i (.fz w.d))) Qb s := by
  constructor
  · rintro ⟨a, s1, ⟨w, d, h1, h2, e⟩, q⟩
    cases e
    exact ⟨w, h1, _, s1, h2, q⟩
  · rintro ⟨w, h1, d, s1, h2, q⟩
    exact ⟨d, s1, ⟨w, d, h1, h2, rfl⟩, q⟩
theorem go_sl {g : D → Option Int → Option Int → Option D} {Rl Rh : ROp S} : Go (eSl g R Rl Rh env) Q s ↔ Go (R env) (fun x s1 => Go (Rl env) (fun lo s2 => Go (Rh env) (fun hi s3 => ∃ z, g x lo hi = some z ∧ Q z s3) s2) s1) s := by simp only [eSl, go_bind, go_lift]
theorem go_oNo {Q : Option Int → S → Prop} : Go (oNo env) Q s ↔ Q none s := go_ret
theorem go_oSome {Q : Option Int → S → Prop} : Go (oSome R env) Q s ↔ Go (R env) (fun d s1 => ∃ n, d = .int n ∧ Q (some n) s1) s := by
  simp only [oSome, go_bind]
  constructor
  · rintro ⟨a, s1, h1, b, s2, ⟨rfl, n, e1, e2⟩, q⟩
    cases e2
    exact ⟨a, _, h1, n, e1, q⟩
  · rintro ⟨a, s1, h1, n, e1, q⟩
    exact ⟨a, s1, h1, _, s1, ⟨rfl, n, e1, rfl⟩, q⟩
theorem go_tupRev : Go (eTupRev Rl env) Q s ↔ Go (Rl env) (fun ds s1 => Q (.tup ds.reverse) s1) s := by simp only [eTupRev, go_bind, go_ret]
theorem go_revL : Go (fRevL Rl env) Qf s ↔ Go (Rl env) (fun ds s1 => Qf (.lst ds.reverse) s1) s := by simp only [fRevL, go_bind, go_ret]
theorem go_it {α : Type} {R : Env → DM S α} {f : α → Option (List D)} : Go (iOf R f env) Qs s ↔ Go (R env) (fun x s1 => ∃ z, f x = some z ∧ Qs z s1) s := by simp only [iOf, go_bind, go_lift]
theorem go_lc {step : Env → D → DM S (List D)} {vs : List Nat} : Go (fLc Rl step vs env) Qf s ↔ Go (Rl env) (fun ds s1 => ∃ out s2, Coll (step (wipeE env vs)) ds s1 out s2 ∧ out.length ≤ sizeLine ∧ Qf (.lst out) s2) s := by
  simp only [fLc, go_bind]
  constructor
  · rintro ⟨a, s1, h1, b, s2, ⟨out, h2, h3, e⟩, q⟩
    cases e
    exact ⟨a, s1, h1, out, s2, h2, h3, q⟩
  · rintro ⟨a, s1, h1, out, s2, h2, h3, q⟩
    exact ⟨a, s1, h1, _, s2, ⟨out, h2, h3, rfl⟩, q⟩
theorem go_mNil {Q : List SV → S → Prop} : Go (mNil env) Q s ↔ Q [] s := go_ret
theorem go_mFz {Q : List SV → S → Prop} : Go (mFz R Rm env) Q s ↔ Go (R env) (fun d s1 => Go (Rm env) (fun ss s2 => Q (.fz d :: ss) s2) s1) s := by simp only [mFz, go_bind, go_ret]
theorem go_mOw {Q : List SV → S → Prop} : Go (mOw Rf Rm env) Q s ↔ Go (Rf env) (fun w s1 => Go (Rm env) (fun ss s2 => Q (.ow w :: ss) s2) s1) s := by simp only [mOw, go_bind, go_ret]
theorem go_rep : Go (fRep Rf R env) Qf s ↔ Go (Rf env) (fun w s1 => Go (R env) (fun d s2 => ∃ ds k, w = .lst ds ∧ d = .int k ∧ (k < 2 ^ 24 ∧ -(2 ^ 24) < k ∧ ds.length * k.toNat ≤ sizeLine) ∧ Qf (.lst (List.replicate k.toNat ds).flatten) s2) s1) s := by
  simp only [fRep, go_bind, go_lift]
  constructor
  · rintro ⟨a, s1, h1, b, s2, h2, z, h3, q⟩
    split at h3
    · split at h3
      · cases h3; exact ⟨_, s1, h1, _, s2, h2, _, _, rfl, rfl, by assumption, q⟩
      · cases h3
    · cases h3
  · rintro ⟨a, s1, h1, b, s2, h2, ds, k, rfl, rfl, h3, q⟩
    exact ⟨_, s1, h1, _, s2, h2, _, if_pos h3, q⟩
theorem go_rg1 : Go (fRg1 R env) Qf s ↔ Go (R env) (fun d s1 => ∃ n, d = .int n ∧ (n ≤ 16777216 ∧ -16777216 ≤ n) ∧ Qf (.lst ((List.range n.toNat).map fun i : Nat => .int i)) s1) s := by
  simp only [fRg1, go_bind, go_lift]
  constructor
  · rintro ⟨a, s1, h1, z, h2, q⟩
    split at h2
    · split at h2
      · cases h2; exact ⟨_, s1, h1, _, rfl, by assumption, q⟩
      · cases h2
    · cases h2
  · rintro ⟨a, s1, h1, n, rfl, h2, q⟩
    exact ⟨_, s1, h1, _, if_pos h2, q⟩
theorem go_make {C : Addr} {P : List (Str × D) → List D → Oc D → List (Str × D) → Prop} : Go (fMake C P Rs env) Qf s ↔ Go (Rs env) (fun ds s1 => ∃ fs, P [] ds (.ok .non) fs ∧ Qf (.ins C (fs.map (·.1)) (fs.map (·.2))) s1) s := by
  simp only [fMake, go_bind]
  constructor
  · rintro ⟨a, s1, h1, b, s2, ⟨rfl, oc, fs, h2, h3⟩, q⟩
    cases oc with
    | ok d =>
      obtain ⟨rfl, e⟩ := h3
      cases e
      exact ⟨a, _, h1, fs, h2, q⟩
    | ex C ns es => cases h3
  · rintro ⟨a, s1, h1, fs, h2, q⟩
    exact ⟨a, s1, h1, _, s1, ⟨rfl, .ok .non, fs, h2, rfl, rfl⟩, q⟩
theorem go_lenO {C : Addr} {P : List D → Oc D → Prop} : Go (eLenO C P R env) Q s ↔ Go (R env) (fun d s1 => insOf C d ∧ ∃ n, P [d] (.ok (.int n)) ∧ 0 ≤ n ∧ n < 2 ^ 63 ∧ Q (.int n) s1) s := by
  simp only [eLenO, go_bind]
  constructor
  · rintro ⟨a, s1, h1, b, s2, ⟨rfl, h2, n, h3, h4, h5, e⟩, q⟩
    cases e
    exact ⟨a, _, h1, h2, n, h3, h4, h5, q⟩
  · rintro ⟨a, s1, h1, h2, n, h3, h4, h5, q⟩
    exact ⟨a, s1, h1, _, s1, ⟨rfl, h2, n, h3, h4, h5, rfl⟩, q⟩
theorem go_callO {C : Addr} {P : List D → Oc D → Prop} : Go (eCallO C P R Rs env) Q s ↔ Go (R env) (fun d s1 => insOf C d ∧ Go (Rs env) (fun ds s2 => ∃ x, P (d :: ds) (.ok x) ∧ Q x s2) s1) s := by
  simp only [eCallO, go_bind]
  constructor
  · rintro ⟨a, s1, h1, b, s2, ⟨h2, h3⟩, q⟩
    refine ⟨a, s1, h1, h2, ?_⟩
    have z : Go (DM.bind (Rs env) fun ds s o s' => s' = s ∧ P (a :: ds) o) Q s1 := ⟨b, s2, h3, q⟩
    rw [go_bind] at z
    obtain ⟨ds, s3, h4, x, s4, ⟨rfl, h5⟩, q⟩ := z
    exact ⟨ds, _, h4, x, h5, q⟩
  · rintro ⟨a, s1, h1, h2, ds, s2, h3, x, h4, q⟩
    exact ⟨a, s1, h1, x, s2, ⟨h2, .inl ⟨ds, s2, h3, rfl, h4⟩⟩, q⟩
theorem go_dgetO : Go (eDGetO i R env) Q s ↔ ∃ w, env[i]? = some (.ow w) ∧ Go (R env) (fun k s1 => ∃ x, ddLook w.d k = some (some x) ∧ Q x s1) s := by
  constructor
  · rintro ⟨a, s1, ⟨w, hw, h⟩, q⟩
    have z : Go (DM.bind (R env) fun k s o s' => s' = s ∧ ∃ x, ddLook w.d k = some (some x) ∧ o = .ok x) Q s := ⟨a, s1, h, q⟩
    rw [go_bind] at z
    obtain ⟨k, s3, h4, x, s4, ⟨rfl, y, h5, e⟩, q⟩ := z
    cases e
    exact ⟨w, hw, k, _, h4, _, h5, q⟩
  · rintro ⟨w, hw, k, s1, h1, x, h2, q⟩
    exact ⟨x, s1, ⟨w, hw, .inl ⟨k, s1, h1, rfl, x, h2, rfl⟩⟩, q⟩
theorem go_dinO : Go (bDInO i R env) Qb s ↔ Go (R env) (fun k s1 => ∃ w r, env[i]? = some (.ow w) ∧ ddLook w.d k = some r ∧ Qb r.isSome s1) s := by
  simp only [bDInO, go_bind]
  constructor
  · rintro ⟨a, s1, h1, b, s2, ⟨rfl, w, r, h2, h3, e⟩, q⟩
    cases e
    exact ⟨a, _, h1, w, r, h2, h3, q⟩
  · rintro ⟨a, s1, h1, w, r, h2, h3, q⟩
    exact ⟨a, s1, h1, _, s1, ⟨rfl, w, r, h2, h3, rfl⟩, q⟩
end
/-! ### statements -/
section
variable {S : Type} {De : DE S} {env : Env} {s : S} {w w1 w2 : DW S} {R Ri : Env → DM S D} {Rf : Env → DM S OD} {Rb : Env → DM S Bool} {Rl : Env → DM S (List D)} {Rm : Env → DM S (List SV)} {t : TP} {i j : Nat} {is : List Nat}
theorem go_run {α : Type} {m : DM S α} {k : α → S → Prop} (h : Go m k s) : run m De env k s := let ⟨a, s1, h1, h2⟩ := h; ⟨.ok a, s1, h1, h2⟩
theorem gw_seq (h : w1 { De with nx := w2 De } env s) : wSeq w1 w2 De env s := h
theorem gw_next (h : De.nx env s) : wNext De env s := h
theorem gw_break (h : De.bk env s) : wBreak De env s := h
theorem gw_cont (h : De.ct env s) : wCont De env s := h
theorem gw_expr (h : Go (R env) (fun _ s1 => De.nx env s1) s) : wExpr R De env s := go_run h
theorem gw_asg (h : Go (R env) (fun d s1 => ∃ env', t.put d env = some env' ∧ De.nx env' s1) s) : wAsg t R De env s := go_run h
theorem gw_set (h : Go (R env) (fun d s1 => De.nx (env.set i (.fz d)) s1) s) : wAsg (.nm i) R De env s := go_run (h.mono fun d s1 k => ⟨_, rfl, k⟩)
theorem gw_asgF (h : Go (Rf env) (fun w s1 => De.nx (env.set i (.ow w)) s1) s) : wAsgF i Rf De env s := go_run h
theorem gw_ret (h : Go (R env) De.rt s) : wRet R De env s := go_run h
theorem gw_retN (h : De.rt .non s) : wRetN De env s := h
theorem gw_if (h : Go (Rb env) (fun c s1 => if c = true then w1 De env s1 else w2 De env s1) s) : wIf Rb w1 w2 De env s := go_run h
theorem gw_fz {x : OD} (hx : env[i]? = some (.ow x)) (h : w De (env.set i (.fz x.d)) s) : wFz i w De env s := ⟨x, hx, h⟩
theorem gw_for (h : Go (Rl env) (fun ds s1 => forL t w De ds env s1) s) : wFor t Rl w De env s := go_run h
theorem gw_par (h : Go (Rm env) (fun ss s1 => ss.length = is.length ∧ De.nx (setsE is ss env) s1) s) : wPar is Rm De env s := go_run h
theorem gw_app {ds : List D} (hi : env[i]? = some (.ow (.lst ds))) (hz : ds.length < sizeLine) (h : Go (R env) (fun d s1 => De.nx (env.set i (.ow (.lst (ds ++ [d])))) s1) s) : wApp i R De env s := ⟨ds, hi, hz, go_run h⟩
theorem gw_ext {ds : List D} (hi : env[i]? = some (.ow (.lst ds))) (h : Go (Rf env) (fun w s1 => ∃ es, w = .lst es ∧ ds.length + es.length ≤ sizeLine ∧ De.nx (env.set i (.ow (.lst (ds ++ es)))) s1) s) : wExt i Rf De env s := ⟨ds, hi, go_run h⟩
theorem gw_put {ds : List D} (hi : env[i]? = some (.ow (.lst ds))) (h : Go (R env) (fun d s1 => Go (Ri env) (fun k s2 => ∃ n j, k = .int n ∧ ixN ds.length n = some j ∧ De.nx (env.set i (.ow (.lst (ds.set j d)))) s2) s1) s) : wPut i Ri R De env s :=
  go_run (h.mono fun _ _ k => ⟨ds, hi, go_run k⟩)
theorem gw_dput {x : OD} (hi : env[i]? = some (.ow x)) (h : Go (R env) (fun d s1 => Go (Ri env) (fun k s2 => ∃ w', odPut x k d = some w' ∧ odSize x < sizeLine ∧ De.nx (env.set i (.ow w')) s2) s1) s) : wDPut i Ri R De env s :=
  go_run (h.mono fun _ _ k => ⟨x, hi, go_run k⟩)
/-- a loop, by what holds before each of its turns -/
theorem for_inv (I : List D → Env → S → Prop) (hs : ∀ d r env s, I (d :: r) env s → ∃ env', t.put d env = some env' ∧ ∀ De' : DE S, (∀ e z, I r e z → De'.nx e z) → (∀ e z, I r e z → De'.ct e z) → De'.bk = De.nx → De'.rt = De.rt → De'.ex = De.ex → w De' env' s)
    (he : ∀ env s, I [] env s → De.nx env s) : ∀ (ds : List D) (env : Env) (s : S), I ds env s → forL t w De ds env s
  | [], env, s, h => he env s h
  | d :: r, env, s, h => by
    obtain ⟨env', h1, h2⟩ := hs d r env s h
    exact ⟨env', h1, h2 _ (fun e z k => for_inv I hs he r e z k) (fun e z k => for_inv I hs he r e z k) rfl rfl rfl⟩
/-- a loop without break, return, continue: the state after each turn -/
theorem for_fold {σ : Type} (E : σ → Env) (f : σ → D → σ) (P : List D → σ → Prop) (hs : ∀ d r x s, P (d :: r) x → ∃ env', t.put d (E x) = some env' ∧ ∀ De' : DE S, De'.nx (E (f x d)) s → w De' env' s) (hp : ∀ d r x, P (d :: r) x → P r (f x d)) :
    ∀ (ds : List D) (x : σ) (s : S), P ds x → De.nx (E (ds.foldl f x)) s → forL t w De ds (E x) s
  | [], x, s, _, h => h
  | d :: r, x, s, p, h => by
    obtain ⟨env', h1, h2⟩ := hs d r x s p
    exact ⟨env', h1, h2 _ (for_fold E f P hs hp r (f x d) s (hp d r x p) h)⟩
end
end Pl
/-! An own exception over an own class over Exception, whose __init__ says super().__init__(text), then self.f = v: made at the heap's level. -/
namespace PySem
namespace Px
open PySem.W PySem.Calls PyProof.Rows Builtin Builtin.ObjectAttr
abbrev exTl : List Value := ESX.exTail
/-- what the written part says of the class C over B over Exception -/
structure ExB (K : Frag) (C B : Addr) : Prop where
  cls : ∃ nm q N bs sn sub ab col dd k0 k1 k2 k3 k5, K.lookup C = some (excClassObj nm q C N bs (.ref B :: exTl) true sn sub ab col dd k0 k1 k2 k3 k5 "Exception.__new__")
  sa : findIn K (.ref C) "__setattr__" = some (some (.builtin "object.__setattr__"))
  ini : alongIn K "__init__" (.ref B :: exTl) = some (some (.builtin "Exception.__init__"))
  exC : subIn K (.ref C) (.type "BaseException") = some true
  exE : subIn K (.ref C) (.type "Exception") = some true
  tyC : typeIn K (.ref C) = some (.type "type")
  kC : keepIn K (.ref C) = true
  op : nsIn K cStatics "thirdparty.any" = some none
  ne : C ≠ B
theorem has_tl {C B : Addr} (X : String) : (Value.ref B :: exTl).contains (.type X) = exTl.contains (.type X) := by rw [List.contains_cons]; rfl
theorem pass_tl (self : Value) (C B : Addr) : refuseLoop self "__setattr__" (.ref C :: .ref B :: exTl) = pure () := by
  rw [refuseLoop_ref, refuseLoop_ref]
  exact F.store_Exception.passes self
section
variable {prog : Program} {w : World} {A : Around} {E : Value → Shared → Prop} {R : Result → Shared → Prop} {hp : Heap} {g : Array GenState} {d : Drawn} {t : Nat} {os : OsState} {K : Frag} {C B : Addr}
theorem ExB.cd (T : ExB K C B) : ∃ cd, clsIn K C = some cd ∧ cd.mro = .ref C :: .ref B :: exTl ∧ cd.hasDict = true := by
  obtain ⟨nm, q, N, bs, sn, sub, ab, col, dd, k0, k1, k2, k3, k5, hC⟩ := T.cls
  exact ⟨{ name := nm, bases := bs, mro := .ref C :: .ref B :: exTl, ns := N, qualname := q, hasDict := true, slotNames := sn, subclasses := sub, abstract := ab, collection := col, hasDel := false }, by unfold clsIn; rw [hC] <;> rfl, rfl, rfl⟩
/-- self.name = v, the first one -/
theorem set_first {name : Str} {v : Value} {x : Addr} {fv : Array Value} {Q : Unit → Shared → Prop} (T : ExB K C B) (X : K.In hp) (hx : hp.get? x = some { cls := .ref C, data := .fields fv }) (ha : findIn K (.ref C) name = some none)
    (hq : ∀ h' tk' dx, (∀ b o, b ≠ x → hp.get? b = some o → h'.get? b = some o) → hp.objs.size ≤ dx → dx ≠ x → h'.get? x = some { cls := .ref C, dict := some dx, data := .fields fv } →
      h'.Ns1 dx (fun y => if y = name then some v else none) → Q () ⟨h', g, d, tk', os⟩) : wpAny (model prog w) A (setAttr (.ref x) name v) Q E ⟨hp, g, d, t, os⟩ := by
  obtain ⟨cd, hcd, hm, hh⟩ := T.cd
  have I : InstAt hp x { cls := .ref C, data := .fields fv } C none := ⟨hx, rfl, rfl, trivial⟩
  refine set_plain X I T.sa ?_
  have hxs : x ≠ hp.objs.size := Nat.ne_of_lt (Heap.lt_size hx)
  have hob : mroIn K C (.type "object") = some true := by
    unfold mroIn
    rw [hcd, Option.bind_some, hm]
    rw [if_neg (show ¬ (List.isEmpty (Value.ref C :: .ref B :: exTl) = true) from Bool.false_ne_true), List.contains_cons, has_tl (C := C)]
    rfl
  have so : Looks (model prog w) hp (isInstance (.ref x) (.type "object")) true := I.type.andThen (looks_mroIn X hob)
  have SF := F.store_object
  refine codeAny_call_builtin SF.slot.plain SF.entry (@check_slot (model prog w) _ _ ⟨hp, g, d, t + 1, os⟩ "object.__setattr__" "object" "__setattr__" (.ref x) [.str name t, v] [] _ SF.kind SF.split so (SF.args (.ref x) (.str name t) v) ?_)
  have hmr : Looks (model prog w) hp (mroOf (.ref C)) cd.mro := (looks_clsIn X hcd).andThen .now
  have l3 : Looks (model prog w) hp (storeTaker? none) none := .now
  have hcls : Looks (model prog w) hp (classData C) cd := looks_clsIn X hcd
  rw [osa_eq, refuse_eq]
  refine wpAny_bind (wpAny_bind (I.type.at (wpAny_bind (hmr.at ?_))))
  rw [hm, pass_tl]
  refine wpAny_pure (wpAny_bind (I.type.at (wpAny_bind ((looks_findIn X ha).at (wpAny_bind (l3.at ?_))))))
  show wpAny _ _ (storeInOwnDict (.ref x) (.ref C) (.str name t) name v false) _ _ _
  obtain ⟨nm, bs, mro, ns, qn, hd, sn, sb, ab, col, del⟩ := cd
  dsimp only at hh
  subst hh
  unfold storeInOwnDict ownDictForStores
  repeat (first | with_reducible refine HandSPX.store_in_new ?_ ?_ | with_reducible refine wpAny_loadPart_at hx ?_ | with_reducible refine hcls.at ?_ | wp_step)
  · exact ⟨_, #[], _, (Heap.get?_update_ne _ _ _ _ hxs.symm).trans (Heap.get?_push_at rfl rfl), rfl, fun e he => absurd he (by simp), fun _ => rfl⟩
  · intro h' tk' hn' hs
    have hx₁ : (hp.push { cls := .type "dict", data := .dict #[] }).get? x = some { cls := .ref C, data := .fields fv } := Heap.get?_push_of_some _ hx
    exact hq h' tk' hp.objs.size (fun b o hb ho => (hs.2 b (Nat.ne_of_lt (Heap.lt_size ho))).trans ((Heap.get?_update_ne _ _ _ _ hb).trans (Heap.get?_push_of_some _ ho))) (Nat.le_refl _) hxs.symm ((hs.2 x hxs).trans (Heap.get?_update_self _ hx₁ rfl)) hn'
/-- what K holds of such an __init__: a def with the cell of its class -/
structure IniF (K : Frag) (P : Program) (fI C : Addr) (qual : Str) (st : Stmt) : Prop where
  ex : ∃ (name : Str) (kV doc pm ct oc : Value) (an od : Option Addr) (cda cc : Addr) (osl : Array (Option Value)) (vs : Array Value) (file : Str) (tf : Tok) (ccl cl : Value) (cdd cld : Option Addr) (ccs csl : Array (Option Value)),
    K.lookup fI = some ⟨oc, od, .func (ksFn name qual (L2.defArgs st) (L2.defBody st) (L2.defScope st) .none kV doc pm an (.ref cda) ct cc), osl⟩ ∧ codeIn K (.ref cda) qual = true ∧
    K.lookup cda = some ⟨ccl, cdd, .fields vs, ccs⟩ ∧ vs[2]? = some (.str file tf) ∧ ((P.main.file : Str) == file) = true ∧ K.lookup cc = some ⟨cl, cld, .cell (some (.ref C)), csl⟩
section
variable {mg mb : Str → Option Value} {e t1 fI : Addr} {qual slf prm fld txt : Str} {st : Stmt} {u : Value} {p0 p1 p2 p3 p4 p5 p6 p7 p8 p9 : Pos} {j : Nat}
/-- the run of __init__(self, prm): super().__init__(txt); self.fld = prm -/
theorem ini_run (T : ExB K C B) (Fi : IniF K prog fI C qual st) (X : K.In hp) (lim : hp.NoLimit) (G : hp.Ns mainGlobals mg) (Bn : hp.Ns builtinsNs mb) (hsup : mg "super" = none) (hbs : mb "super" = some (.type "super"))
    (he : hp.get? e = some (HandSPX.excO C t1)) (hroom : A.depth < recursionLimit) (hno : findIn K (.ref C) fld = some none)
    (hbody : L2.defBody st = [.Expr (.Call (.Attribute (.Call (.Name "super" p0) [] [] p1) "__init__" p2) [.Constant (.str txt) j p3] [] p4) p5, .Assign [.Attribute (.Name slf p6) fld p7] (.Name prm p8) p9])
    (hpar : ((L2.defArgs st).posonlyargs ++ (L2.defArgs st).args).head?.map (·.arg) = some slf)
    (hbind : ∀ (nm : Str) (kV doc pm ct : Value) (an : Option Addr) (cda cc : Addr), bindArgs (ksFn nm qual (L2.defArgs st) (L2.defBody st) (L2.defScope st) .none kV doc pm an (.ref cda) ct cc) ⟨[.ref e, u], []⟩ = pure [(slf, .ref e), (prm, u)])
    (h1 : (L2.defScope st).names.lookup slf = some .local) (h2 : (L2.defScope st).names.lookup prm = some .local) (h3 : (L2.defScope st).names.lookup ("super" : Str) = some .globalImplicit) (h4 : (L2.defScope st).names.lookup ("__class__" : Str) = some .free)
    (h5 : ∀ x ∈ (L2.defScope st).names, x.2 ≠ .cell) (h6 : (L2.defScope st).kind = .function) (h7 : (L2.defScope st).isCoroutine = false) (h8 : (L2.defScope st).isGenerator = false) (hsp : slf ≠ prm) (htop : (prog.main.scope.names.lookup ("super" : Str)).isSome = false)
    (hke : K.lookup e = none) (hd1 : (slf == ("__debug__" : Str)) = false) (hd2 : (prm == ("__debug__" : Str)) = false)
    (hcall : ∀ env, ∃ pl : Sem Bool, eval (.Call (.Attribute (.Call (.Name "super" p0) [] [] p1) "__init__" p2) [.Constant (.str txt) j p3] [] p4) env = (do
      let ov ← attributeBase (.Call (.Name "super" p0) [] [] p1) "__init__" env (eval (.Call (.Name "super" p0) [] [] p1) env)
      standAt p2.atName
      let (f, first) ← holding [ov] (getMethod ov "__init__" pl)
      callWith p4 f first (backTo p4 (starEach [.Constant (.str txt) j p3] env)) []))
    (hsw0 : ∀ env, swapsWith (.Call (.Attribute (.Call (.Name "super" p0) [] [] p1) "__init__" p2) [.Constant (.str txt) j p3] [] p4) none p5.line env = pure false)
    (hsw : ∀ env, swapsWith (.Name prm p8) (some (.Attribute (.Name slf p6) fld p7)) p9.line env = pure false)
    (hR : ∀ h' tk' dx t2, (∀ b o, b ≠ e → hp.get? b = some o → h'.get? b = some o) → hp.objs.size ≤ dx → dx ≠ e → h'.get? e = some { cls := .ref C, dict := some dx, data := .fields #[.ref t2, .none, .none, .none, .bool false, .none] } →
      h'.Ns1 dx (fun y => if y = fld then some u else none) → R (.ok (.ret .none)) ⟨h', g, d, tk', os⟩) :
    codeAny (model prog w) A (.call (.ref fI) ⟨[.ref e, u], []⟩) R ⟨hp, g, d, t, os⟩ := by
  obtain ⟨name, kV, doc, pm, ct, oc, an, od, cda, cc, osl, vs, file, tf, ccl, cl, cdd, cld, ccs, csl, lk, hcd, lc, hvs, hfile, lcc⟩ := Fi.ex
  obtain ⟨nm, q, N, bs, sn, sub, ab, col, dd, k0, k1, k2, k3, k5, hC⟩ := T.cls
  refine ks_codeAny_call_defAt (fd := ksFn name qual (L2.defArgs st) (L2.defBody st) (L2.defScope st) .none kV doc pm an (.ref cda) ct cc) (body := L2.defBody st) (binds := [(slf, .ref e), (prm, u)]) hroom (X _ _ lk) rfl lim (codeRec_of X hcd) rfl (.of_eq (hbind _ _ _ _ _ _ _ _)) h5 (fun y hy => ?_) (fun h₁ hns hk₁ => ?_) h7 h8 h6
  · simp only [List.mem_cons, List.not_mem_nil, or_false] at hy
    rcases hy with rfl | rfl
    · exact h1
    · exact h2
  show wpAt (model prog w) _ (.func (L2.defBody st) (ksEnv qual (L2.defScope st) hp.objs.size fI (.ref cda) cc)) (execs (L2.defBody st) (ksEnv qual (L2.defScope st) hp.objs.size fI (.ref cda) cc)) _ _ _
  have X1 : K.In h₁ := fun a o z => hk₁ _ _ (X a o z)
  have he1 := hk₁ _ _ he
  have hl : e ≠ hp.objs.size := Nat.ne_of_lt (Heap.lt_size he)
  have hself : mroIn K C (.ref C) = some true := by
    obtain ⟨cd, hcd, hm, _⟩ := T.cd
    unfold mroIn
    rw [hcd, Option.bind_some, hm]
    rw [if_neg (show ¬ (List.isEmpty (Value.ref C :: .ref B :: exTl) = true) from Bool.false_ne_true), List.contains_cons]
    simp
  obtain ⟨ar, har, harg⟩ : ∃ ar, ((L2.defArgs st).posonlyargs ++ (L2.defArgs st).args).head? = some ar ∧ ar.arg = slf := by
    cases z : ((L2.defArgs st).posonlyargs ++ (L2.defArgs st).args).head? with
    | none => rw [z] at hpar; cases hpar
    | some ar => rw [z] at hpar; exact ⟨ar, rfl, Option.some.inj hpar⟩
  have eC : e ≠ C := fun z => by
    have q1 := X _ _ hC
    rw [← z, he] at q1
    have q2 := congrArg Obj.data (Option.some.inj q1)
    cases q2
  have lsl : ([(slf, Value.ref e), (prm, u)] : List (Str × Value)).reverse.lookup slf = some (.ref e) := by
    have b1 : (slf == prm) = false := by simpa using hsp
    simp [List.lookup, b1]
  have lpr : ([(slf, Value.ref e), (prm, u)] : List (Str × Value)).reverse.lookup prm = some u := by simp [List.lookup]
  suffices go : wpAt (model prog w) (A.deeper (ksEnv qual (L2.defScope st) hp.objs.size fI (.ref cda) cc)) (.func (L2.defBody st) (ksEnv qual (L2.defScope st) hp.objs.size fI (.ref cda) cc))
      (execs [.Expr (.Call (.Attribute (.Call (.Name "super" p0) [] [] p1) "__init__" p2) [.Constant (.str txt) j p3] [] p4) p5, .Assign [.Attribute (.Name slf p6) fld p7] (.Name prm p8) p9] (ksEnv qual (L2.defScope st) hp.objs.size fI (.ref cda) cc))
      (fun f s' => R (.ok (.ret (match f with | .ret v => v | _ => .none))) s') (fun e s' => wpAny (model prog w) (A.deeper (ksEnv qual (L2.defScope st) hp.objs.size fI (.ref cda) cc)) (leaving (ksEnv qual (L2.defScope st) hp.objs.size fI (.ref cda) cc) e) (fun _ s'' => R (.error e) s'') (fun e' s'' => R (.error e') s'') s')
      ⟨h₁, g, d, t + 2, os⟩ by
    rw [← hbody] at go
    exact go
  obtain ⟨pl, hpl⟩ := hcall (ksEnv qual (L2.defScope st) hp.objs.size fI (.ref cda) cc)
  refine ks_wpAt_execs_cons (ks_wpAt_Expr_any (ks_wpAt_MethodCall (pl := pl) ?_ hpl) (by unfold interactive; simp [h6]) (hsw0 _))
  refine ks_wpAt_super_base (env := ksEnv qual (L2.defScope st) hp.objs.size fI (.ref cda) cc) h3 h4 (by decide) rfl (X1 _ _ lk) rfl har rfl (X1 _ _ lc) rfl hvs hfile htop ?_
  refine ks_loadName_global h6 h3 (loadGlobal_builtin (env := ksEnv qual (L2.defScope st) hp.objs.size fI (.ref cda) cc) (G.at fun o z => hk₁ _ o z) hsup (Bn.at fun o z => hk₁ _ o z) hbs ⟨rfl, ?_⟩)
  refine wpAny_loadName_free h6 h4 rfl ⟨_, X1 _ _ lcc, rfl⟩ ?_
  rw [harg]
  refine wpAny_loadName_local h6 h1 hns lsl ?_
  refine ks_wpAny_isType_cls (X1 _ _ hC) rfl ⟨rfl, ?_⟩
  refine ks_wpAny_call_super (X1 _ _ hC) rfl he1 rfl (fun c z => by cases z) (looks_mroIn X1 hself) (fun hb hso k2 => ?_)
  have X2 : K.In hb := fun a o z => k2 _ _ (X1 a o z)
  have I2 : InstAt hb e (HandSPX.excO C t1) C none := ⟨k2 _ _ he1, rfl, rfl, trivial⟩
  refine kxs_getMethod kxs_Exception hso (looks_opaque X2 T.op) (l₀ := .ref C :: .ref B :: exTl) ?_ (ESX.drop_own C _) X2 T.ini (I2.type.andThen (looks_subIn X2 T.exE)) eC (by decide) ?_
  · obtain ⟨cd, hcd, hm, _⟩ := T.cd
    rw [← hm]
    exact (looks_clsIn X2 hcd).andThen .now
  refine ESX.callWith_bound (x := e) (args_cons (Constant_str (args_nil ⟨Heap.get?_push_size _ rfl, ?_⟩)) (by rfl)) (by rfl) (by rfl)
  have k3 : ∀ b o, hb.get? b = some o → (hb.push (kxs_mw "Exception.__init__" e)).get? b = some o := fun b o z => Heap.get?_push_of_some _ z
  refine ESX.call_bw (k3 _ _ (X2 _ _ hC)) (k3 _ _ (k2 _ _ he1)) (Heap.get?_push_size _ rfl) (by show 1 ≤ sizeLine; decide) fun hc t2 k4 he4 => ?_
  have kk : ∀ b o, b ≠ e → h₁.get? b = some o → hc.get? b = some o := fun b o hb z => k4 b o hb (k3 _ _ (k2 _ _ z))
  have X4 : K.In hc := fun a o z => kk _ _ (fun q => by rw [q, hke] at z; cases z) (X1 a o z)
  have hns4 : hc.Ns hp.objs.size (fun y => ([(slf, Value.ref e), (prm, u)] : List (Str × Value)).reverse.lookup y) := hns.at fun o z => kk _ o (Ne.symm hl) z
  refine ks_wpAt_execs_cons (wpAt_of_wpAny (plainObj_wpAny_Assign_Attribute (wpAny_Name (wpAny_loadName_local h6 h2 hns4 lpr (wpAny_Name (wpAny_loadName_local h6 h1 hns4 lsl ?_) hd1)) hd2) (hsw _)))
  refine set_first T X4 he4 hno fun h' tk' dx kd dn de hx hn => ?_
  refine wpAt_of_wpAny (wpAny_execs_nil ?_)
  have sz : hp.objs.size ≤ hc.objs.size := Nat.le_of_lt (hns4.lt)
  exact hR h' tk' dx t2 (fun b o hb z => kd b o hb (kk b o hb (hk₁ b o z))) (Nat.le_trans sz dn) de hx hn
end
end
end Px
end PySem
/-! Raising such an exception, in a context and as a reading. -/
namespace L2
open PySem PySem.Spec PyProof.Rows
/-- what the class and its __init__ are -/
structure ExRK (K : PySem.W.Frag) (P : Program) (mg : Str → Option Value) (x : Str) (C B fI : Addr) (qual fld : Str) (st : Stmt) : Prop where
  T : PySem.Px.ExB K C B
  Fi : PySem.Px.IniF K P fI C qual st
  iC : PySem.W.findIn K (.ref C) "__init__" = some (some (.ref fI))
  tI : PySem.W.typeIn K (.ref fI) = some (.type "function")
  m : mg x = some (.ref C)
  sup : mg "super" = none
  no : PySem.W.findIn K (.ref C) fld = some none
abbrev ExR (X : Cx) (x : Str) (C B fI : Addr) (qual fld : Str) (st : Stmt) : Prop := ExRK X.K X.prog X.mg x C B fI qual fld st
/-- what its text is -/
structure ExS (P : Program) (slf prm fld : Str) (st : Stmt) : Prop where
  body : ∃ (p0 p1 p2 p3 p4 p5 p6 p7 p8 p9 : Pos) (j : Nat) (txt : Str), L2.defBody st = [.Expr (.Call (.Attribute (.Call (.Name "super" p0) [] [] p1) "__init__" p2) [.Constant (.str txt) j p3] [] p4) p5, .Assign [.Attribute (.Name slf p6) fld p7] (.Name prm p8) p9] ∧
    (∀ env, ∃ pl : Sem Bool, eval (.Call (.Attribute (.Call (.Name "super" p0) [] [] p1) "__init__" p2) [.Constant (.str txt) j p3] [] p4) env = (do
      let ov ← attributeBase (.Call (.Name "super" p0) [] [] p1) "__init__" env (eval (.Call (.Name "super" p0) [] [] p1) env)
      standAt p2.atName
      let (f, first) ← holding [ov] (getMethod ov "__init__" pl)
      callWith p4 f first (backTo p4 (starEach [.Constant (.str txt) j p3] env)) [])) ∧
    (∀ env, swapsWith (.Call (.Attribute (.Call (.Name "super" p0) [] [] p1) "__init__" p2) [.Constant (.str txt) j p3] [] p4) none p5.line env = pure false) ∧ (∀ env, swapsWith (.Name prm p8) (some (.Attribute (.Name slf p6) fld p7)) p9.line env = pure false)
  par : ((L2.defArgs st).posonlyargs ++ (L2.defArgs st).args).head?.map (·.arg) = some slf
  bind : ∀ (e u : Value) (qual nm : Str) (kV doc pm ct : Value) (an : Option Addr) (cda cc : Addr), bindArgs (PySem.W.ksFn nm qual (L2.defArgs st) (L2.defBody st) (L2.defScope st) .none kV doc pm an (.ref cda) ct cc) ⟨[e, u], []⟩ = pure [(slf, e), (prm, u)]
  h1 : (L2.defScope st).names.lookup slf = some .local
  h2 : (L2.defScope st).names.lookup prm = some .local
  h3 : (L2.defScope st).names.lookup ("super" : Str) = some .globalImplicit
  h4 : (L2.defScope st).names.lookup ("__class__" : Str) = some .free
  h5 : ∀ x ∈ (L2.defScope st).names, x.2 ≠ .cell
  h6 : (L2.defScope st).kind = .function
  h7 : (L2.defScope st).isCoroutine = false
  h8 : (L2.defScope st).isGenerator = false
  sp : slf ≠ prm
  top : (P.main.scope.names.lookup ("super" : Str)).isSome = false
  d1 : (slf == ("__debug__" : Str)) = false
  d2 : (prm == ("__debug__" : Str)) = false
section
variable {X : Cx} {e : Expr} {ta : TE} {x qual slf prm fld : Str} {C B fI : Addr} {st : Stmt} {k : Nat} {p pos : Pos}
theorem pmk_exb (R : ExR X x C B fI qual fld st) (S : ExS X.prog slf prm fld st) (hr : Room (k + 2) X.A) (hg : Gl X x) (ha : PE X e ta) (hdb : (x == ("__debug__" : Str)) = false := by decide)
    (he : starEach [e] X.env = (false, eval e X.env) :: starEach [] X.env := by rfl) :
    PMk X (.Call (.Name x p) [e] [] pos) (fun σ H Q => ta σ H fun v H1 => ∀ d, H1 d = none → Q (.ref C) (some d) (upd H1 d (.xd [(fld, v)]))) := by
  intro pins s σ H Q I h
  obtain ⟨nm, q, N, bs, sn, sub, ab, col, dd, k0, k1, k2, k3, k5, hC⟩ := R.T.cls
  refine wpAny_Call_Name_kw (ld_glob I hg R.m ?_ hdb)
  refine PySem.W.callWith_K (h₀ := X.base) I.ok.mod.kin R.T.kC (args_cons (thn (ha.run pins s σ H _ I h) fun u s1 ⟨y, H1, I1, ry, q1⟩ => args_nil ⟨I1.kIn, ?_⟩) he) he rfl
  show wpAny _ _ (call (.ref C) [u]) _ _ _
  obtain ⟨hp, g, dr, tk, os⟩ := s1
  have hsz : hp.objs.size ≤ hp.objs.size + 1 := Nat.le_succ _
  have hn : H1 (hp.objs.size + 1) = none := I1.hok.fresh hsz
  have kk : ∀ b o, hp.get? b = some o → ((hp.push (PySem.W.kdv_tup [u])).push (PySem.HandSPX.excO C hp.objs.size)).get? b = some o := fun b o z => Heap.get?_push_of_some _ (Heap.get?_push_of_some _ z)
  have hget : ((hp.push (PySem.W.kdv_tup [u])).push (PySem.HandSPX.excO C hp.objs.size)).get? (hp.objs.size + 1) = some (PySem.HandSPX.excO C hp.objs.size) := by heap_get
  have I2 : Inv X pins σ (upd H1 (hp.objs.size + 1) (exo (hp.objs.size + 1) C none)) ⟨(hp.push (PySem.W.kdv_tup [u])).push (PySem.HandSPX.excO C hp.objs.size), g, dr, tk, os⟩ :=
    I1.laid (t' := tk) (a := hp.objs.size + 1) (o := exo (hp.objs.size + 1) C none) (h' := (hp.push (PySem.W.kdv_tup [u])).push (PySem.HandSPX.excO C hp.objs.size)) kk hsz (exo_ok hget)
  obtain ⟨p0, p1, p2, p3, p4, p5, p6, p7, p8, p9, j, txt, hbody, hcall, hsw0, hsw⟩ := S.body
  obtain ⟨mb, hb1, hb2⟩ := I2.mod.blt
  have hke : X.K.lookup (hp.objs.size + 1) = none := by
    cases z : X.K.lookup (hp.objs.size + 1) with
    | none => rfl
    | some o =>
      have y := Heap.lt_size (I1.kIn _ _ z)
      exact absurd y (by show ¬ (hp.objs.size + 1 < hp.objs.size); omega)
  refine wpAny_call (PySem.HandSPX.call_own F.excBase_Exception (fun Y => PySem.Px.has_tl (C := C) Y) (I1.kIn _ _ hC) (PySem.W.looks_findIn I1.kIn R.iC) (fun self => PySem.W.bind_fn I1.kIn self R.tI) (by show 1 ≤ sizeLine; decide) ?_)
  refine PySem.Px.ini_run (mg := X.mg) (mb := mb) R.T R.Fi I2.kIn ((I2.ok.mod.nolimit).keeps fun b o z => I2.bk b o z) (I2.mod.glob.keeps I2.bk) (hb1.keeps I2.bk) R.sup ((hb2 _ (by decide)).trans (by decide +kernel)) hget (hr.make C [u] []).depth R.no hbody S.par
    (fun _ _ _ _ _ _ _ _ => S.bind _ _ _ _ _ _ _ _ _ _ _) S.h1 S.h2 S.h3 S.h4 S.h5 S.h6 S.h7 S.h8 S.sp S.top hke S.d1 S.d2 hcall hsw0 hsw fun h' tk' dx t2 k dn dne hx hns => ?_
  refine ⟨rfl, ?_⟩
  have ea : upd H1 (hp.objs.size + 1) (exo (hp.objs.size + 1) C none) (hp.objs.size + 1) = some (exo (hp.objs.size + 1) C none) := upd_same
  have nd0 : upd H1 (hp.objs.size + 1) (exo (hp.objs.size + 1) C none) dx = none := I2.hok.fresh dn
  have nd1 : H1 dx = none := by rw [upd_ne dne] at nd0; exact nd0
  have ltd : ∀ {b : Addr} {o : Obj}, ((hp.push (PySem.W.kdv_tup [u])).push (PySem.HandSPX.excO C hp.objs.size)).get? b = some o → b ≠ dx := fun z => Nat.ne_of_lt (Nat.lt_of_lt_of_le (Heap.lt_size z) dn)
  have nea : ∀ {b : Addr}, upd H1 (hp.objs.size + 1) (exo (hp.objs.size + 1) C none) b = none → b ≠ hp.objs.size + 1 := fun {b} n z => by
    rw [z, ea] at n
    cases n
  have stay : ∀ {b : Addr} {v : HO}, upd H1 (hp.objs.size + 1) (exo (hp.objs.size + 1) C none) b = some v → exo (hp.objs.size + 1) C none ≠ v →
      b ≠ hp.objs.size + 1 ∧ upd (upd (upd H1 (hp.objs.size + 1) (exo (hp.objs.size + 1) C none)) dx (exd dx [(fld, y)])) (hp.objs.size + 1) (exo (hp.objs.size + 1) C (some dx)) b = some v := fun {b v} z d => by
    have nb := at_ne ea z d
    exact ⟨nb, by rw [upd_ne nb, upd_ne (ne_of_none z nd0)]; exact z⟩
  have unU : Un (frs X.stack) [] (upd H1 (hp.objs.size + 1) (exo (hp.objs.size + 1) C none)) (upd (upd (upd H1 (hp.objs.size + 1) (exo (hp.objs.size + 1) C none)) dx (exd dx [(fld, y)])) (hp.objs.size + 1) (exo (hp.objs.size + 1) C (some dx)))
      ((hp.push (PySem.W.kdv_tup [u])).push (PySem.HandSPX.excO C hp.objs.size)) h' :=
    ⟨fun b o z n _ _ => k b o (nea n) z, fun b o z n _ _ => ⟨o.slots, k b o (nea n) z⟩, fun b o z n _ => by rw [upd_ne (nea n), upd_ne (ltd z)]; exact n, fun b o z _ => by
      by_cases c : b = hp.objs.size + 1
      · exact ⟨_, c ▸ hx⟩
      · exact ⟨o, k b o c z⟩, fun b xs z => (stay z exo_tup).2, fun b o v z => (stay z exo_frz).2, fun b ps z => ⟨#[], by rw [(stay z exo_tbl).2]; simp⟩⟩
  have hokU : HOk X.prog X.w (upd (upd (upd H1 (hp.objs.size + 1) (exo (hp.objs.size + 1) C none)) dx (exd dx [(fld, y)])) (hp.objs.size + 1) (exo (hp.objs.size + 1) C (some dx))) h' := fun b o z => by
    by_cases c : b = hp.objs.size + 1
    · rw [c, upd_same] at z
      cases z
      rw [c]
      exact exo_ok hx
    · rw [upd_ne c] at z
      by_cases c2 : b = dx
      · rw [c2, upd_same] at z
        cases z
        rw [c2]
        exact exd_ok hns (relO_put (fs := []) (mA := fun _ => none) ry fun g => True.intro)
      · rw [upd_ne c2] at z
        refine (I2.hok b o z).stay (fun c' v hc z' => k c' v ?_ z') (fun c' hc => (stay hc exo_own).2) (fun c' xs hc => (stay hc exo_tup).2)
        rcases hc with hc | hc
        · exact fun z2 => c (hc ▸ z2)
        · exact (stay hc exo_own).1
  have fin : upd (del (upd (upd (upd H1 (hp.objs.size + 1) (exo (hp.objs.size + 1) C none)) dx (exd dx [(fld, y)])) (hp.objs.size + 1) (exo (hp.objs.size + 1) C (some dx))) (hp.objs.size + 1)) dx (.xd [(fld, y)]) = upd H1 dx (.xd [(fld, y)]) := by
    funext b
    by_cases c2 : b = dx
    · rw [c2, upd_same, upd_same]
    · rw [upd_ne c2, upd_ne c2]
      by_cases c : b = hp.objs.size + 1
      · rw [c, del_same, hn]
      · rw [del_ne c, upd_ne c, upd_ne c2, upd_ne c]
  exact mk_end (H2 := upd (upd (upd H1 (hp.objs.size + 1) (exo (hp.objs.size + 1) C none)) dx (exd dx [(fld, y)])) (hp.objs.size + 1) (exo (hp.objs.size + 1) C (some dx))) (fs := [(fld, y)]) (raises_own R.T.exC R.T.tyC) I1 hsz kk unU hokU rfl I1.bare upd_same (by rw [upd_ne dne, upd_same]) nd1 (by rw [fin]; exact q1 dx nd1)
end
end L2
/-! The pure layer, part 18: raise; a lambda handed to a def that catches. -/
namespace Pl
open PySem PySem.Spec PyProof.Rows L2

def wRaise {S : Type} (C : Addr) (fld : Str) (R : Env → DM S D) : DW S := fun De env s => run (R env) De env (fun d s1 => De.ex C [fld] [d] env s1) s
theorem psd_raise {X : Cx} {G : Gh} {W : WX} {e : Expr} {R : Env → DM G.S D} {x qual slf prm fld : Str} {C B fI : Addr} {st : Stmt} {k : Nat} {p pos pos2 : Pos} (Rr : ExR X x C B fI qual fld st) (Ss : ExS X.prog slf prm fld st) (hr : Room (k + 2) X.A) (hc : X.calm = true) (tk : Takes X W)
    (h : PD X G W e R) (hg : Gl X x := by rfl) (hdb : (x == ("__debug__" : Str)) = false := by decide) (he : starEach [e] X.env = (false, eval e X.env) :: starEach [] X.env := by rfl) : PSd X G W (.Raise (some (.Call (.Name x p) [e] [] pos)) none pos2) (wRaise C fld R) :=
  PS.imp (ps_raise hc tk (pmk_exb Rr Ss hr hg h hdb he)) fun Dn σ H ⟨H0, F0, F, env, s, De, S, h, L⟩ => tG_run S h L fun d v H1 F1 s1 S1 x1 g k => fun d0 nd => by
    have E := Ext.own (fp := fun _ => False) (HO.xd [(fld, v)]) S1.fh nd
    exact L.ex C [fld] [d] env σ _ F1 s1 d0 [(fld, v)] (S1.step (.of_all E) (at_all S1 E)) upd_same rfl (.cons g .nil) k

/-! ### code tables beside -/
def noT (H : Hp) : Hp := fun p => match H p with
  | some (.tbl _) => none
  | x => x
theorem noT_some {H : Hp} {p : Addr} {o : HO} (h : noT H p = some o) : H p = some o ∧ ∀ ps, o ≠ .tbl ps := by
  unfold noT at h
  split at h
  · cases h
  · rename_i q
    exact ⟨h, fun ps e => q ps (by rw [h, e])⟩
theorem noT_none {H : Hp} {p : Addr} (h : H p = none) : noT H p = none := by unfold noT; rw [h]
theorem noT_of {H : Hp} {p : Addr} {o : HO} (h : H p = some o) (n : ∀ ps, o ≠ .tbl ps) : noT H p = some o := by
  unfold noT
  rw [h]
  split
  · rename_i q
    exact absurd (Option.some.inj q) (n _)
  · rfl
def SameN (F F' : Hp) : Prop := ∀ p o, F p = some o → (∀ ps, o ≠ .tbl ps) → F' p = some o
mutual
theorem Rep.monoN {K : Frg} {F F' : Hp} (e : SameN F F') : ∀ {v : V} {d : D}, Rep K F v d → Rep K F' v d
  | _, _, .non => .non
  | _, _, .bl b => .bl b
  | _, _, .int i => .int i
  | _, _, .str x => .str x
  | _, _, .ty n => .ty n
  | _, _, .fn a => .fn a
  | _, _, .tup h r => .tup (e _ _ h fun _ z => by cases z) (Reps.monoN e r)
  | _, _, .lst h r => .lst (e _ _ h fun _ z => by cases z) (Reps.monoN e r)
  | _, _, .frl h r => .frl (by
      rcases h with (h | ⟨o, h⟩) | h
      · exact .inl (.inl (e _ _ h fun _ z => by cases z))
      · exact .inl (.inr ⟨o, e _ _ h fun _ z => by cases z⟩)
      · exact .inr h) (Reps.monoN e r)
  | _, _, .dic h r => .dic (e _ _ h fun _ z => by cases z) (Reps.monoN e r)
  | _, _, .dit h r => .dit (e _ _ h fun _ z => by cases z) (Reps.monoN e r)
  | _, _, .ins h r => .ins (e _ _ h fun _ z => by cases z) (Reps.monoN e r)
theorem Reps.monoN {K : Frg} {F F' : Hp} (e : SameN F F') : ∀ {vs : List V} {ds : List D}, Reps K F vs ds → Reps K F' vs ds
  | _, _, .nil => .nil
  | _, _, .cons h r => .cons (Rep.monoN e h) (Reps.monoN e r)
end
theorem OwnO.monoN {K : Frg} {F F' : Hp} (e : SameN F F') {o : HO} {w : OD} (h : OwnO K F o w) : OwnO K F' o w ∧ ∀ ps, o ≠ .tbl ps := by
  cases o <;> cases w <;> first | exact False.elim h | exact ⟨Reps.monoN e h, fun _ z => by cases z⟩ | exact ⟨⟨h.1, Reps.monoN e h.2⟩, fun _ z => by cases z⟩ | exact ⟨⟨h.1, h.2.1, Reps.monoN e h.2.2⟩, fun _ z => by cases z⟩
theorem same_noT (F : Hp) : SameN F (noT F) := fun _ _ h n => noT_of h n
theorem Slots.noT {K : Frg} {G : Gh} {H0 F H H1 : Hp} {env : Env} {σ : L2.St} {L : List Addr} (e : SameN H H1) (r : Slots K G H0 F H env σ L) : Slots K G (Pl.noT H0) (Pl.noT F) H1 env σ L := by
  induction r with
  | nil => exact .nil
  | no _ ih => exact .no ih
  | fz h _ ih => exact .fz (h.monoN (same_noT F)) ih
  | ow h f g h0 q m _ ih =>
    obtain ⟨q', n⟩ := q.monoN (same_noT F)
    exact .ow (e _ _ h n) (noT_none f) g (noT_none h0) q' m ih
  | gh _ ih => exact .gh ih
theorem Sim.noT {K : Frg} {p : Addr × Addr} {H0 F0 H F H1 : Hp} {env : Env} {σ : L2.St} {s : DlS} (S : Sim K (dl p).g H0 F0 env σ H F s) (e : SameN H H1) (nfp : ∀ q, (dl p).g.fp q → H0 q = none) : Sim K (dl p).g (Pl.noT H0) (Pl.noT F) env σ H1 (Pl.noT F) s := by
  have fh : Same (Pl.noT F) H1 := fun q o z => by
    obtain ⟨z1, n⟩ := noT_some z
    exact e q o (S.fh q o z1) n
  have up : ∀ q o, Pl.noT H0 q = some o → H1 q = some o := fun q o z => by
    obtain ⟨z1, n⟩ := noT_some z
    exact e q o (S.ext.h q o (fun y => by rw [nfp q y] at z1; cases z1) z1) n
  obtain ⟨a0, a1, a2⟩ := S.at_
  obtain ⟨L, r⟩ := S.sl
  refine ⟨fh, ⟨fun q o _ z => up q o z, fun q z => ?_, Same.refl _, fh, fun _ _ h => h⟩, ⟨a0, e _ _ a1 fun _ z => (by cases z), e _ _ a2 fun _ z => (by cases z)⟩, fun q z => noT_none (S.nf q z), L, r.noT e⟩
  cases y : Pl.noT H0 q with
  | none => exact absurd y z
  | some o => rw [up q o y]; simp

theorem atI_zero {α : Type} (x : α) (xs : List α) : atI (x :: xs) 0 = some x := by
  unfold atI ixN
  rw [if_pos (Int.le_refl 0), if_pos (by rw [List.length_cons]; omega)]
  rfl
end Pl
/-! The pure layer, part 19: code tables as a part of the state; calls with a lambda whose exception is caught. -/
namespace Pl
open PySem PySem.Spec PyProof.Rows L2

abbrev Tb : Type := List (Addr × Str)
def tfp (T : Tb) : Addr → Prop := fun q => ∃ x, (q, x) ∈ T
theorem tabs_keep {T : Tb} {H H' : Hp} (e : ∀ p, tfp T p → H' p = H p) (x : ∀ p φ, H p = some (HO.ext φ) → H' p = some (HO.ext φ)) (t : LamX.Tabs T H) : LamX.Tabs T H' := fun p hp => by
  obtain ⟨ps, h1, h2, h3⟩ := t p hp
  refine ⟨ps, by rw [e p.1 ⟨p.2, hp⟩]; exact h1, h2, fun pos cv hc => ?_⟩
  obtain ⟨c, e1, e2⟩ := h3 pos cv hc
  exact ⟨c, e1, x _ _ e2⟩
theorem tabs_some {T : Tb} {H : Hp} {p : Addr} (t : LamX.Tabs T H) (h : tfp T p) : ∃ ps, H p = some (.tbl ps) := by
  obtain ⟨x, hx⟩ := h
  obtain ⟨ps, h1, _⟩ := t _ hx
  exact ⟨ps, h1⟩
/-- the tables alone -/
def tb (T : Tb) : GhS Unit where
  At := fun _ H _ => LamX.Tabs T H
  fp := tfp T
  self := .non
  loc := fun _ _ _ _ _ e x _ t => tabs_keep e x t
  dom := fun _ _ _ _ t h => by obtain ⟨ps, z⟩ := tabs_some t h; rw [z]; simp
/-- the draws and the tables -/
def dt (q : (Addr × Addr) × Tb) : GhS DlS where
  At := fun s H F => (dl q.1).At s H F ∧ LamX.Tabs q.2 H
  fp := fun p => (dl q.1).fp p ∨ tfp q.2 p
  self := (dl q.1).self
  loc := fun s H H' F F' e x sf a => ⟨(dl q.1).loc s H H' (fun p h => e p (.inl h)) x sf a.1, tabs_keep (fun p h => e p (.inr h)) x a.2⟩
  dom := fun s H F p a h => h.elim (fun h => (dl q.1).dom s H p a.1 h) fun h => by obtain ⟨ps, z⟩ := tabs_some a.2 h; rw [z]; simp
theorem dt_flat (q : (Addr × Addr) × Tb) : Flat (dt q).g := fun _ _ _ _ a => a
theorem dl_ne {p : Addr × Addr} {s : DlS} {H F : Hp} {b : Addr} (a : (dl p).At s H F) (h : (dl p).fp b) : ∃ xs, H b = some (.lst xs) := by
  rcases h with h | h
  · exact ⟨_, h ▸ a.2.1⟩
  · exact ⟨_, h ▸ a.2.2⟩
theorem tabs_ext {T : Tb} {p : Addr × Addr} {s : DlS} {H F H' F' : Hp} (a : (dl p).At s H F) (e : Ext (dl p).fp H F H' F') (t : LamX.Tabs T H) : LamX.Tabs T H' := fun u hu => by
  obtain ⟨ps, h1, h2, h3⟩ := t u hu
  have n : ∀ b o, H b = some o → (∀ xs, o ≠ .lst xs) → H' b = some o := fun b o z k => e.h b o (fun y => by
    obtain ⟨xs, w⟩ := dl_ne a y
    rw [w] at z
    exact k xs (Option.some.inj z).symm) z
  refine ⟨ps, n _ _ h1 (fun _ z => by cases z), h2, fun pos cv hc => ?_⟩
  obtain ⟨c, e1, e2⟩ := h3 pos cv hc
  exact ⟨c, e1, n _ _ e2 (fun _ z => by cases z)⟩
theorem Ext.wide {fp fp' : Addr → Prop} {H F H' F' : Hp} (e : Ext fp H F H' F') (h : ∀ p, fp p → fp' p) : Ext fp' H F H' F' := ⟨fun p o n => e.h p o fun z => n (h p z), e.d, e.f, e.fh, e.n⟩
section
variable {X : Cx} {W : WX} {e : Expr} {es : List Expr} {pos p py : Pos} {k : Nat} {x y : Str} {ps : List Str}
/-- a def that draws, called where tables are beside -/
theorem pd_callGT {q : (Addr × Addr) × Tb} {Rs : Env → DM DlS (List D)} {R : DlS → List D → Oc D → DlS → Prop} (j : Nat) (F : FnD X.prog X.w X.K X.mg X.base k x ps (spG dl X.K R)) (hr : Room k X.A) (tk : Takes X W)
    (ha : PAs X (dt q).g W es Rs) (hN : X.N[j]? = some y := by rfl) (hv : Vis X.env.scope y := by first | exact Or.inl rfl | exact Or.inr (Or.inl rfl) | exact Or.inr (Or.inr rfl)) (hg : Gl X x := by rfl) (hdb : (x == ("__debug__" : Str)) = false := by decide)
    (hd : (y == ("__debug__" : Str)) = false := by decide) (hcd : (y == ("__classdict__" : Str)) = false := by decide)
    (he : starEach (.Name y py :: es) X.env = (false, eval (.Name y py) X.env) :: starEach es X.env := by rfl) (hpl : (backTo pos (starEach es X.env)).any (·.1) = false := by rfl) :
    PD X (dt q).g W (.Call (.Name x p) (.Name y py :: es) [] pos) (eCallG j R Rs) := by
  obtain ⟨f, fd, hm, hk, hb, Fk⟩ := F.ex
  refine PE.imp (pe_callS Fk hr hg hm hk hb (fun σ => passAt tk σ) (pa_cons (pe_var hN hv hd hcd) ha he) hdb he hpl) fun σ H Q ⟨H0, F0, F, env, s, o, s', S, ⟨hj, h⟩, kk, xc⟩ => ?_
  obtain ⟨L, rL⟩ := S.sl
  refine ⟨_, rL.get_gh hj, ?_⟩
  refine tG_bind S h xc fun ds vs H1 F1 s1 S1 e1 g1 h1 xc1 => ?_
  obtain ⟨a1, t1⟩ := S1.at_
  have up : ∀ {H' F' : Hp}, Ext (dl q.1).fp H1 F1 H' F' → (dl q.1).At s' H' F' → Ext (dt q).g.fp H1 F1 H' F' ∧ (dt q).g.At s' H' F' := fun x a => ⟨x.wide fun _ z => .inl z, a, tabs_ext a1 x t1⟩
  exact ⟨q.1, F1, s1, ds, o, s', vs, rfl, S1.fh, fun b z => S1.nf b (.inl z), a1, g1, h1, fun d z v H' F' x a r => kk d z v H' F' (e1.trans (up x a).1) (up x a).2 r,
    fun C ns es z dx fs H' F' x a h1 h2 h3 => xc1 C ns es z dx fs H' F' (up x a).1 (up x a).2 h1 h2 h3⟩
end
/-! ### the law's first statement -/
theorem Slots.own_fp {K : Frg} {G : Gh} {H0 F H : Hp} {env : Env} {σ : L2.St} {L : List Addr} (r : Slots K G H0 F H env σ L) : ∀ p ∈ L, ¬ G.fp p := by
  induction r with
  | nil => exact fun p z => by cases z
  | no _ ih => exact ih
  | fz _ _ ih => exact ih
  | ow h f g h0 q m _ ih => exact fun p z => (List.mem_cons.mp z).elim (fun z => by rw [z]; exact g) (ih p)
  | gh _ ih => exact ih
def upDT (De : DE Unit) : DE DlS := { nx := fun _ _ => False, rt := fun d _ => De.rt d (), al := De.al, ex := fun _ _ _ _ _ => False }
def wDealT (i : Nat) (R : List D → DlS → Prop) (Rs : Env → DM Unit (List D)) (w : DW DlS) : DW Unit := fun De env s => run (Rs env) De env (fun ds _ => SV.gh ∉ env ∧ ∃ x, R ds x ∧ w (upDT De) (env.set i .gh) x) s
section
variable {X : Cx} {E : XK} {e : Expr} {es : List Expr} {rest : List Stmt} {Rs : Env → DM Unit (List D)} {R : List D → DlS → Prop} {pos p py : Pos} {k : Nat} {x y : Str} {ps : List Str} {w : DW DlS} {T : Tb}
theorem pssd_dealT (i : Nat) (Fn : FnD X.prog X.w X.K X.mg X.base k x ps (spDl X.K R)) (hr : Room k X.A) (tk : Takes X (WE' E)) (ha : PAs X (tb T).g (WE' E) (e :: es) Rs) (hrest : ∀ q : (Addr × Addr) × Tb, q.2 = T → PSSd X (dt q).g (WE' E) rest w) (hN : X.N.Nodup) (hi : X.N[i]? = some y := by rfl)
    (hx : Loc X.env.scope y := by first | exact Or.inl rfl | exact Or.inr rfl) (hg : Gl X x := by rfl) (hdb : (x == ("__debug__" : Str)) = false := by decide)
    (he : starEach (e :: es) X.env = (false, eval e X.env) :: starEach es X.env := by rfl) (hpl : (backTo p (starEach es X.env)).any (·.1) = false := by rfl)
    (hf : X.fn y = true ∨ X.env.scope.names.lookup y = some .local := by first | exact .inl rfl | exact .inr rfl) {pos' : Pos}
    (hs : swapsWith (.Call (.Name x py) (e :: es) [] p) (some (.Name y pos')) pos.line X.env = pure false := by rfl) :
    PSSd X (tb T).g (WE' E) (.Assign [.Name y pos'] (.Call (.Name x py) (e :: es) [] p) pos :: rest) (wDealT i R Rs w) := by
  obtain ⟨f, fd, hm, hk, hb, Fk⟩ := Fn.ex
  have hall : PSs X rest (fun Dn σ H => ∃ p, tS X.K (dt (p, T)).g (WE' E) w Dn σ H) := ⟨fun pins s σ H Dn I ⟨p, q⟩ => (hrest (p, T) rfl).run pins s σ H Dn I q⟩
  refine PSs.imp (pss_cons (ps_set hN hi hx (pe_callS Fk hr hg hm hk hb (fun σ => passAt tk σ) ha hdb he hpl) hs hf) hall) fun Dn σ H ⟨H0, F0, F, env, s, De, S, h, L⟩ => ?_
  refine tG_run S h L fun ds vs H1 F1 s1 S1 x1 g ⟨ng, x, hR, hw⟩ => ?_
  refine ⟨F1, ds, x, S1.fh, g, hR, fun p H' F' y n1 n2 f1 f2 a => ⟨p, ?_⟩⟩
  have S2 := S1.all y
  have n0 : ∀ q, H1 q = none → H0 q = none := fun q z => Classical.byContradiction fun y => S1.ext.d q y z
  have tab : LamX.Tabs T H' := S2.at_
  obtain ⟨LL, rL⟩ := S1.sl
  have r2 := (rL.ext (.of_all y)).reG (G' := (dt (p, T)).g) (fun q hq z => by
    have hne := rL.own_at q hq
    rcases z with (z | z) | z
    · exact hne (z ▸ n1)
    · exact hne (z ▸ n2)
    · exact (Slots.own_fp rL q hq) z) ng
  obtain ⟨L3, r3, _⟩ := r2.set_gh i
  have ex : Ext (dt (p, T)).g.fp H0 F0 H' F' := S2.ext.wide fun _ z => .inr z
  have nfp : ∀ q, (dl p).g.fp q → H0 q = none := fun q z => by
    rcases z with z | z
    · exact z ▸ n0 _ n1
    · exact z ▸ n0 _ n2
  refine ⟨H0, F0, F', env.set i .gh, x, upDT De, ⟨S2.fh, ex, ⟨a, tab⟩, fun q z => ?_, L3, r3⟩, hw, ?_⟩
  · rcases z with (z | z) | z
    · rw [z]; exact f1
    · rw [z]; exact f2
    · exact S2.nf q z
  · refine ⟨fun _ _ _ _ _ _ z => z.elim, fun _ _ _ _ _ _ z => z.elim, fun _ _ _ _ _ _ z => z.elim, fun v H F d s e a' rv z => ?_,
      fun _ _ _ _ _ _ _ _ _ _ _ _ z => z.elim, fun _ _ _ _ _ _ _ _ _ _ _ _ z => z.elim, L.al, fun _ _ _ _ _ _ _ _ _ _ _ _ _ _ z => z.elim⟩
    exact L.rt v H F d () ⟨fun q o n z => e.h q o (fun y => y.elim (fun y => by rw [nfp q y] at z; cases z) fun y => n y) z, e.d, e.f, e.fh, e.n⟩ a'.2 rv z
end
/-! ### the law's promise -/
def spLawT (K : Frg) (T : Tb) (n : Nat) : Sp := fun vs H Q _ => ∃ (a : Addr) (ns : List Int), vs = [.ref a] ∧ ns.length ≤ n ∧ SqL K H a (ns.map V.int) ∧ LamX.Tabs T H ∧ ∀ H', Q (.bl true) H'
section
variable {P : Program} {w : World} {K : Frg} {mg : Str → Option Value} {base : Heap} {x qual : Str} {params : Arguments} {body : List Stmt} {scope : Scope} {f : Addr} {fd : FuncData} {N : List Str} {p0 : Str} {k : Nat}
theorem okLaw (D0 : FunD K x qual params body scope [] [] f fd) (S : FnScope N [p0] scope) (T : Tb) (n : Nat) (wd : DW Unit) (m : Nat) (hm : N.length - 1 = m) (c : Addr) (hcode : ∀ oc od osl fd', K.lookup f = some ⟨oc, od, .func fd', osl⟩ → fd'.code = .ref c)
    (hb : ∀ (A : Around) (outer : List PySem.Env) (s : Shared) (H : Hp) (E : XK), Room k (A.deeper (envOfC qual scope s.heap.objs.size f (.ref c))) → PSSd (cxOf (L2.CX P w) P w K mg base N qual scope f (.ref c) A outer s H E) (tb T).g (WE' E) body wd)
    (hl : ∀ ns : List Int, ns.length ≤ n → wd { nx := fun _ _ => False, rt := fun d _ => d = .bl true, al := true } (env0 [.frl (ns.map D.int)] m) ()) : FnOk P w K mg base (L2.CX P w) (k + 1) f fd [p0] (spLawT K T n) := by
  obtain ⟨oc, od, dV, kV, doc, pm, an, cdv, ct, osl, rfl, lk, hcd, _, _⟩ := D0.ex
  obtain rfl : cdv = .ref c := hcode _ _ _ _ lk
  refine fn_of lk hcd S (fun vs H Q E h => ?_) (fun A outer s H vs Q E hr h => ⟨_, hb A outer s H E hr, ?_⟩)
  · obtain ⟨a, ns, rfl, _⟩ := h
    rfl
  · obtain ⟨a, ns, rfl, hn, hS, hT, hQ⟩ := h
    have go : ∀ F : Hp, Same F H → SqL K F a (ns.map V.int) → NoTbl F → tS K (tb T).g (WE' E) wd { nx := fun _ H' => Q .non H', rt := Q } (L2.start N [.ref a]) H := fun F sf hF nt => by
      have nf : ∀ q, tfp T q → F q = none := fun q z => by
        obtain ⟨ps, e⟩ := tabs_some hT z
        cases y : F q with
        | none => rfl
        | some o =>
          have := sf _ _ y
          rw [e] at this
          cases this
          exact absurd y (nt q ps)
      have E0 : Ext (tb T).g.fp F F H F := ⟨fun q o _ z => sf q o z, fun q z => by
        cases y : F q with
        | none => exact absurd y z
        | some o => rw [sf _ _ y]; simp, Same.refl F, sf, fun q z y => absurd y z⟩
      refine ⟨F, F, F, env0 [.frl (ns.map D.int)] m, (), _, ⟨sf, E0, hT, nf, [], ?_⟩, hl ns hn, ?_⟩
      · show Slots K (tb T).g F F H (env0 [.frl (ns.map D.int)] m) (L2.start N [.ref a]) []
        rw [L2.start, show N.length - [V.ref a].length = m from hm]
        exact Slots.start m (.cons (.frl hF (Reps.ints ns)) .nil)
      · exact ⟨fun _ _ _ _ _ _ z => z.elim, fun _ _ _ _ _ _ z => z.elim, fun _ _ _ _ _ _ z => z.elim, fun v H' F' d s e _ rv z => by
          have z' : d = .bl true := z
          subst z'
          cases rv
          exact hQ H', fun _ _ _ _ _ _ _ _ _ _ _ _ z => z.elim, fun _ _ _ _ _ _ _ _ _ _ _ _ z => z.elim, fun _ => ⟨nt, nt⟩, fun _ _ _ _ _ _ _ _ _ _ _ _ _ _ z => z.elim⟩
    have one : ∀ o : HO, H a = some o → (∀ ps, o ≠ .tbl ps) → SqL K (fun q => if q = a then H q else none) a (ns.map V.int) → tS K (tb T).g (WE' E) wd { nx := fun _ H' => Q .non H', rt := Q } (L2.start N [.ref a]) H := fun o ho hno hs => by
      refine go _ (fun q u z => ?_) hs fun q ps z => ?_
      · have z : (if q = a then H q else none) = some u := z
        by_cases c : q = a
        · rw [if_pos c] at z; exact z
        · rw [if_neg c] at z; cases z
      · have z : (if q = a then H q else none) = some (.tbl ps) := z
        by_cases c : q = a
        · rw [if_pos c, c, ho] at z; exact hno ps (Option.some.inj z)
        · rw [if_neg c] at z; cases z
    rcases hS with (hS | ⟨o, hS⟩) | hS
    · exact one _ hS (fun _ z => by cases z) (.inl (.inl (by show (if a = a then H a else none) = _; rw [if_pos rfl]; exact hS)))
    · exact one _ hS (fun _ z => by cases z) (.inl (.inr ⟨o, by show (if a = a then H a else none) = _; rw [if_pos rfl]; exact hS⟩))
    · exact go (fun _ => none) (fun _ _ z => by cases z) (.inr hS) fun _ _ z => by cases z
end
/-! ### the heap taken anew behind a call with a lambda -/
theorem Slots.reF {K : Frg} {G : Gh} {H0 F H H1 : Hp} {env : Env} {σ : L2.St} {L : List Addr} (e : SameN H H1) (r : Slots K G H0 F H env σ L) : Slots K G H0 (Pl.noT F) H1 env σ L := by
  induction r with
  | nil => exact .nil
  | no _ ih => exact .no ih
  | fz h _ ih => exact .fz (h.monoN (same_noT F)) ih
  | ow h f g h0 q m _ ih =>
    obtain ⟨q', n⟩ := q.monoN (same_noT F)
    exact .ow (e _ _ h n) (noT_none f) g h0 q' m ih
  | gh _ ih => exact .gh ih
theorem Sim.anew {K : Frg} {q : (Addr × Addr) × Tb} {H0 F0 H F H1 : Hp} {env : Env} {σ : L2.St} {s : DlS} (S : Sim K (dt q).g H0 F0 env σ H F s) (e : SameN H H1) (t : LamX.Tabs q.2 H1) (n0 : NoTbl H0) (nF : NoTbl F0) : Sim K (dt q).g H0 F0 env σ H1 (Pl.noT F) s := by
  have fh : Same (Pl.noT F) H1 := fun b o z => by
    obtain ⟨z1, n⟩ := noT_some z
    exact e b o (S.fh b o z1) n
  obtain ⟨⟨a0, a1, a2⟩, _⟩ := S.at_
  have a1' := e _ _ a1 fun _ z => (by cases z)
  have a2' := e _ _ a2 fun _ z => (by cases z)
  obtain ⟨L, r⟩ := S.sl
  refine ⟨fh, ⟨fun b o nf z => e b o (S.ext.h b o nf z) (fun ps y => n0 b ps (y ▸ z)), fun b z => ?_, fun b o z => noT_of (S.ext.f b o z) (fun ps y => nF b ps (y ▸ z)), fh, fun b z y => noT_none (S.ext.n b z y)⟩, ⟨⟨a0, a1', a2'⟩, t⟩, fun b z => noT_none (S.nf b z), L, r.reF e⟩
  by_cases c : (dt q).g.fp b
  · rcases c with (c | c) | c
    · rw [c, a1']; simp
    · rw [c, a2']; simp
    · obtain ⟨ps, y⟩ := tabs_some t c
      rw [y]; simp
  · cases y : H0 b with
    | none => exact absurd y z
    | some o =>
      rw [e b o (S.ext.h b o c y) (fun ps w => n0 b ps (w ▸ y))]
      simp
/-- an expression behind which the heap is taken anew -/
def tR (K : Frg) (q : (Addr × Addr) × Tb) (R : Env → DM DlS D) : TE := fun σ H Q => ∃ (H0 F0 F : Hp) (env : Env) (s : DlS) (o : Oc D) (s' : DlS), Sim K (dt q).g H0 F0 env σ H F s ∧ NoTbl H0 ∧ NoTbl F0 ∧ R env s o s' ∧ ∃ a, o = .ok a ∧ ∀ v H' F', Sim K (dt q).g H0 F0 env σ H' F' s' → Rep K F' v a → Q v H'
def tRB (K : Frg) (q : (Addr × Addr) × Tb) (R : Env → DM DlS Bool) : TT := fun σ H Q => ∃ (H0 F0 F : Hp) (env : Env) (s : DlS) (o : Oc Bool) (s' : DlS), Sim K (dt q).g H0 F0 env σ H F s ∧ NoTbl H0 ∧ NoTbl F0 ∧ R env s o s' ∧ ∃ a, o = .ok a ∧ ∀ H' F', Sim K (dt q).g H0 F0 env σ H' F' s' → Q a H'
abbrev PR (X : Cx) (q : (Addr × Addr) × Tb) (e : Expr) (R : Env → DM DlS D) : Prop := PE X e (tR X.K q R)
abbrev PRB (X : Cx) (q : (Addr × Addr) × Tb) (e : Expr) (R : Env → DM DlS Bool) : Prop := PT X e (tRB X.K q R)
def wIfR (Tt : Env → DM DlS Bool) (w1 w2 : DW DlS) : DW DlS := fun De env s => De.al = true ∧ ∃ k s1, Tt env s (.ok k) s1 ∧ if k = true then w1 De env s1 else w2 De env s1
def wRetR (R : Env → DM DlS D) : DW DlS := fun De env s => De.al = true ∧ ∃ d s1, R env s (.ok d) s1 ∧ De.rt d s1
/-- what a catching def makes of its exception: C the class, hd what becomes of the field's value -/
def TTc (K : Frg) (CS : Addr) (fld : Str) (hd : V → Hp → VK → Prop) (nr : Hp → VK → Prop) : (XK → Hp → VK → Prop) → Hp → VK → Prop := fun tl H Q =>
  tl (fun cls d H' => ∃ b, PySem.W.exmOne K cls (.ref CS) = some b ∧ (b = true → cls = .ref CS ∧ ∃ (dd : Addr) (fs : List (Str × V)) (v : V), d = some dd ∧ H' dd = some (.xd fs) ∧ fs.lookup fld = some v ∧ hd v H' Q) ∧ (b = false → False)) H (fun _ H' => nr H' Q)
/-- the handler on data -/
def HdD (K : Frg) (hd : V → Hp → VK → Prop) (g : D → Option D) : Prop := ∀ (H F : Hp) (v : V) (d x : D) (Q : VK), Same F H → Rep K F v d → g d = some x → (∀ v' H' F', Ext E00 H F H' F' → Rep K F' v' x → Q v' H') → hd v H Q
/-- a call of such a def with a lambda, whose body raises -/
def eLam (CS : Addr) (fld : Str) (g : D → Option D) (R : Env → DM DlS D) : Env → DM DlS D := fun env s o s' => ∃ d x, R env s (.ex CS [fld] [d]) s' ∧ g d = some x ∧ o = .ok x
theorem pr_lam {X : Cx} {q : (Addr × Addr) × Tb} {CS : Addr} {fld : Str} {hd : V → Hp → VK → Prop} {nr : Hp → VK → Prop} {g : D → Option D} {R : Env → DM DlS D} {e : Expr} (hD : HdD X.K hd g) (hex : PySem.W.exmOne X.K (.ref CS) (.ref CS) = some true)
    (P : PE X e (LamX.tLam q.2 (TTc X.K CS fld hd nr) (fun E => tE X.K (dt q).g (WE' E) R))) : PR X q e (eLam CS fld g R) := PE.imp P fun σ H Q ⟨H0, F0, F, env, s, o, s', S, n0, nF, ⟨d, x, hR, hg, ho⟩, a, ha, k⟩ => by
  subst ho
  cases ha
  refine ⟨S.at_.2, fun H1 eN T1 => ?_⟩
  have S1 := S.anew (fun p o z n => eN p o z n) T1 n0 nF
  refine ⟨H0, F0, Pl.noT F, env, s, .ex CS [fld] [d], s', S1, hR, fun a e => (by cases e), fun C ns es e dx fs H' F' x1 at_ h1 h2 h3 => ?_⟩
  cases e
  refine ⟨true, hex, fun _ => ⟨rfl, dx, fs, ?_⟩, fun z => by cases z⟩
  obtain ⟨⟨f, v⟩, rfl⟩ : ∃ p, fs = [p] := by
    cases fs with
    | nil => simp at h2
    | cons p r =>
      cases r with
      | nil => exact ⟨p, rfl⟩
      | cons _ _ => simp at h2
  simp only [List.map_cons, List.map_nil, List.cons.injEq, and_true] at h2
  subst h2
  simp only [List.map_cons, List.map_nil] at h3
  cases h3 with
  | cons hv r =>
    have S2 := S1.step x1 at_
    exact ⟨v, rfl, h1, by simp [List.lookup], hD H' F' v d x Q x1.fh hv hg fun v' H2 F2 e2 rv => k v' H2 F2 (S2.all e2) rv⟩
section
variable {X : Cx} {q : (Addr × Addr) × Tb} {W : WX} {a b c : Expr} {R Ra Rb : Env → DM DlS D} {Tt : Env → DM DlS Bool} {pos : Pos} {w1 w2 : DW DlS} {xs ys : List Stmt}
theorem prb_val (h : PR X q a R) (he : ∀ whole, isTrue a X.env whole = (do let v ← whole; standAt a.pos; holding [v] (truthy v)) := by intro _; rfl) : PRB X q a (tB1 R) := PT.imp (pt_val h he) fun σ H Q ⟨H0, F0, F, env, s, o, s', S, n0, nF, hR, x, hx, k⟩ => by
  subst hx
  rcases hR with ⟨d, s1, h1, ⟨h2, c, h3, h4⟩⟩ | ⟨_, _, _, _, z⟩
  · cases h4
    subst h2 h3
    exact ⟨H0, F0, F, env, s, _, _, S, n0, nF, h1, _, rfl, fun v H' F' S' rv => by cases rv; exact ⟨_, rfl, k H' F' S'⟩⟩
  · cases z
theorem prb_not (h : PRB X q a Tt) : PRB X q (.UnaryOp .Not a pos) (bNot Tt) := PT.imp (pt_not h) fun σ H Q ⟨H0, F0, F, env, s, o, s', S, n0, nF, hR, x, hx, k⟩ => by
  subst hx
  rcases hR with ⟨d, s1, h1, ⟨h2, h3⟩⟩ | ⟨_, _, _, _, z⟩
  · cases h2
    subst h3
    exact ⟨H0, F0, F, env, s, _, _, S, n0, nF, h1, _, rfl, fun H' F' S' => k H' F' S'⟩
  · cases z
/-- a comparison whose left side is such a call, the right side a value -/
theorem prb_cmp {op : CmpOp} {r : R2} {g : D → D → Option D} (ho : OpR X (compareOp op) r) (hd : OpD X.K r g) (ha : PR X q a Ra) (hb : PD X (dt q).g W0 b Rb) (hm : behindInMarks op b = false) : PRB X q (.Compare a [op] [b] pos) (tB1 (eBin g Ra Rb)) :=
  PT.imp (pt_cmpR ho ha hb hm) fun σ H Q ⟨H0, F0, F, env, s, o, s', S, n0, nF, hR, x, hx, k⟩ => by
    subst hx
    rcases hR with ⟨d, s1, h1, ⟨h2, c, h3, h4⟩⟩ | ⟨_, _, _, _, z⟩
    · cases h4
      subst h2 h3
      rcases h1 with ⟨d1, s2, h5, h6⟩ | ⟨_, _, _, _, z⟩
      · rcases h6 with ⟨d2, s3, h7, h8⟩ | ⟨_, _, _, _, z⟩
        · obtain ⟨rfl, y, hy, e⟩ := h8
          cases e
          refine ⟨H0, F0, F, env, s, _, _, S, n0, nF, h5, _, rfl, fun v H' F' S' rv => ?_⟩
          refine ⟨H0, F0, F', env, s2, .ok d2, _, S', h7, fun a' e b' H2 F2 x2 at2 g2 => ?_, .ok⟩
          cases e
          have S2 := S'.step x2 at2
          refine hd H2 F2 v b' d1 d2 _ _ S2.fh (rv.mono x2.f) g2 hy fun v' H3 F3 e3 r3 => ?_
          cases r3
          exact ⟨_, rfl, k H3 F3 (S2.all e3)⟩
        · cases z
      · cases z
    · cases z
theorem psd_ifR (hc : PRB X q c Tt) (h1 : PSSd X (dt q).g W xs w1) (h2 : PSSd X (dt q).g W ys w2) : PSd X (dt q).g W (.If c xs ys pos) (wIfR Tt w1 w2) :=
  PS.imp (ps_if hc h1 h2) fun Dn σ H ⟨H0, F0, F, env, s, De, S, ⟨hal, k, s1, h, hk⟩, L⟩ => by
    obtain ⟨n0, nF⟩ := L.al hal
    refine ⟨H0, F0, F, env, s, _, s1, S, n0, nF, h, k, rfl, fun H' F' S' => ?_⟩
    by_cases z : k = true
    · rw [if_pos z] at hk ⊢
      exact ⟨H0, F0, F', env, s1, De, S', hk, L⟩
    · rw [if_neg z] at hk ⊢
      exact ⟨H0, F0, F', env, s1, De, S', hk, L⟩
theorem psd_retR (h : PR X q a R) : PSd X (dt q).g W (.Return (some a) pos) (wRetR R) :=
  PS.imp (ps_ret h) fun Dn σ H ⟨H0, F0, F, env, s, De, S, ⟨hal, d, s1, h, hk⟩, L⟩ => by
    obtain ⟨n0, nF⟩ := L.al hal
    exact ⟨H0, F0, F, env, s, _, s1, S, n0, nF, h, d, rfl, fun v H' F' S' rv => L.rt v H' F' d s1 S'.ext S'.at_ rv hk⟩
end
/-! ### defs that catch: try: work() / except C as e: return EX / .. -/
section
open LamX
variable {X : Cx}
theorem gives_as {x e cl qq fld : Str} {sg : Scope} {g CS : Addr} {cdg : Value} {EX : Expr} {rest : List Stmt} {hd : V → Hp → VK → Prop} {nr : Hp → VK → Prop} {p1 p2 p3 p4 q2 q3 q4 : Pos} (hcl : sg.names.lookup cl = some .globalImplicit) (hme : X.mg cl = some (.ref CS)) (hde : (cl == ("__debug__" : Str)) = false)
    (hN : ([("work" : Str), e] : List Str).Nodup) (hel : sg.names.lookup e = some .local)
    (hrest : ∀ (s : Shared) (H : Hp), PSs (cxOf C8.CX0 X.prog X.w X.K X.mg X.base ([("work" : Str), e] : List Str) x sg g cdg X.A X.stack s H C8.E0).nox rest (fun D _ H => nr H D.rt))
    (hy : ∀ (s : Shared) (H : Hp) (a : Addr) (oe : Obj) (cls : Value) (d : Option Addr) (pn : List (Addr × Obj)), Zc cls d oe → (∃ vs, oe.data = .fields vs) →
      PE (((cxOf C8.CX0 X.prog X.w X.K X.mg X.base ([("work" : Str), e] : List Str) x sg g cdg X.A X.stack s H C8.E0).nox).suite a ((a, oe) :: pn)) EX (fun σ H Q => tXf a cls d CS fld (fun σ H Q => σ.length = 2 → ∃ v, σ[1]? = some (some v) ∧ Q v H) σ H fun v H1 => hd v H1 Q)) :
    GivesTo X ([("work" : Str), e] : List Str) x sg g cdg (.Try [.Expr (.Call (.Name "work" p1) [] [] p2) p3] [.ExceptHandler (some (.Name cl p4)) (some e) [.Return (some EX) q2] q3] [] [] q4 :: rest) "work" qq (TTc X.K CS fld hd nr) := by
  intro f c' s H Q tl act hc h
  have hgl : Gl (cxOf C8.CX0 X.prog X.w X.K X.mg X.base ([("work" : Str), e] : List Str) x sg g cdg X.A X.stack s H C8.E0).nox cl := hcl
  have T := ps_try_as (X := (cxOf C8.CX0 X.prog X.w X.K X.mg X.base ([("work" : Str), e] : List Str) x sg g cdg X.A X.stack s H C8.E0).nox) (c := .ref CS) (i := 1) (n := e) (np := p4) (pos := q4) (pos' := q3) (b₀ := .Return (some EX) q2) (suite := [])
      (body := [.Expr (.Call (.Name "work" p1) [] [] p2) p3]) (Wout := fun _ _ _ _ => False)
      (tb := fun W D σ H => ∃ Ech : XK, (∀ cls d σ' H', Ech cls d H' → W cls d σ' H') ∧ σ[0]? = some (some (.ref f)) ∧ H c' = some (CodeO c' qq) ∧ tl Ech H fun _ H' => D.nx σ H')
      (ts := fun a cls d => tRet (fun σ H Q => tXf a cls d CS fld (fun σ H Q => σ.length = 2 → ∃ v, σ[1]? = some (some v) ∧ Q v H) σ H fun v H1 => hd v H1 Q))
      rfl rfl hN rfl hel ⟨hgl, hde, .inl hme⟩ L2.takes0 (fun W pn xe tk _ => ?_) (fun a oe cls d pn hz hf => pss_one (ps_ret (hy s H a oe cls d pn hz hf)))
  · refine ⟨_, pss_cons T (hrest s H), ?_⟩
    refine ⟨fun cls d H' => ∃ b, PySem.W.exmOne X.K cls (.ref CS) = some b ∧ (b = true → cls = .ref CS ∧ ∃ (dd : Addr) (fs : List (Str × V)) (v : V), d = some dd ∧ H' dd = some (.xd fs) ∧ fs.lookup fld = some v ∧ hd v H' Q) ∧ (b = false → False),
      fun cls d σ' H' ⟨b, e1, e2, e3⟩ => ⟨b, e1, fun hb a na => ?_, fun hb => e3 hb⟩, rfl, hc, h⟩
    obtain ⟨rfl, dd, fs, v, rfl, h1, h2, h3⟩ := e2 hb
    intro hlen
    have hlen' : σ'.length = 2 := by rw [← hlen, List.length_set]
    exact ⟨_, List.getElem?_set_self (by omega), rfl, rfl, dd, fs, v, rfl, h1, h2, h3⟩
  · refine ⟨fun pins s' σ H' D I h' => ?_⟩
    obtain ⟨Ech, hW, h1, h2, h3⟩ := h'
    have hp := act W pn xe Ech p1 p2 tk hW
    have hq := pss_one (ps_expr (pos := p3) hp)
    exact hq.run pins s' σ H' D I ⟨h1, h2, h3⟩
theorem rest_bl {Y : Cx} {b : Bool} {j : Nat} {q5 q6 : Pos} : PSs Y [.Return (some (.Constant (.bool b) j q5)) q6] (fun D _ H => D.rt (.bl b) H) := pss_one (ps_ret pe_bl)
/-- e.at[0] == txt -/
def hdAt0 (txt : Str) : V → Hp → VK → Prop := fun v H Q => ∃ (q : Addr) (z : Str) (vs : List V), v = .ref q ∧ H q = some (.tup (.str z :: vs)) ∧ SeqAt.shaped (.str z) = true ∧ Q (.bl (PyData.eqv (.str z) (.str txt))) H
/-- e.f == txt -/
def hdEq (txt : Str) : V → Hp → VK → Prop := fun v H Q => ∃ z : Str, v = .str z ∧ SeqAt.shaped (.str z) = true ∧ Q (.bl (PyData.eqv (.str z) (.str txt))) H
def gAt0 (txt : Str) : D → Option D
  | .tup (.str z :: _) => if SeqAt.shaped (.str z) = true then some (.bl (PyData.eqv (.str z) (.str txt))) else none
  | _ => none
def gEq (txt : Str) : D → Option D
  | .str z => if SeqAt.shaped (.str z) = true then some (.bl (PyData.eqv (.str z) (.str txt))) else none
  | _ => none
theorem hdD_at0 {K : Frg} {txt : Str} : HdD K (hdAt0 txt) (gAt0 txt) := by
  intro H F v d x Q sm r h k
  unfold gAt0 at h
  split at h
  · split at h
    · rename_i c
      cases h
      cases r with
      | tup e rr =>
        cases rr with
        | cons h0 r2 =>
          cases h0
          exact ⟨_, _, _, rfl, sm _ _ e, c, k _ H F (Ext.refl sm) (.bl _)⟩
    · cases h
  · cases h
theorem hdD_eq {K : Frg} {txt : Str} : HdD K (hdEq txt) (gEq txt) := by
  intro H F v d x Q sm r h k
  unfold gEq at h
  split at h
  · split at h
    · rename_i c
      cases h
      cases r
      exact ⟨_, rfl, c, k _ H F (Ext.refl sm) (.bl _)⟩
    · cases h
  · cases h
theorem tXf_imp {a : Addr} {cls : Value} {d : Option Addr} {C : Addr} {f : Str} {te : TE} {σ : L2.St} {H : Hp} {Q Q' : V → Hp → Prop} (hm : ∀ σ H (Q Q' : V → Hp → Prop), (∀ v H', Q v H' → Q' v H') → te σ H Q → te σ H Q') (h : tXf a cls d C f te σ H Q) (k : ∀ v H', Q v H' → Q' v H') : tXf a cls d C f te σ H Q' :=
  hm σ H _ _ (fun x H1 ⟨e1, e2, dd, fs, v, e3, e4, e5, q⟩ => ⟨e1, e2, dd, fs, v, e3, e4, e5, k _ _ q⟩) h
theorem eSlot_imp (σ : L2.St) (H : Hp) (Q Q' : V → Hp → Prop) (k : ∀ v H', Q v H' → Q' v H') (h : σ.length = 2 → ∃ v, σ[1]? = some (some v) ∧ Q v H) : σ.length = 2 → ∃ v, σ[1]? = some (some v) ∧ Q' v H := fun l => let ⟨v, h1, h2⟩ := h l; ⟨v, h1, k _ _ h2⟩
section
variable {e txt fld : Str} {x : Str} {sg : Scope} {g CS : Addr} {cdg : Value} {p5 p6 p7 p8 p9 q1 : Pos} {j1 j2 : Nat}
theorem ex_at0 (hxf : XfC X.K CS) (hno : PySem.W.findIn X.K (.ref CS) "at" = some none) (htx : SeqAt.shaped (PyData.str txt) = true) (hr : Room 1 X.A) (hel : sg.names.lookup e = some .local) (hd : (e == ("__debug__" : Str)) = false) (hcd : (e == ("__classdict__" : Str)) = false)
    (s : Shared) (H : Hp) (a : Addr) (oe : Obj) (cls : Value) (d : Option Addr) (pn : List (Addr × Obj)) (hz : Zc cls d oe) (hf : ∃ vs, oe.data = .fields vs) :
    PE (((cxOf C8.CX0 X.prog X.w X.K X.mg X.base ([("work" : Str), e] : List Str) x sg g cdg X.A X.stack s H C8.E0).nox).suite a ((a, oe) :: pn)) (.Compare (.Subscript (.Attribute (.Name e p5) "at" p6) (.Constant (.int 0) j1 p7) p8) [.Eq] [.Constant (.str txt) j2 p9] q1)
      (fun σ H Q => tXf a cls d CS "at" (fun σ H Q => σ.length = 2 → ∃ v, σ[1]? = some (some v) ∧ Q v H) σ H fun v H1 => hdAt0 txt v H1 Q) := by
  refine PE.imp (pe_cmpR (op_eqD ?_) (pe_ix ix_tup (pe_xf (te := fun σ H Q => σ.length = 2 → ∃ v, σ[1]? = some (some v) ∧ Q v H) hxf hno hz hf ⟨fun pins s σ H Q I h => (pe_var (i := 1) rfl (.inl hel) hd hcd).run pins s σ H Q I (h I.len)⟩) pe_int (fun _ _ => rfl)) pe_str (nomark _)) fun σ H Q h => ?_
  · exact (hr.deeper (envOfC x sg s.heap.objs.size g cdg)).units
  · show tXf a cls d CS "at" (fun σ H Q => σ.length = 2 → ∃ v, σ[1]? = some (some v) ∧ Q v H) σ H fun v H1 => tC (V.int 0) σ H1 fun w H2 => rIxT X.K v w H2 fun u H3 => tC (V.str txt) σ H3 fun w' H4 => rEqD X.K u w' H4 Q
    refine tXf_imp eSlot_imp h fun v H' ⟨q, z, vs, e1, e2, e3, e4⟩ => ?_
    subst e1
    exact ⟨q, _, 0, .str z, rfl, rfl, .of e2, atI_zero _ _, _, _, .str _, .str _, e3, htx, e4⟩
theorem ex_eq (hxf : XfC X.K CS) (hno : PySem.W.findIn X.K (.ref CS) fld = some none) (htx : SeqAt.shaped (PyData.str txt) = true) (hr : Room 1 X.A) (hel : sg.names.lookup e = some .local) (hd : (e == ("__debug__" : Str)) = false) (hcd : (e == ("__classdict__" : Str)) = false)
    (s : Shared) (H : Hp) (a : Addr) (oe : Obj) (cls : Value) (d : Option Addr) (pn : List (Addr × Obj)) (hz : Zc cls d oe) (hf : ∃ vs, oe.data = .fields vs) (hb : ∀ Y : PySem.Env, attributeBase (.Name e p5) fld Y (eval (.Name e p5) Y) = eval (.Name e p5) Y := by intro _; rfl) :
    PE (((cxOf C8.CX0 X.prog X.w X.K X.mg X.base ([("work" : Str), e] : List Str) x sg g cdg X.A X.stack s H C8.E0).nox).suite a ((a, oe) :: pn)) (.Compare (.Attribute (.Name e p5) fld p6) [.Eq] [.Constant (.str txt) j2 p9] q1)
      (fun σ H Q => tXf a cls d CS fld (fun σ H Q => σ.length = 2 → ∃ v, σ[1]? = some (some v) ∧ Q v H) σ H fun v H1 => hdEq txt v H1 Q) := by
  refine PE.imp (pe_cmpR (op_eqD ?_) (pe_xf (te := fun σ H Q => σ.length = 2 → ∃ v, σ[1]? = some (some v) ∧ Q v H) hxf hno hz hf ⟨fun pins s σ H Q I h => (pe_var (i := 1) rfl (.inl hel) hd hcd).run pins s σ H Q I (h I.len)⟩ (hb := hb _)) pe_str (nomark _)) fun σ H Q h => ?_
  · exact (hr.deeper (envOfC x sg s.heap.objs.size g cdg)).units
  · show tXf a cls d CS fld (fun σ H Q => σ.length = 2 → ∃ v, σ[1]? = some (some v) ∧ Q v H) σ H fun v H1 => tC (V.str txt) σ H1 fun w' H4 => rEqD X.K v w' H4 Q
    refine tXf_imp eSlot_imp h fun v H' ⟨z, e1, e3, e4⟩ => ?_
    subst e1
    exact ⟨_, _, .str _, .str _, e3, htx, e4⟩
end
theorem pr_is {q : (Addr × Addr) × Tb} {x : Str} {CS gr c Pt : Addr} {fld : Str} {hd : V → Hp → VK → Prop} {nr : Hp → VK → Prop} {g : D → Option D} {R : Env → DM DlS D} {k : Nat} {pg params : Arguments} {bg : List Stmt} {sg scope : Scope} {fr : FuncData} {Ng : List Str} {body : Expr} {p lpos pos : Pos}
    (hD : HdD X.K hd g) (hexm : PySem.W.exmOne X.K (.ref CS) (.ref CS) = some true) (hT : q.2 = [(Pt, X.env.qual ++ "<lambda>")]) (hm : X.mg x = some (.ref gr)) (D0 : FunD X.K x x pg bg sg [] [] gr fr)
    (hbi : ∀ (kV doc pm : Value) (an : Option Addr) (cdv ct : Value) (us : List Value), us.length = [("work" : Str)].length → bindArgs (PySem.W.fnOf x x pg bg sg .none kV doc pm an cdv ct) ⟨us, []⟩ = pure ([("work" : Str)].zip us)) (Sg : FnScope Ng ["work"] sg) (hNg : Ng[0]? = some ("work" : Str))
    (hG : ∀ cdv : Value, LamX.GivesTo X Ng x sg gr cdv bg "work" (X.env.qual ++ "<lambda>") (TTc X.K CS fld hd nr)) (hva : Vis sg "work") (TB : LamX.TabB X.base X.mg c Pt) (hr : Room (k + 2) X.A)
    (hbody : ∀ (A : Around) (outer : List PySem.Env) (s : Shared) (H : Hp) (E : XK) (f c' : Addr), Room k (A.deeper (LamX.lamEnv X scope s.heap.objs.size f c')) → PD (LamX.lamCx X A outer s H E scope f c') (dt q).g (WE' E) body R)
    (hg : Gl X x := by rfl) (hcode : X.env.code = .ref c := by rfl) (L : LamX.LamS X.env.scope scope := by exact LamX.lamS_by (by kernel_rfl)) (hdef : defaultsOf params X.env = ([], []) := by rfl)
    (hbind : ∀ (q : Str) (cl : List (Str × Addr)) (pm cv ctv : Value), bindArgs (PySem.W.kla_fn "<lambda>" q params body scope cl pm cv ctv) ⟨[], []⟩ = pure [] := by intro _ _ _ _ _; rfl) (hdb : (x == ("__debug__" : Str)) = false := by decide) :
    PR X q (.Call (.Name x p) [.Lambda params body scope lpos] [] pos) (eLam CS fld g R) := by
  have hb := D0.bindsN (ps := [("work" : Str)]) hbi
  obtain ⟨oc, od, dV, kV, doc, pm, an, cdv, ct, osl, rfl, lk, hcd, _, _⟩ := D0.ex
  refine pr_lam hD hexm (LamX.pe_lamcall (T := q.2) (t := fun E => tE X.K (dt q).g (WE' E) R) hg hm D0.kp lk hcd hb Sg hNg hva (hG cdv) TB hcode ?_ ?_ hr L hdef hbind hbody hdb)
  · rw [hT]; exact List.mem_singleton.mpr rfl
  · intro p hp _
    rw [hT] at hp
    rw [List.mem_singleton.mp hp]
/-! ### such readings run -/
theorem go_eLam {env : Env} {s : DlS} {CS : Addr} {fld : Str} {g : D → Option D} {R : Env → DM DlS D} {Q : D → DlS → Prop} : Go (eLam CS fld g R env) Q s ↔ ∃ d x s', R env s (.ex CS [fld] [d]) s' ∧ g d = some x ∧ Q x s' := by
  constructor
  · rintro ⟨a, s1, ⟨d, x, h1, h2, h3⟩, q⟩
    cases h3
    exact ⟨d, _, s1, h1, h2, q⟩
  · rintro ⟨d, x, s', h1, h2, q⟩
    exact ⟨x, s', ⟨d, x, h1, h2, rfl⟩, q⟩
theorem gw_ifR {De : DE DlS} {env : Env} {s : DlS} {Tt : Env → DM DlS Bool} {w1 w2 : DW DlS} (h0 : De.al = true) (h : Go (Tt env) (fun c s1 => if c = true then w1 De env s1 else w2 De env s1) s) : wIfR Tt w1 w2 De env s := let ⟨k, s1, h1, h2⟩ := h; ⟨h0, k, s1, h1, h2⟩
theorem gw_retR {De : DE DlS} {env : Env} {s : DlS} {R : Env → DM DlS D} (h0 : De.al = true) (h : Go (R env) De.rt s) : wRetR R De env s := let ⟨k, s1, h1, h2⟩ := h; ⟨h0, k, s1, h1, h2⟩
end
end Pl
/-! The pure layer, part 26: x in xs, xs.index(x), of items of any depth. -/
namespace Pl
open PySem PySem.Spec PyProof.Rows L2

theorem units65 {k : Nat} {A : Around} (r : Room k A) : A.units + 65 < cLine := by have := r.un; omega
theorem toPys_map : ∀ ds : List D, toPys ds = ds.map toPy
  | [] => by simp [toPys]
  | d :: ds => by simp [toPys, toPys_map ds]
def dInD (neg : Bool) : D → D → Option D := fun x y => match lstD y with
  | some ds => if Pln x ∧ Pln (.lst ds) then some (.bl ((ds.any fun z => deq z x) != neg)) else none
  | none => none
theorem any_py (ds : List D) (x : D) : (toPys ds).any (fun z => PyData.eqv z (toPy x)) = ds.any fun z => deq z x := by
  rw [toPys_map, List.any_map]
  rfl
theorem Rep.pyL {K : Frg} {F H : Hp} {v : V} {d : D} {ds : List D} (sm : Same F H) (r : Rep K F v d) (h : Pl.lstD d = some ds) (c : Pln (.lst ds)) : Dp K H v (.list (toPys ds)) := by
  have e : toPy d = .list (toPys ds) := by
    unfold Pl.lstD at h
    split at h
    · cases h; simp [toPy]
    · cases h; simp [toPy]
    · cases h
  have z := (r.mono sm).py (by rw [e]; exact SeqAt.canLay_of_shaped (by simpa [Pln, toPy] using c))
  rw [e] at z
  exact z
theorem opd_inD {K : Frg} : OpD K (rInD K) (dInD false) := by
  intro H F v w d e x Q sm rv rw_ h k
  unfold dInD at h
  split at h
  · rename_i ds q
    split at h
    · rename_i c
      cases h
      refine ⟨_, _, (rv.mono sm).py (SeqAt.canLay_of_shaped c.1), rw_.pyL sm q c.2, c.1, by simpa [Pln, toPy] using c.2, ?_⟩
      rw [any_py]
      simpa using k _ H F (Ext.refl sm) (.bl _)
    · cases h
  · cases h
theorem opd_notInD {K : Frg} : OpD K (rNotInD K) (dInD true) := by
  intro H F v w d e x Q sm rv rw_ h k
  unfold dInD at h
  split at h
  · rename_i ds q
    split at h
    · rename_i c
      cases h
      refine ⟨_, _, (rv.mono sm).py (SeqAt.canLay_of_shaped c.1), rw_.pyL sm q c.2, c.1, by simpa [Pln, toPy] using c.2, ?_⟩
      rw [any_py]
      simpa using k _ H F (Ext.refl sm) (.bl _)
    · cases h
  · cases h
/-- the first place of an equal one -/
def idxD (ds : List D) (y : D) : Option D := if Pln y ∧ Pln (.lst ds) then (ds.findIdx? fun z => deq z y).map fun j => .int (j : Nat) else none
def eIdx {S : Type} (Rl : Env → DM S (List D)) (R : Env → DM S D) : Env → DM S D := fun env => (Rl env).bind fun ds => (R env).bind fun y => .lift (idxD ds y)
section
variable {X : Cx} {G : Gh} {W : WX} {a b e : Expr} {Ra Rb R : Env → DM G.S D} {Rl : Env → DM G.S (List D)} {pos apos cpos : Pos}
theorem pd_inD (hu : X.A.units + 65 < cLine) (ha : PD X G W a Ra) (hb : PD X G W b Rb) (hm : behindInMarks .In b = false := by rfl) : PD X G W (.Compare a [.In] [b] pos) (eBin (dInD false) Ra Rb) := pd_cmp (op_inD hu) opd_inD ha hb hm
theorem pd_notInD (hu : X.A.units + 65 < cLine) (ha : PD X G W a Ra) (hb : PD X G W b Rb) (hm : behindInMarks .NotIn b = false := by rfl) : PD X G W (.Compare a [.NotIn] [b] pos) (eBin (dInD true) Ra Rb) := pd_cmp (op_notInD hu) opd_notInD ha hb hm
theorem pb_inD (hu : X.A.units + 65 < cLine) (ha : PD X G W a Ra) (hb : PD X G W b Rb) (hm : behindInMarks .In b = false := by rfl) : PB X G W (.Compare a [.In] [b] pos) (tB1 (eBin (dInD false) Ra Rb)) := pb_cmp (op_inD hu) opd_inD ha hb hm
theorem pb_notInD (hu : X.A.units + 65 < cLine) (ha : PD X G W a Ra) (hb : PD X G W b Rb) (hm : behindInMarks .NotIn b = false := by rfl) : PB X G W (.Compare a [.NotIn] [b] pos) (tB1 (eBin (dInD true) Ra Rb)) := pb_cmp (op_notInD hu) opd_notInD ha hb hm
theorem pd_index (hu : X.A.units + 65 < cLine) (hl : PL X G W a Rl) (h : PD X G W e R) (hbase : attributeBase a "index" X.env (eval a X.env) = eval a X.env := by rfl)
    (hfew : ((backTo cpos (starEach [e] X.env)).all (fun x => !x.1) && (backToKw cpos (keywordEach [] X.env)).all (fun x => x.1.isSome) && decide ([e].length + ([] : List Keyword).length + (if ([] : List Keyword).isEmpty then 0 else 1) < 30)) = true := by rfl)
    (hline : (apos.endLine == cpos.line) = true := by rfl) (hs : starEach [e] X.env = (false, eval e X.env) :: starEach [] X.env := by rfl) :
    PD X G W (.Call (.Attribute a "index" apos) [e] [] cpos) (eIdx Rl R) :=
  PE.imp (pe_bm PySem.F.plainAttrs_list PySem.F.slot_list_index PySem.F.type_list_index (mt_indexD hu) hl (pa_cons h pa_nil hs) hbase hfew hline hs rfl) fun σ H Q ⟨H0, F0, F, env, s, o, s', S, h, k, xc⟩ => by
    refine tG_bind S h xc fun ds v H1 F1 s1 S1 e1 g1 h1 xc1 => ?_
    obtain ⟨p, vs, rfl, l1, r1⟩ := g1
    refine ⟨.inl ⟨rfl, vs, l1.seq S1.fh⟩, ?_⟩
    refine tG_bind S1 h1 xc1 fun y w H2 F2 s2 S2 e2 g2 h2 xc2 => ?_
    obtain ⟨rfl, z, hz, rfl⟩ := h2
    unfold idxD at hz
    split at hz
    · rename_i c
      cases q : ds.findIdx? (fun z => deq z y) with
      | none => rw [q] at hz; cases hz
      | some j =>
        rw [q] at hz
        cases hz
        have hj := List.findIdx?_eq_some_iff_getElem.mp q
        obtain ⟨hjl, hj1, hj2⟩ := hj
        have lay : PyData.canLayAll0 (toPys ds) = true := by
          have z := SeqAt.canLay_of_shaped c.2
          simpa [toPy, PyData.canLay0] using z
        have sq := (l1.ext e2).seq S2.fh
        have r2 := (Reps.mono e2.f r1)
        have hdp : DpAll X.K H2 vs (toPys ds) := (Reps.mono S2.fh r2).py lay
        refine ⟨p, w, toPy y, toPys ds, j, toPy ds[j], rfl, rfl, .lst sq hdp, (g2.mono S2.fh).py (SeqAt.canLay_of_shaped c.1), by simpa [Pln, toPy] using c.2, c.1, ?_, hj1, ?_, ?_⟩
        · rw [toPys_map, List.getElem?_map, List.getElem?_eq_getElem hjl]; rfl
        · intro m z' hm hz'
          have hml : m < ds.length := by omega
          rw [toPys_map, List.getElem?_map, List.getElem?_eq_getElem hml] at hz'
          cases hz'
          have z := hj2 m hm
          exact Bool.eq_false_iff.mpr z
        · exact k _ rfl _ H2 F2 (e1.trans e2) S2.at_ (.int _)
    · cases hz
end
end Pl
/-! The pure layer, part 27: a tuple times a number (1 or more). -/
namespace Pl
open PySem PySem.Spec PyProof.Rows L2

theorem tuple_mul1 (l : Addr) (items : Array Value) (n : Nat) (dd : Option Addr) (sl : Array (Option Value)) (u : Tok) :
    Meets (Builtin.«tuple.__mul__» ⟨[.ref l, .int 1 u], []⟩) (fun _ R s => s.heap.get? l = some { cls := .type "tuple", dict := dd, data := .seq items n, slots := sl } ∧
      R (.ok (.ret (Value.ref l))) s) :=
  .of_wp fun prog w A R s h => by
    obtain ⟨hp, g, d, tk, os⟩ := s
    obtain ⟨hl, h⟩ := h
    have f1 := AutoSeq1.idx_int
    have c1 : (items.isEmpty || (1 : Int) == 1) = true := by simp
    wp_walk using wpAny_loadPart' hl
    exact ⟨_, rfl, h⟩
theorem op_rep1T {X : Cx} : OpR X (binaryOp .Mult) (fun x y H Q => ∃ l xs, x = V.ref l ∧ y = V.int 1 ∧ SqT X.K H l xs ∧ Q (.ref l) H) := by
  intro pins s σ H x y v u Q I rx ry h
  obtain ⟨l, xs, rfl, rfl, hT, q⟩ := h
  cases rx
  obtain ⟨t, rfl⟩ := ry
  obtain ⟨its, r, ⟨⟨cls, dd, data, sl⟩, ho, hc, n, hd⟩, hs⟩ := I.tuple hT
  simp only at hc hd
  subst hc hd
  refine wpAny_binaryOp_repeat_ref (T := "tuple") (U := "int") (by decide) ⟨_, ho, rfl⟩ (fun s' => typeIs_int s' 1 t) noFill_tuple_mul F.fills_int_mul F.slot_int_rmul repeat_tuple F.slot_int_index.lookup
    (call_meets F.slot_int_rmul (typeIs_int s 1 t) F.entry_int_rmul (F.args_int_rmul_2 _ _) (int_rmul_tuple 1 t l its.toArray n dd sl)
      ⟨ho, rfl, ⟨_, ho, rfl⟩, call_meets F.slot_tuple_mul ⟨_, ho, rfl⟩ F.entry_tuple_mul (F.args_tuple_mul_2 _ _) (tuple_mul1 l its.toArray n dd sl t) ⟨ho, ?_⟩⟩)
  exact ⟨.ref l, H, I, rfl, q⟩
def dRepT : D → D → Option D
  | .tup ds, .int k => if ds ≠ [] ∧ 1 ≤ k ∧ k ≤ 1000 ∧ ds.length ≤ 1000 then some (.tup (List.replicate k.toNat ds).flatten) else none
  | _, _ => none
theorem opd_repT {K : Frg} : OpD K (fun x y H Q => (∃ l xs, x = V.ref l ∧ y = V.int 1 ∧ SqT K H l xs ∧ Q (.ref l) H) ∨ rRepT K x y H Q) dRepT := by
  intro H F v w d e x Q sm rv rw_ h k
  unfold dRepT at h
  split at h
  · rename_i ds n
    split at h
    · rename_i c
      cases h
      cases rw_
      cases rv with
      | tup hs r =>
        rename_i a xs
        by_cases h1 : n = 1
        · subst h1
          refine .inl ⟨_, _, rfl, rfl, SqT.of (sm _ _ hs), k _ H F (Ext.refl sm) (.tup hs ?_)⟩
          simpa using r
        · refine .inr ⟨_, n, _, rfl, rfl, SqT.of (sm _ _ hs), fun e => c.1 ?_, by omega, by omega, by rw [r.len]; exact c.2.2.2, fun p np => ?_⟩
          · have := r.len
            rw [e] at this
            exact List.eq_nil_of_length_eq_zero this.symm
          · have E := fun o => (Ext.new (fp := fun _ => False) o sm np)
            exact k _ _ _ (E _) (.tup upd_same (reps_rep (r.mono (E _).f) n.toNat))
    · cases h
  · cases h
section
variable {X : Cx} {G : Gh} {W : WX} {a b : Expr} {Ra Rb : Env → DM G.S D} {pos : Pos}
theorem pd_repT (ha : PD X G W a Ra) (hb : PD X G W b Rb) : PD X G W (.BinOp a .Mult b pos) (eBin dRepT Ra Rb) := pd_bin (op_rep1T.or op_repT) opd_repT ha hb
end
end Pl
/-! The pure layer, part 20: what operators give on data, as equations for simp. -/
namespace Pl
open PySem PySem.Spec PyProof.Rows L2

section
variable {Q : D → Prop} {i j : Int}
theorem ex_onI {C : Int → Int → Bool} {f : Int → Int → D} : (∃ z, onI C f (.int i) (.int j) = some z ∧ Q z) ↔ C i j = true ∧ Q (f i j) := by
  show (∃ z, (if C i j = true then some (f i j) else none) = some z ∧ Q z) ↔ _
  by_cases h : C i j = true
  · simp [h]
  · simp [h]
theorem ex_add : (∃ z, dAdd (.int i) (.int j) = some z ∧ Q z) ↔ Q (.int (i + j)) := by
  constructor
  · rintro ⟨z, h, q⟩
    have : some (D.int (i + j)) = some z := h
    cases this
    exact q
  · exact fun q => ⟨_, rfl, q⟩
theorem pln_int (i : Int) : Pln (.int i) := by unfold Pln; simp [toPy, SeqAt.shaped, PyData.canLay0, PyData.depth]
theorem pln_non : Pln .non := by unfold Pln; simp [toPy, SeqAt.shaped, PyData.canLay0, PyData.depth]
theorem pln_bl (b : Bool) : Pln (.bl b) := by unfold Pln; simp [toPy, SeqAt.shaped, PyData.canLay0, PyData.depth]
theorem ex_eqI : (∃ z, dEq (.int i) (.int j) = some z ∧ Q z) ↔ Q (.bl (decide (i = j))) := by
  unfold dEq
  rw [if_pos ⟨pln_int i, pln_int j⟩]
  have e : (i == j) = decide (i = j) := by by_cases h : i = j <;> simp [h]
  simp [deq, toPy, PyData.eqv, e]
theorem ex_neI : (∃ z, dNe (.int i) (.int j) = some z ∧ Q z) ↔ Q (.bl (!decide (i = j))) := by
  unfold dNe
  rw [if_pos ⟨pln_int i, pln_int j⟩]
  have e : (i == j) = decide (i = j) := by by_cases h : i = j <;> simp [h]
  simp [deq, toPy, PyData.eqv, e]
theorem ex_neB {a b : Bool} : (∃ z, dNe (.bl a) (.bl b) = some z ∧ Q z) ↔ Q (.bl (a != b)) := by
  unfold dNe
  rw [if_pos ⟨pln_bl a, pln_bl b⟩]
  simp [deq, toPy, PyData.eqv, bne]
/-- equality of lists, tuples of ints -/
theorem toPys_ints : ∀ ns : List Int, toPys (ns.map D.int) = ns.map PyData.int
  | [] => rfl
  | n :: ns => by
    show toPy (.int n) :: toPys (ns.map D.int) = _
    rw [toPys_ints ns]
    rfl
theorem canLay_ints : ∀ ns : List Int, PyData.canLayAll0 (ns.map PyData.int) = true
  | [] => rfl
  | n :: ns => by
    show (PyData.canLay0 (.int n) && PyData.canLayAll0 (ns.map PyData.int)) = true
    rw [canLay_ints ns]
    rfl
theorem depth_ints : ∀ ns : List Int, PyData.depthAll (ns.map PyData.int) ≤ 1
  | [] => by simp [PyData.depthAll]
  | n :: ns => by
    have := depth_ints ns
    simp only [List.map_cons, PyData.depthAll, PyData.depth]
    omega
theorem eqv_ints : ∀ ns ms : List Int, PyData.eqvAll (ns.map PyData.int) (ms.map PyData.int) = decide (ns = ms)
  | [], [] => rfl
  | [], _ :: _ => rfl
  | _ :: _, [] => rfl
  | n :: ns, m :: ms => by
    show (PyData.eqv (.int n) (.int m) && PyData.eqvAll (ns.map PyData.int) (ms.map PyData.int)) = _
    rw [eqv_ints ns ms]
    have e : PyData.eqv (.int n) (.int m) = (n == m) := rfl
    rw [e]
    by_cases h : n = m <;> by_cases h2 : ns = ms <;> simp [h, h2]
theorem pln_lis (ns : List Int) : Pln (.lst (ns.map D.int)) := by
  unfold Pln toPy
  rw [toPys_ints]
  have := depth_ints ns
  have h2 : PyData.depthAll (ns.map PyData.int) + 1 ≤ 64 := by omega
  unfold SeqAt.shaped
  rw [Bool.and_eq_true]
  refine ⟨?_, ?_⟩
  · simp only [PyData.canLay0, canLay_ints]
  · simp only [PyData.depth, decide_eq_true_eq]
    exact decide_eq_true h2
theorem pln_tup (ns : List Int) : Pln (.tup (ns.map D.int)) := by
  unfold Pln toPy
  rw [toPys_ints]
  have := depth_ints ns
  have h2 : PyData.depthAll (ns.map PyData.int) + 1 ≤ 64 := by omega
  unfold SeqAt.shaped
  rw [Bool.and_eq_true]
  refine ⟨?_, ?_⟩
  · simp only [PyData.canLay0, canLay_ints]
  · simp only [PyData.depth, decide_eq_true_eq]
    exact decide_eq_true h2
theorem dEq_lis (ns ms : List Int) : dEq (.lst (ns.map D.int)) (.lst (ms.map D.int)) = some (.bl (decide (ns = ms))) := by
  unfold dEq
  rw [if_pos ⟨pln_lis ns, pln_lis ms⟩]
  simp only [deq, toPy, toPys_ints, PyData.eqv, eqv_ints]
theorem dNe_lis (ns ms : List Int) : dNe (.lst (ns.map D.int)) (.lst (ms.map D.int)) = some (.bl (!decide (ns = ms))) := by
  unfold dNe
  rw [if_pos ⟨pln_lis ns, pln_lis ms⟩]
  simp only [deq, toPy, toPys_ints, PyData.eqv, eqv_ints]
theorem dNe_tup (ns ms : List Int) : dNe (.tup (ns.map D.int)) (.tup (ms.map D.int)) = some (.bl (!decide (ns = ms))) := by
  unfold dNe
  rw [if_pos ⟨pln_tup ns, pln_tup ms⟩]
  simp only [deq, toPy, toPys_ints, PyData.eqv, eqv_ints]
end
end Pl
/-! The pure layer, part 21: running the draw state, while, lambda's end. -/
namespace Pl
open PySem PySem.Spec PyProof.Rows L2
section
variable {S : Type} {De : DE S} {env : Env} {s : S} {w : DW S} {Rb : Env → DM S Bool}
theorem gw_while (I : Nat → Env → S → Prop) {m0 : Nat} (h0 : I m0 env s) (hs : ∀ m env s, I m env s → Go (Rb env) (fun c s1 => if c = true then w { De with nx := fun e z => ∃ m', m' < m ∧ I m' e z, ct := fun e z => ∃ m', m' < m ∧ I m' e z, bk := De.nx, al := false } env s1 else De.nx env s1) s) : wWhile Rb w De env s :=
  ⟨I, ⟨m0, h0⟩, fun m env s h => go_run (hs m env s h)⟩
end
section
variable {De : DE DlS} {env : Env} {s : DlS} {R : Env → DM DlS D} {j i : Nat} {Q : D → DlS → Prop} {Qb : Bool → DlS → Prop}
theorem go_d1 : Go (eD1 j env) Q s ↔ env[j]? = some .gh ∧ Q (.int s.2) s := by
  constructor
  · rintro ⟨a, s1, ⟨rfl, h, e⟩, q⟩
    cases e
    exact ⟨h, q⟩
  · rintro ⟨h, q⟩
    exact ⟨_, s, ⟨rfl, h, rfl⟩, q⟩
theorem go_d0ix : Go (eD0ix j R env) Q s ↔ env[j]? = some .gh ∧ Go (R env) (fun x s1 => ∃ n m, x = .int n ∧ atI s1.1 n = some m ∧ Q (.int m) s1) s := by
  constructor
  · rintro ⟨a, s1, ⟨hj, h⟩, q⟩
    refine ⟨hj, ?_⟩
    have z : Go (DM.bind (R env) fun i s o s' => s' = s ∧ ∃ n m, i = .int n ∧ atI s.1 n = some m ∧ o = .ok (.int m)) Q s := ⟨a, s1, h, q⟩
    rw [go_bind] at z
    obtain ⟨x, s2, h2, b, s3, ⟨rfl, n, m, e1, e2, e3⟩, q⟩ := z
    cases e3
    exact ⟨x, _, h2, n, m, e1, e2, q⟩
  · rintro ⟨hj, x, s1, h, n, m, e1, e2, q⟩
    exact ⟨_, s1, ⟨hj, .inl ⟨x, s1, h, rfl, n, m, e1, e2, rfl⟩⟩, q⟩
theorem go_d0ne : Go (bD0ne j env) Qb s ↔ env[j]? = some .gh ∧ Qb (!decide (s.1 = [])) s := by
  have e := dNe_lis s.1 []
  constructor
  · rintro ⟨a, s1, ⟨rfl, h, b, hb, ho⟩, q⟩
    have e2 : some (D.bl b) = some (.bl (!decide (s1.1 = []))) := hb.symm.trans e
    have e3 : b = !decide (s1.1 = []) := by
      have := Option.some.inj e2
      exact D.bl.inj this
    subst e3
    cases ho
    exact ⟨h, q⟩
  · rintro ⟨h, q⟩
    exact ⟨_, s, ⟨rfl, h, _, e, rfl⟩, q⟩
theorem gw_d0pop (hj : env[j]? = some .gh) (hne : s.1 ≠ []) (h : De.nx env (s.1.dropLast, s.2)) : wD0pop j De env s := ⟨hj, hne, h⟩
theorem gw_d0popTo (hj : env[j]? = some .gh) (hne : s.1 ≠ []) (h : De.nx (env.set i (.fz (.int (s.1.getLast hne)))) (s.1.dropLast, s.2)) : wD0popTo j i De env s := ⟨hj, hne, h⟩
theorem gw_d0app (hj : env[j]? = some .gh) (h : Go (R env) (fun d s1 => ∃ n, d = .int n ∧ s1.1.length < sizeLine ∧ De.nx env (s1.1 ++ [n], s1.2)) s) : wD0app j R De env s := ⟨hj, go_run h⟩
theorem gw_d1set (hj : env[j]? = some .gh) (h : Go (R env) (fun d s1 => ∃ n, d = .int n ∧ De.nx env (s1.1, n)) s) : wD1set j R De env s := ⟨hj, go_run h⟩
end
end Pl
/-! The pure layer, part 22: a run reaches one end. -/
namespace Pl
open PySem PySem.Spec PyProof.Rows L2

/-- one end, of those that De allows -/
inductive En (S : Type) where
  | nx (e : Env) (z : S) | rt (d : D) (z : S) | rf (w : OD) (z : S) | bk (e : Env) (z : S) | ct (e : Env) (z : S) | ex (C : Addr) (ns : List Str) (ds : List D) (e : Env) (z : S)
def En.of {S : Type} (De : DE S) : En S → Prop
  | .nx e z => De.nx e z
  | .rt d z => De.rt d z
  | .rf w z => De.rf w z
  | .bk e z => De.bk e z
  | .ct e z => De.ct e z
  | .ex C ns ds e z => De.ex C ns ds e z
def Ones {S : Type} (w : DW S) : Prop := ∀ (De : DE S) (env : Env) (s : S), w De env s → ∃ x : En S, x.of De ∧ ∀ De' : DE S, x.of De' → w De' env s
section
variable {S : Type} {w w1 w2 : DW S} {R Ri : Env → DM S D} {Rf : Env → DM S OD} {Rb : Env → DM S Bool} {Rl : Env → DM S (List D)} {Rm : Env → DM S (List SV)} {t : TP} {i j : Nat} {is : List Nat}
theorem ones_run {α : Type} {m : DM S α} {env : Env} {s : S} {k : DE S → α → S → Prop} (h : ∀ De a s1, k De a s1 → ∃ x : En S, x.of De ∧ ∀ De', x.of De' → k De' a s1) {De : DE S} (q : run m De env (k De) s) : ∃ x : En S, x.of De ∧ ∀ De', x.of De' → run m De' env (k De') s := by
  obtain ⟨o, s1, h1, h2⟩ := q
  cases o with
  | ok a =>
    obtain ⟨x, q1, q2⟩ := h De a s1 h2
    exact ⟨x, q1, fun De' y => ⟨.ok a, s1, h1, q2 De' y⟩⟩
  | ex C ns ds => exact ⟨.ex C ns ds env s1, h2, fun De' y => ⟨.ex C ns ds, s1, h1, y⟩⟩
theorem ones_next : Ones (wNext (S := S)) := fun De env s h => ⟨.nx env s, h, fun _ y => y⟩
theorem ones_break : Ones (wBreak (S := S)) := fun De env s h => ⟨.bk env s, h, fun _ y => y⟩
theorem ones_cont : Ones (wCont (S := S)) := fun De env s h => ⟨.ct env s, h, fun _ y => y⟩
theorem ones_never : Ones (wNever (S := S)) := fun De env s h => h.elim
theorem ones_seq (h1 : Ones w1) (h2 : Ones w2) : Ones (wSeq w1 w2) := fun De env s h => by
  obtain ⟨x, q1, q2⟩ := h1 _ env s h
  cases x with
  | nx e z =>
    obtain ⟨y, q3, q4⟩ := h2 De e z q1
    exact ⟨y, q3, fun De' k => q2 { De' with nx := w2 De' } (q4 De' k)⟩
  | rt d z => exact ⟨.rt d z, q1, fun De' k => q2 { De' with nx := w2 De' } k⟩
  | rf d z => exact ⟨.rf d z, q1, fun De' k => q2 { De' with nx := w2 De' } k⟩
  | bk d z => exact ⟨.bk d z, q1, fun De' k => q2 { De' with nx := w2 De' } k⟩
  | ct d z => exact ⟨.ct d z, q1, fun De' k => q2 { De' with nx := w2 De' } k⟩
  | ex C ns ds e z => exact ⟨.ex C ns ds e z, q1, fun De' k => q2 { De' with nx := w2 De' } k⟩
theorem ones_expr : Ones (wExpr R) := fun De env s h => ones_run (k := fun De _ s1 => De.nx env s1) (fun De a s1 k => ⟨.nx env s1, k, fun _ y => y⟩) h
theorem ones_asg : Ones (wAsg t R) := fun De env s h => ones_run (k := fun De d s1 => ∃ env', t.put d env = some env' ∧ De.nx env' s1) (fun De a s1 ⟨e, h1, k⟩ => ⟨.nx e s1, k, fun _ y => ⟨e, h1, y⟩⟩) h
theorem ones_asgF : Ones (wAsgF i Rf) := fun De env s h => ones_run (k := fun De w s1 => De.nx (env.set i (.ow w)) s1) (fun De a s1 k => ⟨.nx _ s1, k, fun _ y => y⟩) h
theorem ones_ret : Ones (wRet R) := fun De env s h => ones_run (k := fun De => De.rt) (fun De a s1 k => ⟨.rt a s1, k, fun _ y => y⟩) h
theorem ones_retN : Ones (wRetN (S := S)) := fun De env s h => ⟨.rt .non s, h, fun _ y => y⟩
theorem ones_if (h1 : Ones w1) (h2 : Ones w2) : Ones (wIf Rb w1 w2) := fun De env s h => ones_run (k := fun De c s1 => if c = true then w1 De env s1 else w2 De env s1) (fun De c s1 k => by
  by_cases hc : c = true
  · rw [if_pos hc] at k
    obtain ⟨x, q1, q2⟩ := h1 De env s1 k
    exact ⟨x, q1, fun De' y => by rw [if_pos hc]; exact q2 De' y⟩
  · rw [if_neg hc] at k
    obtain ⟨x, q1, q2⟩ := h2 De env s1 k
    exact ⟨x, q1, fun De' y => by rw [if_neg hc]; exact q2 De' y⟩) h
theorem ones_fz (h1 : Ones w) : Ones (wFz i w) := fun De env s ⟨x, hx, h⟩ => by
  obtain ⟨y, q1, q2⟩ := h1 De _ s h
  exact ⟨y, q1, fun De' k => ⟨x, hx, q2 De' k⟩⟩
theorem ones_par : Ones (wPar is Rm) := fun De env s h => ones_run (k := fun De (ss : List SV) s1 => ss.length = is.length ∧ De.nx (setsE is ss env) s1) (fun De a s1 ⟨h1, k⟩ => ⟨.nx _ s1, k, fun _ y => ⟨h1, y⟩⟩) h
theorem ones_app : Ones (wApp i R) := fun De env s ⟨ds, hi, hz, h⟩ => by
  obtain ⟨x, q1, q2⟩ := ones_run (k := fun De d s1 => De.nx (env.set i (.ow (.lst (ds ++ [d])))) s1) (fun De a s1 k => ⟨.nx _ s1, k, fun _ y => y⟩) h
  exact ⟨x, q1, fun De' y => ⟨ds, hi, hz, q2 De' y⟩⟩
theorem ones_forL (h1 : Ones w) : ∀ (ds : List D) (De : DE S) (env : Env) (s : S), forL t w De ds env s → ∃ x : En S, x.of De ∧ ∀ De' : DE S, x.of De' → forL t w De' ds env s
  | [], De, env, s, h => ⟨.nx env s, h, fun _ y => y⟩
  | d :: ds, De, env, s, ⟨env', hp, h⟩ => by
    obtain ⟨x, q1, q2⟩ := h1 _ env' s h
    have up : ∀ De' : DE S, x.of { De' with nx := forL t w De' ds, ct := forL t w De' ds, bk := De'.nx, al := false } → forL t w De' (d :: ds) env s := fun De' y => ⟨env', hp, q2 _ y⟩
    cases x with
    | nx e z =>
      obtain ⟨y, q3, q4⟩ := ones_forL h1 ds De e z q1
      exact ⟨y, q3, fun De' k => up De' (q4 De' k)⟩
    | ct e z =>
      obtain ⟨y, q3, q4⟩ := ones_forL h1 ds De e z q1
      exact ⟨y, q3, fun De' k => up De' (q4 De' k)⟩
    | bk e z => exact ⟨.nx e z, q1, fun De' k => up De' k⟩
    | rt d z => exact ⟨.rt d z, q1, fun De' k => up De' k⟩
    | rf d z => exact ⟨.rf d z, q1, fun De' k => up De' k⟩
    | ex C ns ds e z => exact ⟨.ex C ns ds e z, q1, fun De' k => up De' k⟩
theorem ones_for (h1 : Ones w) : Ones (wFor t Rl w) := fun De env s h => ones_run (k := fun De ds s1 => forL t w De ds env s1) (fun De ds s1 k => ones_forL h1 ds De env s1 k) h
theorem ones_while (h1 : Ones w) : Ones (wWhile Rb w) := fun De env s ⟨I, ⟨m, hm⟩, turn⟩ => by
  have go : ∀ n m env s, m < n → I m env s → ∃ x : En S, x.of De ∧ ∀ De' : DE S, x.of De' → wWhile Rb w De' env s := by
    intro n
    induction n with
    | zero => exact fun m env s h _ => absurd h (Nat.not_lt_zero _)
    | succ n ih =>
      intro m env s hmn hI
      obtain ⟨o, s1, h2, h3⟩ := turn m env s hI
      -- one state only
      have one : ∀ De' : DE S, run (Rb env) De' env (fun c s1 => if c = true then w { De' with nx := fun _ _ => False, ct := fun _ _ => False, bk := De'.nx, al := false } env s1 else De'.nx env s1) s → True → wWhile Rb w De' env s := fun De' h _ =>
        ⟨fun _ e z => e = env ∧ z = s, ⟨0, rfl, rfl⟩, fun m e z ⟨e1, e2⟩ => by
          subst e1 e2
          obtain ⟨o, s1, q1, q2⟩ := h
          refine ⟨o, s1, q1, ?_⟩
          cases o with
          | ex C ns ds => exact q2
          | ok c =>
            by_cases hc : c = true
            · simp only [if_pos hc] at q2 ⊢
              obtain ⟨x, y1, y2⟩ := h1 _ _ _ q2
              refine y2 _ ?_
              cases x with
              | nx e z => exact False.elim y1
              | ct e z => exact False.elim y1
              | bk e z => exact y1
              | rt d z => exact y1
              | rf d z => exact y1
              | ex C ns ds e z => exact y1
            · simp only [if_neg hc] at q2 ⊢
              exact q2⟩
      have more : ∀ (De' : DE S) (c : Bool) (e : Env) (z : S), Rb env s (.ok true) s1 → (∀ De2 : DE S, De2.nx e z → De2.ct e z → w De2 env s1) → wWhile Rb w De' e z → wWhile Rb w De' env s := fun De' c e z q1 q2 ⟨I2, ⟨m2, hm2⟩, t2⟩ =>
        ⟨fun k e' z' => (k = m2 + 1 ∧ e' = env ∧ z' = s) ∨ (k ≤ m2 ∧ I2 k e' z'), ⟨m2 + 1, .inl ⟨rfl, rfl, rfl⟩⟩, fun k e' z' hk => by
          rcases hk with ⟨rfl, rfl, rfl⟩ | ⟨hk, hi⟩
          · exact ⟨.ok true, s1, q1, by simp only [if_pos]; exact q2 _ ⟨m2, Nat.lt_succ_self _, .inr ⟨Nat.le_refl _, hm2⟩⟩ ⟨m2, Nat.lt_succ_self _, .inr ⟨Nat.le_refl _, hm2⟩⟩⟩
          · obtain ⟨o, s3, r1, r2⟩ := t2 k e' z' hi
            refine ⟨o, s3, r1, ?_⟩
            cases o with
            | ex C ns ds => exact r2
            | ok c =>
              by_cases hc : c = true
              · simp only [if_pos hc] at r2 ⊢
                obtain ⟨x, y1, y2⟩ := h1 _ _ _ r2
                refine y2 _ ?_
                cases x with
                | nx e z => exact let ⟨m', l, i⟩ := y1; ⟨m', l, .inr ⟨by omega, i⟩⟩
                | ct e z => exact let ⟨m', l, i⟩ := y1; ⟨m', l, .inr ⟨by omega, i⟩⟩
                | bk e z => exact y1
                | rt d z => exact y1
                | rf d z => exact y1
                | ex C ns ds e z => exact y1
              · simp only [if_neg hc] at r2 ⊢
                exact r2⟩
      cases o with
      | ex C ns ds => exact ⟨.ex C ns ds env s1, h3, fun De' y => one De' ⟨.ex C ns ds, s1, h2, y⟩ trivial⟩
      | ok c =>
        by_cases hc : c = true
        · subst hc
          have h3 : w { De with nx := fun e z => ∃ m', m' < m ∧ I m' e z, ct := fun e z => ∃ m', m' < m ∧ I m' e z, bk := De.nx, al := false } env s1 := h3
          obtain ⟨x, y1, y2⟩ := h1 _ _ _ h3
          cases x with
          | nx e z =>
            obtain ⟨m', l, i⟩ := y1
            obtain ⟨x, q1, q2⟩ := ih m' e z (by omega) i
            exact ⟨x, q1, fun De' k => more De' true e z h2 (fun De2 a _ => y2 De2 a) (q2 De' k)⟩
          | ct e z =>
            obtain ⟨m', l, i⟩ := y1
            obtain ⟨x, q1, q2⟩ := ih m' e z (by omega) i
            exact ⟨x, q1, fun De' k => more De' true e z h2 (fun De2 _ a => y2 De2 a) (q2 De' k)⟩
          | bk e z => exact ⟨.nx e z, y1, fun De' k => one De' ⟨.ok true, s1, h2, y2 { De' with nx := fun _ _ => False, ct := fun _ _ => False, bk := De'.nx, al := false } k⟩ trivial⟩
          | rt d z => exact ⟨.rt d z, y1, fun De' k => one De' ⟨.ok true, s1, h2, y2 { De' with nx := fun _ _ => False, ct := fun _ _ => False, bk := De'.nx, al := false } k⟩ trivial⟩
          | rf d z => exact ⟨.rf d z, y1, fun De' k => one De' ⟨.ok true, s1, h2, y2 { De' with nx := fun _ _ => False, ct := fun _ _ => False, bk := De'.nx, al := false } k⟩ trivial⟩
          | ex C ns ds e z => exact ⟨.ex C ns ds e z, y1, fun De' k => one De' ⟨.ok true, s1, h2, y2 { De' with nx := fun _ _ => False, ct := fun _ _ => False, bk := De'.nx, al := false } k⟩ trivial⟩
        · have h3 : De.nx env s1 := by simpa only [if_neg hc] using h3
          exact ⟨.nx env s1, h3, fun De' k => one De' ⟨.ok c, s1, h2, by simp only [if_neg hc]; exact k⟩ trivial⟩
  exact go (m + 1) m env s (Nat.lt_succ_self _) hm
end
end Pl
/-! The pure layer, part 23: a promise from a run's wish. -/
namespace Pl
open PySem PySem.Spec PyProof.Rows L2
/-- a wish for results only -/
def rtE {S : Type} (P : D → S → Prop) : DE S := { nx := fun _ _ => False, rt := P }
theorem dRG_of {S : Type} {w : DW S} {n m : Nat} {s : S} {ds : List D} {P : D → S → Prop} (h : Ones w) (hl : ds.length = n) (hw : w (rtE P) (.gh :: env0 ds m) s) : ∃ d s', dRG w n m s ds (.ok d) s' ∧ P d s' := by
  obtain ⟨x, q1, q2⟩ := h _ _ _ hw
  cases x with
  | rt d z => exact ⟨d, z, ⟨hl, q2 (gEnd (.ok d) z) ⟨rfl, rfl⟩⟩, q1⟩
  | nx e z => exact False.elim q1
  | rf d z => exact False.elim q1
  | bk e z => exact False.elim q1
  | ct e z => exact False.elim q1
  | ex C ns ds e z => exact False.elim q1
theorem dR_of {w : DW Unit} {n m : Nat} {ds : List D} {P : D → Prop} (h : Ones w) (hl : ds.length = n) (hw : w (rtE fun d _ => P d) (env0 ds m) ()) : ∃ d, dR w n m ds (.ok d) ∧ P d := by
  obtain ⟨x, q1, q2⟩ := h _ _ _ hw
  cases x with
  | rt d z => exact ⟨d, ⟨hl, q2 (dEnd (.ok d)) rfl⟩, q1⟩
  | nx e z => exact False.elim q1
  | rf d z => exact False.elim q1
  | bk e z => exact False.elim q1
  | ct e z => exact False.elim q1
  | ex C ns ds e z => exact False.elim q1
section
variable {R : Env → DM DlS D} {j i : Nat}
theorem ones_d0pop : Ones (wD0pop j) := fun De env s ⟨h1, h2, h3⟩ => ⟨.nx _ _, h3, fun _ y => ⟨h1, h2, y⟩⟩
theorem ones_d0popTo : Ones (wD0popTo j i) := fun De env s ⟨h1, h2, h3⟩ => ⟨.nx _ _, h3, fun _ y => ⟨h1, h2, y⟩⟩
theorem ones_d0app : Ones (wD0app j R) := fun De env s ⟨h1, h⟩ => by
  obtain ⟨x, q1, q2⟩ := ones_run (k := fun De (d : D) (s1 : DlS) => ∃ n, d = .int n ∧ s1.1.length < sizeLine ∧ De.nx env (s1.1 ++ [n], s1.2)) (fun De a s1 ⟨n, e, z, k⟩ => ⟨.nx _ _, k, fun _ y => ⟨n, e, z, y⟩⟩) h
  exact ⟨x, q1, fun De' y => ⟨h1, q2 De' y⟩⟩
theorem ones_d1set : Ones (wD1set j R) := fun De env s ⟨h1, h⟩ => by
  obtain ⟨x, q1, q2⟩ := ones_run (k := fun De (d : D) (s1 : DlS) => ∃ n, d = .int n ∧ De.nx env (s1.1, n)) (fun De a s1 ⟨n, e, k⟩ => ⟨.nx _ _, k, fun _ y => ⟨n, e, y⟩⟩) h
  exact ⟨x, q1, fun De' y => ⟨h1, q2 De' y⟩⟩
end
end Pl
/-! The pure layer, part 24: rules for runs: loops over mapped lists, comprehensions, operators on known data. -/
namespace Pl
open PySem PySem.Spec PyProof.Rows L2

section
variable {S : Type} {s : S} {env : Env} {t t1 : TP} {Tt Tt1 : Env → DM S Bool} {Re : Env → DM S D} {Ri : Env → DM S (List D)} {vs1 : List Nat}
theorem go_cStep {d : D} {Q : List D → S → Prop} : Go (cStep t Tt Re env d) Q s ↔ ∃ env1, t.put d env = some env1 ∧ Go (Tt env1) (fun c s1 => if c = true then Go (Re env1) (fun y s2 => Q [y] s2) s1 else Q [] s1) s := by
  unfold cStep
  cases h : t.put d env with
  | none =>
    simp only [reduceCtorEq, false_and, exists_false, iff_false]
    rintro ⟨a, s1, h, _⟩
    exact h
  | some e =>
    simp only [Option.some.injEq, exists_eq_left', go_bind]
    constructor <;> (rintro ⟨a, s1, h1, h2⟩; refine ⟨a, s1, h1, ?_⟩; split at h2 <;> simp_all [go_bind, go_ret])
theorem go_cStep2 {d : D} {Q : List D → S → Prop} : Go (cStep2 t Tt Ri t1 vs1 Tt1 Re env d) Q s ↔ ∃ env1, t.put d env = some env1 ∧ Go (Tt env1) (fun c s1 => if c = true then Go (Ri env1) (fun ds s2 => ∃ out s3, Coll (cStep t1 Tt1 Re (wipeE env1 vs1)) ds s2 out s3 ∧ Q out s3) s1 else Q [] s1) s := by
  unfold cStep2
  cases h : t.put d env with
  | none =>
    simp only [reduceCtorEq, false_and, exists_false, iff_false]
    rintro ⟨a, s1, h, _⟩
    exact h
  | some e =>
    simp only [Option.some.injEq, exists_eq_left', go_bind]
    have hin : ∀ (ds : List D) (s2 : S), Go (fun s o s' => ∃ out, Coll (cStep t1 Tt1 Re (wipeE e vs1)) ds s out s' ∧ o = .ok out) Q s2 ↔ ∃ out s3, Coll (cStep t1 Tt1 Re (wipeE e vs1)) ds s2 out s3 ∧ Q out s3 := fun ds s2 => by
      constructor
      · rintro ⟨a, s3, ⟨out, h1, h2⟩, q⟩
        cases h2
        exact ⟨_, _, h1, q⟩
      · rintro ⟨out, s3, h1, q⟩
        exact ⟨out, s3, ⟨out, h1, rfl⟩, q⟩
    constructor <;> (rintro ⟨a, s1, h1, h2⟩; refine ⟨a, s1, h1, ?_⟩; split at h2 <;> simp_all [go_bind, go_ret])
theorem go_dicK {Q : OD → S → Prop} : Go (fDicK env) Q s ↔ Q (.dic [] []) s := go_ret
theorem go_dicT {Q : OD → S → Prop} : Go (fDicT env) Q s ↔ Q (.dit [] []) s := go_ret
theorem call_ex {P : List D → Oc D → Prop} {Rs : Env → DM S (List D)} {s' : S} {C : Addr} {ns : List Str} {es : List D} (h : Go (Rs env) (fun ds s1 => P ds (.ex C ns es) ∧ s1 = s') s) : eCall P Rs env s (.ex C ns es) s' := by
  obtain ⟨ds, s1, h1, h2, rfl⟩ := h
  exact .inl ⟨ds, _, h1, rfl, h2⟩
/-! ### comprehensions -/
variable {α β : Type} {g : α → D} {step : D → DM S (List D)}
theorem coll_fm {h : α → List D} {xs : List α} (hh : ∀ x ∈ xs, Go (step (g x)) (fun ys s1 => ys = h x ∧ s1 = s) s) : Coll step (xs.map g) s (xs.flatMap h) s := by
  induction xs with
  | nil => exact ⟨rfl, rfl⟩
  | cons x xs ih =>
    obtain ⟨a, s1, h1, e1, e2⟩ := hh x List.mem_cons_self
    rw [e1, e2] at h1
    exact ⟨_, _, xs.flatMap h, h1, ih fun y hy => hh y (List.mem_cons_of_mem _ hy), by rw [List.flatMap_cons]⟩
theorem coll_map {h : α → D} {xs : List α} (hh : ∀ x ∈ xs, Go (step (g x)) (fun ys s1 => ys = [h x] ∧ s1 = s) s) : Coll step (xs.map g) s (xs.map h) s := by
  have := coll_fm (h := fun x => [h x]) hh
  rwa [← List.map_eq_flatMap] at this
theorem coll_flt {h : α → D} {p : α → Bool} {xs : List α} (hh : ∀ x ∈ xs, Go (step (g x)) (fun ys s1 => ys = (if p x = true then [h x] else []) ∧ s1 = s) s) : Coll step (xs.map g) s ((xs.filter p).map h) s := by
  have := coll_fm (h := fun x => if p x = true then [h x] else []) hh
  have e : ∀ l : List α, l.flatMap (fun x => if p x = true then [h x] else []) = (l.filter p).map h := fun l => by
    induction l with
    | nil => rfl
    | cons a l ih =>
      rw [List.flatMap_cons, ih]
      by_cases c : p a = true
      · simp [c]
      · simp [c]
  rwa [e] at this
theorem coll_mapE (emb : β → D) (h : α → β) {xs : List α} (hh : ∀ x ∈ xs, Go (step (g x)) (fun ys s1 => ys = [emb (h x)] ∧ s1 = s) s) : Coll step (xs.map g) s ((xs.map h).map emb) s := by
  rw [List.map_map]
  exact coll_map hh
theorem coll_fltE (emb : β → D) (p : α → Bool) (h : α → β) {xs : List α} (hh : ∀ x ∈ xs, Go (step (g x)) (fun ys s1 => ys = (if p x = true then [emb (h x)] else []) ∧ s1 = s) s) : Coll step (xs.map g) s (((xs.filter p).map h).map emb) s := by
  rw [List.map_map]
  exact coll_flt hh
/-- items that are drawn -/
theorem coll_draw (emb : β → D) (P : α → β → Prop) (V : S → Prop) : ∀ {xs : List α} {s : S}, V s → (∀ x ∈ xs, ∀ s, V s → Go (step (g x)) (fun ys s1 => ∃ b, ys = [emb b] ∧ P x b ∧ V s1) s) →
    ∃ (zs : List β) (s' : S), Coll step (xs.map g) s (zs.map emb) s' ∧ zs.length = xs.length ∧ (∀ (i : Nat) (x : α) (z : β), xs[i]? = some x → zs[i]? = some z → P x z) ∧ V s'
  | [], s, v, _ => ⟨[], s, ⟨rfl, rfl⟩, rfl, fun i x z h => by simp at h, v⟩
  | x :: xs, s, v, hh => by
    obtain ⟨a, s1, h1, b, rfl, hp, v1⟩ := hh x List.mem_cons_self s v
    obtain ⟨zs, s2, h2, h3, h4, v2⟩ := coll_draw emb P V v1 fun y hy => hh y (List.mem_cons_of_mem _ hy)
    refine ⟨b :: zs, s2, ⟨_, s1, _, h1, h2, rfl⟩, by simp [h3], fun i y z e1 e2 => ?_, v2⟩
    cases i with
    | zero => simp at e1 e2; subst e1 e2; exact hp
    | succ i => exact h4 i y z (by simpa using e1) (by simpa using e2)
/-- items kept by a drawn test -/
theorem coll_keep (V : S → Prop) {h : α → D} : ∀ {xs : List α} {s : S}, V s → (∀ x ∈ xs, ∀ s, V s → Go (step (g x)) (fun ys s1 => (ys = [h x] ∨ ys = []) ∧ V s1) s) →
    ∃ (zs : List α) (s' : S), Coll step (xs.map g) s (zs.map h) s' ∧ zs.Sublist xs ∧ V s'
  | [], s, v, _ => ⟨[], s, ⟨rfl, rfl⟩, .slnil, v⟩
  | x :: xs, s, v, hh => by
    obtain ⟨a, s1, h1, hp, v1⟩ := hh x List.mem_cons_self s v
    obtain ⟨zs, s2, h2, h3, v2⟩ := coll_keep V v1 fun y hy => hh y (List.mem_cons_of_mem _ hy)
    rcases hp with rfl | rfl
    · exact ⟨x :: zs, s2, ⟨_, s1, _, h1, h2, rfl⟩, h3.cons_cons _, v2⟩
    · exact ⟨zs, s2, ⟨_, s1, _, h1, h2, rfl⟩, h3.cons _, v2⟩
end
/-! ### loops -/
section
variable {S α : Type} {De : DE S} {env : Env} {s : S} {w : DW S} {t : TP} {g : α → D}
/-- a loop over a mapped list, by the part behind -/
theorem for_map (I : List α → Env → S → Prop) : ∀ (post pre : List α) (env : Env) (s : S), I pre env s →
    (∀ pr x po env s, pre ++ post = pr ++ x :: po → I pr env s → ∃ env', t.put (g x) env = some env' ∧ ∀ De' : DE S, (∀ e z, I (pr ++ [x]) e z → De'.nx e z) → (∀ e z, I (pr ++ [x]) e z → De'.ct e z) → De'.bk = De.nx → De'.rt = De.rt → De'.ex = De.ex → w De' env' s) →
    (∀ env s, I (pre ++ post) env s → De.nx env s) → forL t w De (post.map g) env s
  | [], pre, env, s, h, _, he => he env s (by rw [List.append_nil]; exact h)
  | x :: po, pre, env, s, h, hs, he => by
    obtain ⟨env', h1, h2⟩ := hs pre x po env s rfl h
    have e : pre ++ x :: po = (pre ++ [x]) ++ po := by simp
    exact ⟨env', h1, h2 _ (fun e' z k => for_map I po (pre ++ [x]) e' z k (by rw [← e]; exact hs) (by rw [← e]; exact he)) (fun e' z k => for_map I po (pre ++ [x]) e' z k (by rw [← e]; exact hs) (by rw [← e]; exact he)) rfl rfl rfl⟩
theorem gf_map {xs : List α} (I : List α → Env → S → Prop) (h0 : I [] env s)
    (hs : ∀ pr x po env s, xs = pr ++ x :: po → I pr env s → ∃ env', t.put (g x) env = some env' ∧ ∀ De' : DE S, (∀ e z, I (pr ++ [x]) e z → De'.nx e z) → (∀ e z, I (pr ++ [x]) e z → De'.ct e z) → De'.bk = De.nx → De'.rt = De.rt → De'.ex = De.ex → w De' env' s)
    (he : ∀ env s, I xs env s → De.nx env s) : forL t w De (xs.map g) env s := for_map I xs [] env s h0 hs he
theorem gm {xs : List α} (I : List α → Env → S → Prop) (h0 : I [] env s)
    (hs : ∀ pr x po env s, xs = pr ++ x :: po → I pr env s → ∃ env', t.put (g x) env = some env' ∧ ∀ De' : DE S, (∀ e z, I (pr ++ [x]) e z → De'.nx e z) → w De' env' s)
    (he : ∀ env s, I xs env s → De.nx env s) : forL t w De (xs.map g) env s := gf_map I h0 (fun pr x po env s e h => let ⟨env', h1, h2⟩ := hs pr x po env s e h; ⟨env', h1, fun De' hn _ _ _ _ => h2 De' hn⟩) he
/-- a loop over 0 .. n-1 -/
theorem gf_rng {n : Nat} (I : Nat → Env → S → Prop) (h0 : I 0 env s)
    (hs : ∀ k env s, k < n → I k env s → ∃ env', t.put (.int k) env = some env' ∧ ∀ De' : DE S, (∀ e z, I (k + 1) e z → De'.nx e z) → (∀ e z, I (k + 1) e z → De'.ct e z) → De'.bk = De.nx → De'.rt = De.rt → De'.ex = De.ex → w De' env' s)
    (he : ∀ env s, I n env s → De.nx env s) : forL t w De ((List.range n).map fun i : Nat => D.int i) env s := by
  refine gf_map (fun pre env s => I pre.length env s) h0 (fun pr x po env s e h => ?_) fun env s h => he env s (by simpa using h)
  have hx : x = pr.length ∧ pr.length < n := by
    have h1 : (List.range n)[pr.length]? = some x := by rw [e]; simp
    have hl : pr.length < n := by
      have := congrArg List.length e
      simp at this
      omega
    rw [List.getElem?_range hl] at h1
    exact ⟨(Option.some.inj h1).symm, hl⟩
  obtain ⟨rfl, hl⟩ := hx
  obtain ⟨env', h1, h2⟩ := hs pr.length env s hl h
  refine ⟨env', h1, ?_⟩
  simp only [List.length_append, List.length_cons, List.length_nil]
  exact h2
end
section
variable {S α : Type} {De : DE S} {env : Env} {s : S} {w : DW S} {t : TP} {g : α → D}
/-- a loop over a list, by the place -/
theorem gi {xs : List α} (I : Nat → Env → S → Prop) (h0 : I 0 env s)
    (hs : ∀ k x env s, xs[k]? = some x → I k env s → ∃ env', t.put (g x) env = some env' ∧ ∀ De' : DE S, (∀ e z, I (k + 1) e z → De'.nx e z) → w De' env' s)
    (he : ∀ env s, I xs.length env s → De.nx env s) : forL t w De (xs.map g) env s := gm (fun pr env s => I pr.length env s) h0 (fun pr x po env s e h => by
      obtain ⟨env', h1, h2⟩ := hs pr.length x env s (by rw [e]; simp) h
      refine ⟨env', h1, ?_⟩
      simp only [List.length_append, List.length_cons, List.length_nil]
      exact h2) he
theorem enumD_map {α : Type} (f : α → D) (xs : List α) : enumD (xs.map f) = xs.zipIdx.map fun p => D.tup [.int (p.2 : Nat), f p.1] := by
  apply List.ext_getElem?
  intro i
  by_cases h : i < xs.length
  · rw [enumD_get (d := f xs[i]) (by simp [h])]
    simp [h]
  · rw [List.getElem?_eq_none (by rw [enumD_len]; simp; omega), List.getElem?_eq_none (by simp; omega)]
/-- .. over its enumeration -/
theorem ge {xs : List α} (I : Nat → Env → S → Prop) (h0 : I 0 env s)
    (hs : ∀ k x env s, xs[k]? = some x → I k env s → ∃ env', t.put (.tup [.int (k : Nat), g x]) env = some env' ∧ ∀ De' : DE S, (∀ e z, I (k + 1) e z → De'.nx e z) → w De' env' s)
    (he : ∀ env s, I xs.length env s → De.nx env s) : forL t w De (enumD (xs.map g)) env s := by
  rw [enumD_map]
  refine gi I h0 (fun k x env s e h => ?_) (by simpa using he)
  have h1 : xs.zipIdx[k]? = some x := e
  rw [List.getElem?_zipIdx] at h1
  obtain ⟨y, h2, h3⟩ := Option.map_eq_some_iff.mp h1
  subst h3
  have := hs k y env s h2 h
  simpa using this
end
section
variable {S : Type} {De : DE S} {env : Env} {s : S} {w : DW S} {t : TP}
theorem gr {n : Nat} (I : Nat → Env → S → Prop) (h0 : I 0 env s)
    (hs : ∀ k env s, k < n → I k env s → ∃ env', t.put (.int k) env = some env' ∧ ∀ De' : DE S, (∀ e z, I (k + 1) e z → De'.nx e z) → w De' env' s)
    (he : ∀ env s, I n env s → De.nx env s) : forL t w De ((List.range n).map fun i : Nat => D.int i) env s := gf_rng I h0 (fun k env s hk h => let ⟨env', h1, h2⟩ := hs k env s hk h; ⟨env', h1, fun De' hn _ _ _ _ => h2 De' hn⟩) he
end
/-! ### operators on known data -/
section
variable {Q : D → Prop} {Ql : List D → Prop} {Qf : OD → Prop} {i j : Int} {ds es : List D} {d e : D} {b c : Bool}
theorem rngD_zero (n : Nat) : rngD 0 n = (List.range n).map fun i : Nat => D.int i := by
  unfold rngD
  simp
theorem ex_R1 : (∃ z, itR1 [.int i] = some z ∧ Ql z) ↔ (-(2 ^ 62) ≤ i ∧ i < 2 ^ 62) ∧ Ql ((List.range i.toNat).map fun i : Nat => D.int i) := by
  show (∃ z, (if -(2 ^ 62) ≤ i ∧ i < 2 ^ 62 then some (rngD 0 i.toNat) else none) = some z ∧ Ql z) ↔ _
  rw [rngD_zero]
  by_cases h : -(2 ^ 62) ≤ i ∧ i < 2 ^ 62
  · rw [if_pos h]; simp only [Option.some.injEq, exists_eq_left', h, and_self, true_and]
  · rw [if_neg h]; simp only [reduceCtorEq, false_and, exists_false, h]
theorem ex_R2 : (∃ z, itR2 [.int i, .int j] = some z ∧ Ql z) ↔ (-(2 ^ 62) ≤ i ∧ i < 2 ^ 62 ∧ -(2 ^ 62) ≤ j ∧ j < 2 ^ 62) ∧ Ql ((List.range (j - i).toNat).map fun k : Nat => D.int (i + (k : Int))) := by
  show (∃ z, (if -(2 ^ 62) ≤ i ∧ i < 2 ^ 62 ∧ -(2 ^ 62) ≤ j ∧ j < 2 ^ 62 then some (rngD i (j - i).toNat) else none) = some z ∧ Ql z) ↔ _
  by_cases h : -(2 ^ 62) ≤ i ∧ i < 2 ^ 62 ∧ -(2 ^ 62) ≤ j ∧ j < 2 ^ 62
  · rw [if_pos h]; simp only [Option.some.injEq, exists_eq_left', h, and_self, true_and, rngD]
  · rw [if_neg h]; simp only [reduceCtorEq, false_and, exists_false, h]
theorem ex_itL : (∃ z, itemsD (.lst ds) = some z ∧ Ql z) ↔ Ql ds := by simp [itemsD]
theorem ex_itT : (∃ z, itemsD (.tup ds) = some z ∧ Ql z) ↔ Ql ds := by simp [itemsD]
theorem ex_itF : (∃ z, itemsD (.frl ds) = some z ∧ Ql z) ↔ Ql ds := by simp [itemsD]
theorem ex_revL : (∃ z, (itemsD (.lst ds)).map List.reverse = some z ∧ Ql z) ↔ Ql ds.reverse := by simp [itemsD]
theorem ex_revT : (∃ z, (itemsD (.tup ds)).map List.reverse = some z ∧ Ql z) ↔ Ql ds.reverse := by simp [itemsD]
theorem ex_enL : (∃ z, itEnum [.lst ds] = some z ∧ Ql z) ↔ Ql (enumD ds) := by simp [itEnum, itemsD]
theorem ex_enT : (∃ z, itEnum [.tup ds] = some z ∧ Ql z) ↔ Ql (enumD ds) := by simp [itEnum, itemsD]
theorem ex_zTL : (∃ z, itZip [.tup ds, .lst es] = some z ∧ Ql z) ↔ Ql (zipD ds es) := by simp [itZip, itemsD]
theorem ex_zTT : (∃ z, itZip [.tup ds, .tup es] = some z ∧ Ql z) ↔ Ql (zipD ds es) := by simp [itZip, itemsD]
theorem ex_zLT : (∃ z, itZip [.lst ds, .tup es] = some z ∧ Ql z) ↔ Ql (zipD ds es) := by simp [itZip, itemsD]
theorem ex_zLL : (∃ z, itZip [.lst ds, .lst es] = some z ∧ Ql z) ↔ Ql (zipD ds es) := by simp [itZip, itemsD]
theorem zipD_map {α β : Type} (f : α → D) (g : β → D) (xs : List α) (ys : List β) : zipD (xs.map f) (ys.map g) = (xs.zip ys).map fun p => D.tup [f p.1, g p.2] := by
  apply List.ext_getElem?
  intro i
  by_cases h : i < xs.length ∧ i < ys.length
  · rw [zipD_get (d := f xs[i]) (e := g ys[i]) (by simp [h.1]) (by simp [h.2])]
    have e : (xs.zip ys)[i]? = some (xs[i], ys[i]) := List.getElem?_zip_eq_some.mpr ⟨by simp [h.1], by simp [h.2]⟩
    rw [List.getElem?_map, e]
    rfl
  · rw [List.getElem?_eq_none (by rw [zipD_len]; simp; omega), List.getElem?_eq_none (by simp; omega)]
theorem zipD_same {α : Type} (f g : α → D) (xs : List α) : zipD (xs.map f) (xs.map g) = xs.map fun x => D.tup [f x, g x] := by
  rw [zipD_map]
  apply List.ext_getElem?
  intro i
  by_cases h : i < xs.length
  · have e : (xs.zip xs)[i]? = some (xs[i], xs[i]) := List.getElem?_zip_eq_some.mpr ⟨by simp [h], by simp [h]⟩
    rw [List.getElem?_map, e, List.getElem?_map, List.getElem?_eq_getElem h]
    rfl
  · rw [List.getElem?_eq_none (by simp; omega), List.getElem?_eq_none (by simp; omega)]
theorem ex_ltT {a b c d : Int} : (∃ z, dLtT (.tup [.int a, .int b]) (.tup [.int c, .int d]) = some z ∧ Q z) ↔ Q (.bl (HT.lexLt [a, b] [c, d])) := by
  have e : dLtT (.tup [.int a, .int b]) (.tup [.int c, .int d]) = some (.bl (HT.lexLt [a, b] [c, d])) := rfl
  simp only [e, Option.some.injEq, exists_eq_left']
theorem ex_lenL : (∃ z, dLen [.lst ds] = some z ∧ Q z) ↔ Q (.int ds.length) := by simp [dLen, itemsD]
theorem ex_lenT : (∃ z, dLen [.tup ds] = some z ∧ Q z) ↔ Q (.int ds.length) := by simp [dLen, itemsD]
theorem ex_tupL : (∃ z, dTuple [.lst ds] = some z ∧ Q z) ↔ Q (.tup ds) := by simp [dTuple, itemsD]
theorem ex_tupT : (∃ z, dTuple [.tup ds] = some z ∧ Q z) ↔ Q (.tup ds) := by simp [dTuple, itemsD]
theorem ex_lisL : (∃ z, dList [.lst ds] = some z ∧ Qf z) ↔ Qf (.lst ds) := by simp [dList, itemsD]
theorem ex_lisT : (∃ z, dList [.tup ds] = some z ∧ Qf z) ↔ Qf (.lst ds) := by simp [dList, itemsD]
theorem ex_lstD : (∃ z, lstD (.lst ds) = some z ∧ Ql z) ↔ Ql ds := by simp [lstD]
theorem ex_lstF : (∃ z, lstD (.frl ds) = some z ∧ Ql z) ↔ Ql ds := by simp [lstD]
theorem ex_int1 : (∃ z, dInt1 [.int i] = some z ∧ Q z) ↔ Q (.int i) := by simp [dInt1]
theorem ex_abs : (∃ z, dAbs [.int i] = some z ∧ Q z) ↔ Q (.int (if i < 0 then -i else i)) := by simp [dAbs]
theorem ex_neg : (∃ z, dNeg (.int i) = some z ∧ Q z) ↔ Q (.int (-i)) := by simp [dNeg]
theorem ex_bl {Q : Bool → Prop} : (∃ c, D.bl b = .bl c ∧ Q c) ↔ Q b := by simp
theorem ex_int {Q : Int → Prop} : (∃ c, D.int i = .int c ∧ Q c) ↔ Q i := by simp
theorem ex_someI {Q : Option Int → Prop} : (∃ c, D.int i = .int c ∧ Q (some c)) ↔ Q (some i) := by simp
theorem ex_ixL : (∃ z, dIx (.lst ds) (.int i) = some z ∧ Q z) ↔ ∃ z, atI ds i = some z ∧ Q z := by simp [dIx, itemsD]
theorem ex_ixT : (∃ z, dIx (.tup ds) (.int i) = some z ∧ Q z) ↔ ∃ z, atI ds i = some z ∧ Q z := by simp [dIx, itemsD]
theorem ex_slL {lo hi : Option Int} : (∃ z, dSl (.lst ds) lo hi = some z ∧ Q z) ↔ Q (.lst (cutD ds lo hi)) := by simp [dSl]
theorem ex_slT {lo hi : Option Int} : (∃ z, dSl (.tup ds) lo hi = some z ∧ Q z) ↔ Q (.tup (cutD ds lo hi)) := by simp [dSl]
theorem ex_slF {lo hi : Option Int} : (∃ z, dSl (.frl ds) lo hi = some z ∧ Q z) ↔ Q (.lst (cutD ds lo hi)) := by simp [dSl]
theorem cut_to {α : Type} {f : α → D} {xs : List α} {k : Int} (h : 0 ≤ k) : cutD (xs.map f) none (some k) = (xs.take k.toNat).map f := by
  unfold cutD
  obtain ⟨j, rfl⟩ := Int.eq_ofNat_of_zero_le h
  rw [HT.sIx_nat, HT.sIx_none, List.drop_zero, List.map_take]
  simp only [Int.toNat_natCast, Nat.sub_zero, List.length_map]
  by_cases c : j ≤ xs.length
  · rw [Nat.min_eq_left c]
  · rw [Nat.min_eq_right (by omega), List.take_of_length_le (by simp), List.take_of_length_le (by simp; omega)]
theorem cut_from {α : Type} {f : α → D} {xs : List α} {k : Int} (h : 0 ≤ k) : cutD (xs.map f) (some k) none = (xs.drop k.toNat).map f := by
  unfold cutD
  obtain ⟨j, rfl⟩ := Int.eq_ofNat_of_zero_le h
  rw [HT.sIx_nat, HT.sIx_none, List.map_drop]
  simp only [Int.toNat_natCast, List.length_map]
  by_cases c : j ≤ xs.length
  · rw [Nat.min_eq_left c, List.take_of_length_le (by simp)]
  · rw [Nat.min_eq_right (by omega), List.drop_eq_nil_of_le (by simp), List.drop_eq_nil_of_le (by simp; omega)]; simp
theorem cut_both {α : Type} {f : α → D} {xs : List α} {i k : Int} (h : 0 ≤ i) (hk : 0 ≤ k) : cutD (xs.map f) (some i) (some k) = ((xs.drop i.toNat).take (k.toNat - i.toNat)).map f := by
  unfold cutD
  obtain ⟨j, rfl⟩ := Int.eq_ofNat_of_zero_le h
  obtain ⟨l, rfl⟩ := Int.eq_ofNat_of_zero_le hk
  rw [HT.sIx_nat, HT.sIx_nat, List.map_take, List.map_drop]
  simp only [Int.toNat_natCast, List.length_map]
  by_cases c : j ≤ xs.length
  · rw [Nat.min_eq_left c]
    by_cases c2 : l ≤ xs.length
    · rw [Nat.min_eq_left c2]
    · rw [Nat.min_eq_right (by omega), List.take_of_length_le (by simp), List.take_of_length_le (by simp; omega)]
  · have h1 : xs.length ≤ j := by omega
    rw [Nat.min_eq_right h1, List.drop_eq_nil_of_le (by simp), List.drop_eq_nil_of_le (by simp; omega)]; simp
theorem ex_addL : (∃ z, dAdd (.lst ds) (.lst es) = some z ∧ Q z) ↔ ds.length + es.length ≤ sizeLine ∧ Q (.lst (ds ++ es)) := by
  show (∃ z, ((none : Option D).or (catD (.lst ds) (.lst es))) = some z ∧ Q z) ↔ _
  simp only [catD, Option.none_or]
  by_cases h : ds.length + es.length ≤ sizeLine
  · simp [h]
  · simp [h]
theorem ex_addT : (∃ z, dAdd (.tup ds) (.tup es) = some z ∧ Q z) ↔ ds.length + es.length ≤ sizeLine ∧ Q (.tup (ds ++ es)) := by
  show (∃ z, ((none : Option D).or (catD (.tup ds) (.tup es))) = some z ∧ Q z) ↔ _
  simp only [catD, Option.none_or]
  by_cases h : ds.length + es.length ≤ sizeLine
  · simp [h]
  · simp [h]
theorem ex_isN : (∃ z, dIsN d .non = some z ∧ Q z) ↔ Q (.bl (isNonD d)) := by simp [dIsN]
theorem ex_notN : (∃ z, dNotN d .non = some z ∧ Q z) ↔ Q (.bl (!isNonD d)) := by simp [dNotN]
theorem atI_get {α : Type} {xs : List α} {i : Int} {x : α} (h0 : 0 ≤ i) (h : xs[i.toNat]? = some x) : atI xs i = some x := by
  have hl := (List.getElem?_eq_some_iff.mp h).1
  unfold atI ixN
  rw [if_pos h0, if_pos (by omega)]
  exact h
theorem at_nat {α : Type} {xs : List α} {i : Nat} {x : α} (h : xs[i]? = some x) : atI xs (i : Int) = some x := atI_get (by omega) (by simpa using h)
theorem ex_at {α : Type} {f : α → D} {xs : List α} {x : α} (h0 : 0 ≤ i) (h : xs[i.toNat]? = some x) (q : Q (f x)) : ∃ z, atI (xs.map f) i = some z ∧ Q z := ⟨_, atI_get h0 (by rw [List.getElem?_map, h]; rfl), q⟩
theorem ex_sum {ns : List Int} : (∃ z, dSum [.lst (ns.map D.int)] = some z ∧ Q z) ↔ Q (.int ns.sum) := by simp [dSum, lstD, dInts_map]
theorem ex_inI {ns : List Int} {neg : Bool} : (∃ z, dIn neg (.int i) (.lst (ns.map D.int)) = some z ∧ Q z) ↔ Q (.bl (if neg then !decide (i ∈ ns) else decide (i ∈ ns))) := by
  have e1 : (ns.map D.int).all flatD = true := by simp [flatD]
  have e2 : ((ns.map D.int).any fun z => eqD z (.int i)) = decide (i ∈ ns) := by
    induction ns with
    | nil => simp
    | cons n ns ih =>
      have ih := ih (by simp [flatD])
      rw [List.map_cons, List.any_cons, ih]
      by_cases h : n = i
      · subst h; simp [eqD]
      · simp [eqD, h, Ne.symm h]
  simp only [dIn, itemsD, e1, e2, flatD, true_and, if_true, Option.some.injEq, exists_eq_left']
theorem ex_inIT {ns : List Int} {neg : Bool} : (∃ z, dIn neg (.int i) (.tup (ns.map D.int)) = some z ∧ Q z) ↔ Q (.bl (if neg then !decide (i ∈ ns) else decide (i ∈ ns))) := ex_inI
theorem ex_fld {C : Addr} {f : Str} {ns : List Str} : (∃ z, fldD C f (.ins C ns ds) = some z ∧ Q z) ↔ ∃ z, lookD ns ds f = some z ∧ Q z := by simp [fldD]
end

/-! ### ends, classes -/
theorem isNon_non : isNonD .non = true := rfl
theorem isNon_tup {ds : List D} : isNonD (.tup ds) = false := rfl
theorem isNon_lst {ds : List D} : isNonD (.lst ds) = false := rfl
theorem isNon_int {i : Int} : isNonD (.int i) = false := rfl
theorem isNon_str {i : Str} : isNonD (.str i) = false := rfl
theorem isNon_bl {i : Bool} : isNonD (.bl i) = false := rfl
theorem put_nm {i : Nat} {d : D} {env : Env} : (TP.nm i).put d env = some (env.set i (.fz d)) := by simp only [TP.put]
theorem put_tpT {ts : List TP} {ds : List D} {env : Env} : (TP.tp ts).put (.tup ds) env = TP.puts ts ds env := by simp only [TP.put]
theorem put_tpL {ts : List TP} {ds : List D} {env : Env} : (TP.tp ts).put (.lst ds) env = TP.puts ts ds env := by simp only [TP.put]
theorem puts_nil {env : Env} : TP.puts [] [] env = some env := by simp only [TP.puts]
theorem puts_cons {t : TP} {ts : List TP} {d : D} {ds : List D} {env : Env} : TP.puts (t :: ts) (d :: ds) env = (t.put d env).bind fun e => TP.puts ts ds e := by simp only [TP.puts]

theorem at_last {α : Type} {xs : List α} (h : xs ≠ []) : atI xs (-1) = some (xs.getLast h) := by
  have hl : 0 < xs.length := List.length_pos_iff.mpr h
  unfold atI ixN
  rw [if_neg (by omega), if_pos (by omega)]
  have e : (-1 + (xs.length : Int)).toNat = xs.length - 1 := by omega
  simp only [Option.bind_some, e]
  rw [List.getLast_eq_getElem, List.getElem?_eq_getElem (by omega)]
theorem ex_neNil {ds : List D} {Q : D → Prop} (hp : Pln (.lst ds)) : (∃ z, dNe (.lst ds) (.lst []) = some z ∧ Q z) ↔ Q (.bl (!decide (ds = []))) := by
  have e : Pln (.lst []) := by decide
  have h : deq (.lst ds) (.lst []) = decide (ds = []) := by
    cases ds with
    | nil => rfl
    | cons _ _ => rfl
  simp only [dNe, hp, e, and_self, if_true, Option.some.injEq, exists_eq_left', h]
theorem perm_eraseIdx {α : Type} : ∀ (l : List α) (k : Nat) (h : k < l.length), (l[k] :: l.eraseIdx k).Perm l
  | a :: l, 0, h => .refl _
  | a :: l, k + 1, h => by
    have ih := perm_eraseIdx l k (by simpa using h)
    exact (List.Perm.swap ..).trans (List.Perm.cons a ih)
theorem map_eraseIdx {α β : Type} (f : α → β) : ∀ (l : List α) (k : Nat), (l.map f).eraseIdx k = (l.eraseIdx k).map f
  | [], _ => rfl
  | a :: l, 0 => rfl
  | a :: l, k + 1 => by simp [map_eraseIdx f l k]
theorem pln_str {x : Str} (h : PyData.strOk x = true) : Pln (.str x) := by unfold Pln; simp [toPy, SeqAt.shaped, PyData.canLay0, PyData.depth, h]
theorem ex_eqS {x y : Str} {Q : D → Prop} (hx : PyData.strOk x = true) (hy : PyData.strOk y = true) : (∃ z, dEq (.str x) (.str y) = some z ∧ Q z) ↔ Q (.bl (x == y)) := by
  simp only [dEq, pln_str hx, pln_str hy, and_self, if_true, Option.some.injEq, exists_eq_left']
  rfl
theorem min_some {n : Int} {ns : List Int} : dMin [.lst ((n :: ns).map D.int)] = some (.int (minL n ns)) := by simp only [dMin, lstD, Option.bind_some, dInts_map]
theorem ex_min {n : Int} {ns : List Int} {Q : D → Prop} : (∃ z, dMin [.lst ((n :: ns).map D.int)] = some z ∧ Q z) ↔ Q (.int (minL n ns)) := by
  simp only [dMin, lstD, Option.bind_some, dInts_map, Option.some.injEq, exists_eq_left']
theorem dEnd_rt {o : Oc D} {d : D} {s : Unit} : (dEnd o).rt d s ↔ o = .ok d := Iff.rfl
theorem gEnd_rt {S : Type} {o : Oc D} {d : D} {s s' : S} : (gEnd o s').rt d s ↔ o = .ok d ∧ s = s' := Iff.rfl
theorem onI_bl {f : Int → Int → Bool} {i j : Int} {b : Bool} : onI (fun _ _ => true) (fun i j => D.bl (f i j)) (.int i) (.int j) = some (.bl b) ↔ f i j = b := by
  show (if true = true then some (D.bl (f i j)) else none) = some (.bl b) ↔ _
  simp
theorem mulC_iff {i j : Int} : mulC i j = true ↔ (-(2 ^ 64) < i ∧ i < 2 ^ 64) ∨ (-(2 ^ 64) < j ∧ j < 2 ^ 64) := by simp [mulC]
theorem rtE_rt {S : Type} {P : D → S → Prop} {d : D} {s : S} : (rtE P).rt d s ↔ P d s := Iff.rfl
theorem dEnd_nx {o : Oc D} {e : Env} {s : Unit} : (dEnd o).nx e s ↔ o = .ok .non := Iff.rfl
theorem gEnd_nx {S : Type} {o : Oc D} {e : Env} {s s' : S} : (gEnd o s').nx e s ↔ o = .ok .non ∧ s = s' := Iff.rfl
theorem or_ite1 {p A B : Prop} [Decidable p] : (¬ p ∧ A ∨ p ∧ B) ↔ if p then B else A := by by_cases h : p <;> simp [h]
theorem or_ite2 {p A B : Prop} [Decidable p] : (p ∧ A ∨ ¬ p ∧ B) ↔ if p then A else B := by by_cases h : p <;> simp [h]
theorem or_ite3 {p : Bool} {A B : Prop} : (p = false ∧ A ∨ p = true ∧ B) ↔ if p = true then B else A := by cases p <;> simp
theorem or_ite4 {p : Bool} {A B : Prop} : (p = true ∧ A ∨ p = false ∧ B) ↔ if p = true then A else B := by cases p <;> simp
theorem isi_ii {i : Int} : dIsi [.int i, .ty "int"] = some (.bl true) := by
  show (kitB "int" "int").map D.bl = _
  rw [show kitB "int" "int" = some true by decide +kernel]
  rfl
theorem isi_ib {i : Int} : dIsi [.int i, .ty "bool"] = some (.bl false) := by
  show (kitB "int" "bool").map D.bl = _
  rw [show kitB "int" "bool" = some false by decide +kernel]
  rfl
theorem isi_tt {ds : List D} : dIsi [.tup ds, .ty "tuple"] = some (.bl true) := by
  show (kitB "tuple" "tuple").map D.bl = _
  rw [show kitB "tuple" "tuple" = some true by decide +kernel]
  rfl
theorem isi_Llt {ds : List D} : dIsi [.lst ds, .tup [.ty "list", .ty "tuple"]] = some (.bl true) := by
  show (kitBs "list" ["list", "tuple"]).map D.bl = _
  rw [show kitBs "list" ["list", "tuple"] = some true by decide +kernel]
  rfl
theorem isi_Tlt {ds : List D} : dIsi [.tup ds, .tup [.ty "list", .ty "tuple"]] = some (.bl true) := by
  show (kitBs "tuple" ["list", "tuple"]).map D.bl = _
  rw [show kitBs "tuple" ["list", "tuple"] = some true by decide +kernel]
  rfl
/-! ### one end, further statements -/
section
variable {S : Type} {w w1 w2 : DW S} {R Ri : Env → DM S D} {Rf : Env → DM S OD} {i j : Nat}
theorem ones_ext : Ones (wExt i Rf) := fun De env s ⟨ds, hi, h⟩ => by
  obtain ⟨x, q1, q2⟩ := ones_run (k := fun De (w : OD) s1 => ∃ es, w = .lst es ∧ ds.length + es.length ≤ sizeLine ∧ De.nx (env.set i (.ow (.lst (ds ++ es)))) s1) (fun De a s1 ⟨es, e1, e2, k⟩ => ⟨.nx _ s1, k, fun _ y => ⟨es, e1, e2, y⟩⟩) h
  exact ⟨x, q1, fun De' y => ⟨ds, hi, q2 De' y⟩⟩
theorem ones_appPop : Ones (wAppPop i j R) := fun De env s ⟨ds, es, h1, h2, h3, h4, h⟩ => by
  obtain ⟨x, q1, q2⟩ := ones_run (k := fun De (d : D) s1 => ∃ n k y, d = .int n ∧ -(2 ^ 63) ≤ n ∧ n < 2 ^ 63 ∧ seqIndex? n es.length = some k ∧ es[k]? = some y ∧ De.nx ((env.set j (.ow (.lst (es.eraseIdx k)))).set i (.ow (.lst (ds ++ [y])))) s1)
    (fun De a s1 ⟨n, k, y, e1, e2, e3, e4, e5, kk⟩ => ⟨.nx _ s1, kk, fun _ z => ⟨n, k, y, e1, e2, e3, e4, e5, z⟩⟩) h
  exact ⟨x, q1, fun De' y => ⟨ds, es, h1, h2, h3, h4, q2 De' y⟩⟩
theorem ones_put : Ones (wPut i Ri R) := fun De env s h => ones_run (k := fun De (d : D) s1 => ∃ ds, env[i]? = some (.ow (.lst ds)) ∧ run (Ri env) De env (fun k s2 => ∃ n j, k = .int n ∧ ixN ds.length n = some j ∧ De.nx (env.set i (.ow (.lst (ds.set j d)))) s2) s1) (fun De d s1 ⟨ds, hi, h⟩ => by
    obtain ⟨x, q1, q2⟩ := ones_run (k := fun De (k : D) s2 => ∃ n j, k = .int n ∧ ixN ds.length n = some j ∧ De.nx (env.set i (.ow (.lst (ds.set j d)))) s2) (fun De a s1 ⟨n, j, e1, e2, k⟩ => ⟨.nx _ s1, k, fun _ y => ⟨n, j, e1, e2, y⟩⟩) h
    exact ⟨x, q1, fun De' y => ⟨ds, hi, q2 De' y⟩⟩) h
theorem ones_dput : Ones (wDPut i Ri R) := fun De env s h => ones_run (k := fun De (d : D) s1 => ∃ w, env[i]? = some (.ow w) ∧ run (Ri env) De env (fun k s2 => ∃ w', odPut w k d = some w' ∧ odSize w < sizeLine ∧ De.nx (env.set i (.ow w')) s2) s1) (fun De d s1 ⟨w, hi, h⟩ => by
    obtain ⟨x, q1, q2⟩ := ones_run (k := fun De (k : D) s2 => ∃ w', odPut w k d = some w' ∧ odSize w < sizeLine ∧ De.nx (env.set i (.ow w')) s2) (fun De a s1 ⟨w', e1, e2, k⟩ => ⟨.nx _ s1, k, fun _ y => ⟨w', e1, e2, y⟩⟩) h
    exact ⟨x, q1, fun De' y => ⟨w, hi, q2 De' y⟩⟩) h
theorem gw_appPop {De : DE S} {env : Env} {s : S} {ds es : List D} (hij : i ≠ j) (h1 : env[i]? = some (.ow (.lst ds))) (h2 : env[j]? = some (.ow (.lst es))) (hz : ds.length < sizeLine)
    (h : Go (R env) (fun d s1 => ∃ n k y, d = .int n ∧ -(2 ^ 63) ≤ n ∧ n < 2 ^ 63 ∧ seqIndex? n es.length = some k ∧ es[k]? = some y ∧ De.nx ((env.set j (.ow (.lst (es.eraseIdx k)))).set i (.ow (.lst (ds ++ [y])))) s1) s) : wAppPop i j R De env s := ⟨ds, es, hij, h1, h2, hz, go_run h⟩
theorem seqIndex_get {n : Int} {k : Nat} (h : n = k) {l : Nat} (hl : k < l) : seqIndex? n l = some k := by
  subst h
  have e1 : ¬ ((k : Int) < 0) := by omega
  simp only [seqIndex?, if_neg e1]
  rw [if_pos (by simp; omega)]
  simp
end
end Pl
/-! The pure layer, part 25: boards as data. -/
namespace Pl
open PySem PySem.Spec PyProof.Rows L2
/-- a board's datum -/
def bdS (m n : Nat) (ms : List Int) : List (Str × D) := [("many", .int m), ("sizes", .tup ((List.replicate n (m : Int)).map .int)), ("marks", .tup (ms.map .int)), ("steps", .tup (((List.range n).map fun i => ((m ^ (n - 1 - i) : Nat) : Int)).map .int))]
def bdD (C : Addr) (m n : Nat) (ms : List Int) : D := .ins C ((bdS m n ms).map (·.1)) ((bdS m n ms).map (·.2))
theorem fld_many {C : Addr} {m n : Nat} {ms : List Int} {Q : D → Prop} : (∃ z, fldD C "many" (bdD C m n ms) = some z ∧ Q z) ↔ Q (.int m) := by
  rw [show fldD C "many" (bdD C m n ms) = some (.int m) from if_pos rfl]; simp
theorem fld_sizes {C : Addr} {m n : Nat} {ms : List Int} {Q : D → Prop} : (∃ z, fldD C "sizes" (bdD C m n ms) = some z ∧ Q z) ↔ Q (.tup ((List.replicate n (m : Int)).map .int)) := by
  rw [show fldD C "sizes" (bdD C m n ms) = some (.tup ((List.replicate n (m : Int)).map .int)) from if_pos rfl]; simp
theorem fld_marks {C : Addr} {m n : Nat} {ms : List Int} {Q : D → Prop} : (∃ z, fldD C "marks" (bdD C m n ms) = some z ∧ Q z) ↔ Q (.tup (ms.map .int)) := by
  rw [show fldD C "marks" (bdD C m n ms) = some (.tup (ms.map .int)) from if_pos rfl]; simp
theorem fld_steps {C : Addr} {m n : Nat} {ms : List Int} {Q : D → Prop} : (∃ z, fldD C "steps" (bdD C m n ms) = some z ∧ Q z) ↔ Q (.tup (((List.range n).map fun i => ((m ^ (n - 1 - i) : Nat) : Int)).map .int)) := by
  rw [show fldD C "steps" (bdD C m n ms) = some (.tup (((List.range n).map fun i => ((m ^ (n - 1 - i) : Nat) : Int)).map .int)) from if_pos rfl]; simp
theorem ins_bd {C : Addr} {m n : Nat} {ms : List Int} : insOf C (bdD C m n ms) := rfl
theorem rep_one {α : Type} (x : α) : ∀ n : Nat, (List.replicate n [x]).flatten = List.replicate n x
  | 0 => rfl
  | n + 1 => by rw [List.replicate_succ, List.replicate_succ, List.flatten_cons, rep_one x n]; rfl
theorem mk_bd {C : Addr} {m n : Nat} {ms : List Int} : D.ins C ((bdS m n ms).map (·.1)) ((bdS m n ms).map (·.2)) = bdD C m n ms := rfl
theorem ex_neL {ns ms : List Int} {Q : D → Prop} : (∃ z, dNe (.lst (ns.map D.int)) (.lst (ms.map D.int)) = some z ∧ Q z) ↔ Q (.bl (!decide (ns = ms))) := by rw [dNe_lis]; simp
theorem ex_neT {ns ms : List Int} {Q : D → Prop} : (∃ z, dNe (.tup (ns.map D.int)) (.tup (ms.map D.int)) = some z ∧ Q z) ↔ Q (.bl (!decide (ns = ms))) := by rw [dNe_tup]; simp
theorem ex_neL1 {ns : List Int} {x : Int} {Q : D → Prop} : (∃ z, dNe (.lst (ns.map D.int)) (.lst [.int x]) = some z ∧ Q z) ↔ Q (.bl (!decide (ns = [x]))) := ex_neL (ms := [x])
theorem ex_neL11 {a b : Int} {Q : D → Prop} : (∃ z, dNe (.lst [.int a]) (.lst [.int b]) = some z ∧ Q z) ↔ Q (.bl (!decide (a = b))) := by
  have := ex_neL (ns := [a]) (ms := [b]) (Q := Q)
  simpa using this
end Pl
/-! The pure layer, part 28: further rules for runs. -/
namespace Pl
open PySem PySem.Spec PyProof.Rows L2

section
variable {S : Type} {s : S} {env : Env} {De : DE S} {Rl : Env → DM S (List D)} {R : Env → DM S D} {Q : D → S → Prop}
theorem go_idx : Go (eIdx Rl R env) Q s ↔ Go (Rl env) (fun ds s1 => Go (R env) (fun y s2 => ∃ z, idxD ds y = some z ∧ Q z s2) s1) s := by simp only [eIdx, go_bind, go_lift]
end
theorem toPy_tups (xs : List (List Int)) : toPys (xs.map fun s => D.tup (s.map .int)) = xs.map fun s => PyData.tuple (s.map PyData.int) := by
  rw [toPys_map, List.map_map]
  refine List.map_congr_left fun s _ => ?_
  simp only [Function.comp_apply, toPy, toPys_ints]
theorem canLay_tups : ∀ xs : List (List Int), PyData.canLayAll0 (xs.map fun s => PyData.tuple (s.map PyData.int)) = true
  | [] => rfl
  | x :: xs => by
    show (PyData.canLay0 (PyData.tuple (x.map PyData.int)) && PyData.canLayAll0 (xs.map fun s => PyData.tuple (s.map PyData.int))) = true
    rw [canLay_tups xs]
    simp only [PyData.canLay0, canLay_ints, Bool.and_self]
theorem depth_tups : ∀ xs : List (List Int), PyData.depthAll (xs.map fun s => PyData.tuple (s.map PyData.int)) ≤ 3
  | [] => by simp [PyData.depthAll]
  | x :: xs => by
    have := depth_tups xs
    have h2 := depth_ints x
    simp only [List.map_cons, PyData.depthAll, PyData.depth]
    omega
theorem pln_tups (xs : List (List Int)) : Pln (.lst (xs.map fun s => D.tup (s.map .int))) := by
  unfold Pln toPy
  rw [toPy_tups]
  have := depth_tups xs
  have h2 : PyData.depthAll (xs.map fun s => PyData.tuple (s.map PyData.int)) + 1 ≤ 64 := by omega
  unfold SeqAt.shaped
  rw [Bool.and_eq_true]
  refine ⟨?_, ?_⟩
  · simp only [PyData.canLay0, canLay_tups]
  · simp only [PyData.depth, decide_eq_true_eq]
    exact decide_eq_true h2
theorem deq_tup (s t : List Int) : deq (.tup (s.map .int)) (.tup (t.map .int)) = decide (s = t) := by
  simp only [deq, toPy, toPys_ints, PyData.eqv, eqv_ints]
theorem ex_inTups {xs : List (List Int)} {t : List Int} {Q : D → Prop} : (∃ z, dInD false (.tup (t.map .int)) (.lst (xs.map fun s => D.tup (s.map .int))) = some z ∧ Q z) ↔ Q (.bl (decide (t ∈ xs))) := by
  have e : dInD false (.tup (t.map .int)) (.lst (xs.map fun s => D.tup (s.map .int))) = some (.bl (decide (t ∈ xs))) := by
    unfold dInD
    simp only [lstD, pln_tup, pln_tups, and_self, if_true, List.any_map, Option.some.injEq, D.bl.injEq]
    rw [bne_false_eq]
    rw [Bool.eq_iff_iff, List.any_eq_true, decide_eq_true_eq]
    constructor
    · rintro ⟨s, hs, h⟩
      have h : deq (.tup (s.map .int)) (.tup (t.map .int)) = true := h
      rw [deq_tup, decide_eq_true_eq] at h
      exact h ▸ hs
    · intro h
      exact ⟨t, h, by show deq (.tup (t.map .int)) (.tup (t.map .int)) = true; rw [deq_tup]; simp⟩
  rw [e]
  simp
where bne_false_eq {b : Bool} : (b != false) = b := by cases b <;> rfl
theorem idx_tups {xs : List (List Int)} {t : List Int} {k : Nat} (h : xs[k]? = some t) (hn : xs.Nodup) : idxD (xs.map fun s => D.tup (s.map .int)) (.tup (t.map .int)) = some (.int k) := by
  unfold idxD
  rw [if_pos ⟨pln_tup t, pln_tups xs⟩]
  obtain ⟨hk, h⟩ := List.getElem?_eq_some_iff.mp h
  have e : (xs.map fun s => D.tup (s.map .int)).findIdx? (fun z => deq z (.tup (t.map .int))) = some k := by
    rw [List.findIdx?_eq_some_iff_getElem]
    refine ⟨by simpa using hk, ?_, fun j hj => ?_⟩
    · rw [List.getElem_map, deq_tup, h]; simp
    · rw [List.getElem_map, deq_tup, decide_eq_true_eq]
      intro z
      have := (List.getElem_inj (h₀ := by omega) (h₁ := hk) hn).mp (z.trans h.symm)
      omega
  rw [e]
  rfl
theorem ex_idx {xs : List (List Int)} {t : List Int} {k : Nat} {Q : D → Prop} (h : xs[k]? = some t) (hn : xs.Nodup) (q : Q (.int k)) : ∃ z, idxD (xs.map fun s => D.tup (s.map .int)) (.tup (t.map .int)) = some z ∧ Q z := ⟨_, idx_tups h hn, q⟩
theorem ex_repT {n : Int} {Q : D → Prop} : (∃ z, dRepT (.tup [.int 0]) (.int n) = some z ∧ Q z) ↔ (1 ≤ n ∧ n ≤ 1000) ∧ Q (.tup ((List.replicate n.toNat (0 : Int)).map .int)) := by
  have e : (List.replicate n.toNat [D.int 0]).flatten = (List.replicate n.toNat (0 : Int)).map .int := by rw [rep_one, List.map_replicate]
  have e2 : dRepT (.tup [.int 0]) (.int n) = if 1 ≤ n ∧ n ≤ 1000 then some (.tup (List.replicate n.toNat [D.int 0]).flatten) else none := by
    simp [dRepT]
  rw [e2, e]
  by_cases h : 1 ≤ n ∧ n ≤ 1000
  · rw [if_pos h]
    simp [h]
  · rw [if_neg h]
    simp [h]
theorem ex_eqNil {ns : List Int} {Q : D → Prop} : (∃ z, dEq (.lst (ns.map D.int)) (.lst []) = some z ∧ Q z) ↔ Q (.bl (decide (ns = []))) := by
  rw [show (D.lst []) = .lst (([] : List Int).map D.int) from rfl, dEq_lis]
  simp
theorem ex_neNilI {ns : List Int} {Q : D → Prop} : (∃ z, dNe (.lst (ns.map D.int)) (.lst []) = some z ∧ Q z) ↔ Q (.bl (!decide (ns = []))) := by
  rw [show (D.lst []) = .lst (([] : List Int).map D.int) from rfl, dNe_lis]
  simp
theorem ex_neNilT {xs : List (List Int)} {Q : D → Prop} : (∃ z, dNe (.lst (xs.map fun s => D.tup (s.map .int))) (.lst []) = some z ∧ Q z) ↔ Q (.bl (!decide (xs = []))) := by
  rw [ex_neNil (pln_tups xs)]
  simp
theorem ex_any {bs : List Bool} {Q : D → Prop} : (∃ z, dAny [.lst (bs.map D.bl)] = some z ∧ Q z) ↔ Q (.bl (bs.any id)) := by
  simp [dAny, lstD, dBls_map]
theorem cut_pop {α : Type} {f : α → D} {xs : List α} : cutD (xs.map f) none (some (-1)) = xs.dropLast.map f := by
  unfold cutD
  have e : HT.sIx (xs.map f).length (xs.map f).length (some (-1)) = xs.length - 1 := by
    rw [List.length_map]
    have := HT.clip_eq (-1) xs.length xs.length
    rw [if_pos (by omega)] at this
    omega
  rw [e, HT.sIx_none, List.drop_zero, Nat.sub_zero, ← List.map_take, List.dropLast_eq_take]
theorem cut_last {α : Type} {f : α → D} {xs : List α} : cutD (xs.map f) (some (-1)) none = (xs.drop (xs.length - 1)).map f := by
  unfold cutD
  have e : HT.sIx (xs.map f).length 0 (some (-1)) = xs.length - 1 := by
    rw [List.length_map]
    have := HT.clip_eq (-1) xs.length 0
    rw [if_pos (by omega)] at this
    omega
  rw [e, HT.sIx_none, ← List.map_drop, List.take_of_length_le (by simp)]
theorem isi_any {d : D} {t n : String} {b : Bool} {Q : D → Prop} (h1 : tyD d = some t) (h2 : kitB t n = some b) (q : Q (.bl b)) : ∃ z, dIsi [d, .ty n] = some z ∧ Q z := ⟨.bl b, by simp only [dIsi, h1, h2, Option.bind_some, Option.map_some], q⟩
end Pl
/-! The pure layer, part 29: try with several clauses `except C as e`. -/
namespace Pl
open PySem PySem.Spec PyProof.Rows L2

abbrev Hd1 := Value × (Addr → Value → Option Addr → TS)
inductive HdsAs (X : Cx) (n : Str) : List ExceptHandler → List Hd1 → Prop
  | nil : HdsAs X n [] []
  | cons {x : Str} {c : Value} {ts : Addr → Value → Option Addr → TS} {b₀ : Stmt} {suite : List Stmt} {np pos' : Pos} {hds : List ExceptHandler} {l : List Hd1} (hc : Names X x c)
      (hsu : ∀ (a : Addr) (oe : Obj) (cls : Value) (d : Option Addr) (pn : List (Addr × Obj)), Zc cls d oe → (∃ vs, oe.data = .fields vs) → PSs (X.suite a ((a, oe) :: pn)) (b₀ :: suite) (ts a cls d)) (r : HdsAs X n hds l) :
      HdsAs X n (.ExceptHandler (some (.Name x np)) (some n) (b₀ :: suite) pos' :: hds) ((c, ts) :: l)
/-- what the clauses wish of an exception of the body -/
def wMA (K : Frg) (i : Nat) (Wout : WX) (D : Ends) : List Hd1 → WX
  | [] => Wout
  | (c, ts) :: l => fun cls d σ H => ∃ b, PySem.W.exmOne K cls c = some b ∧ (b = true → ∀ a, H a = none → ts a cls d { nx := fun σ' H' => D.nx (σ'.set i none) H', rt := D.rt, bk := fun σ' H' => D.bk (σ'.set i none) H', ct := fun σ' H' => D.ct (σ'.set i none) H' } (σ.set i (some (.ref a))) H) ∧
    (b = false → wMA K i Wout D l cls d σ H)
theorem ps_try_asM {X : Cx} {n : Str} {i : Nat} {body : List Stmt} {h₀ : ExceptHandler} {hds : List ExceptHandler} {l : List Hd1} {pos : Pos} {tb : WX → TS} {Wout : WX} (hs : X.stack = X.env :: X.outer) (hf : X.env.frame = some X.env.locals) (hN : X.N.Nodup) (hi : X.N[i]? = some n) (hln : X.env.kindOf n = some .local) (tk : Takes X Wout)
    (hb : ∀ (W : WX) (pn : List (Addr × Obj)) (xe : Value → Shared → Prop), Takes (X.tr pn xe) W → PassesOwn (model X.prog X.w) X.A X.env xe → PSs (X.tr pn xe) body (tb W)) (hh : HdsAs X n (h₀ :: hds) l) :
    PS X (.Try body (h₀ :: hds) [] [] pos) (fun D σ H => tb (wMA X.K i Wout D l) D σ H) := by
  refine ⟨fun pins s σ H D I h => ?_⟩
  have ok := I.ok
  have hfr : X.A.frames = some (X.env :: X.outer) := by rw [ok.frames, hs]
  have hloc : Loc X.env.scope n := .inl hln
  refine wpAny_Try_except ?_
  refine wpAny_mono ((hb (wMA X.K i Wout D l) (X.pn ++ pins) (fun e s₁ => wpAny (model X.prog X.w) X.A (noteFrame e X.env) (fun _ s₂ => wpAny (model X.prog X.w) X.A (setFlight e none) (fun _ s₃ =>
    wpAny (model X.prog X.w) X.A (handleBy e X.env (h₀ :: hds)) (SP X pins D) X.xe s₃) X.xe s₂) X.xe s₁) (fun u s' xx => ?_) PassesOwn.looking).run [] s σ H D (I.toTry _) h) (fun f s1 hsp => ?_) (fun e s1 he => he)
  · obtain ⟨a, B, sI, pins', σ', H', cls, d, rfl, J', nb, up, sky, na, os, ag, w⟩ := xx
    have J : Inv X pins σ' H' sI := J'.ofTry ok
    have sky' : Sky B (X.env :: X.outer) a (Zc cls d) X.env.locals s'.heap := by rw [← hs]; exact sky
    show wpAny (model X.prog X.w) X.A (noteFrame (.ref a) X.env) _ _ _
    refine Sky.land Zc.steady hfr hf sky' fun h3 fl3 up3 => ?_
    have J3 : Inv X pins σ' H' { s' with heap := h3 } := J.landed nb fl3.1 (up.trans up3) os ag
    obtain ⟨oe3, vs3, he3, hz3, hd3⟩ := fl3.there
    have notFr : ∀ {h : Heap} {o : Obj} {vs : Array Value}, h.FunFrames B (X.env :: X.outer) → h.get? a = some o → o.data = .fields vs → a ∉ frs (X.env :: X.outer) := fun {h o vs} ff e dd hm => by
      obtain ⟨_, o', e', hnf⟩ := ff.mem hm
      rw [e] at e'; cases e'
      exact hnf _ dd
    have nfr := notFr fl3.2.2.1 he3 hd3
    have nL : a ≠ X.env.locals := fun z => nfr (List.mem_filterMap.mpr ⟨X.env, List.mem_cons_self, by rw [hf, z]⟩)
    have nF : a ∉ X.fs := fun hm => by
      obtain ⟨e, he, q⟩ := List.mem_filterMap.mp hm
      exact nfr (List.mem_filterMap.mpr ⟨e, List.mem_cons_of_mem _ he, q⟩)
    have S3 := J3.suite he3 hd3 na nL nF
    have go : ∀ {hds' : List ExceptHandler} {l' : List Hd1}, HdsAs X n hds' l' → wMA X.K i Wout D l' cls d σ' H' → wpAny (model X.prog X.w) X.A (handleBy (.ref a) X.env hds') (SP X pins D) X.xe { s' with heap := h3 } := by
      intro hds' l' hk
      induction hk with
      | nil =>
        intro w
        refine wpAny_handleBy_nil ?_
        obtain ⟨k1, k2, k3, oe, vs, T, oT, ts', he, hz, hd, h1, hr⟩ := id fl3
        unfold PySem.passOn
        refine wpAny_bind (wpAny_field he hd h1 ?_)
        rw [if_neg (show ¬ ((Value.ref T == Value.none) = true) from by simp)]
        have fin : wpAny (model X.prog X.w) X.A (setFlight (.ref a) X.env.frame) (fun _ s4 => wpAny (model X.prog X.w) X.A (throw (.ref a) : Sem Flow) (SP X pins D) X.xe s4) X.xe { s' with heap := h3 } := by
          rw [hf]
          refine HandSPX.setFlight_upZ fl3 fun h4 hh4 up4 => wpAny_throw (tk _ _ ?_)
          exact ⟨a, B, sI, pins, σ', H', cls, d, rfl, J, nb, (up.trans up3).trans up4, .inr (.inr (by rw [hs]; exact hh4)), na, os, ag, w⟩
        first
          | exact wpAny_bind (wpAny_pure (wpAny_bind fin))
          | exact wpAny_bind fin
      | @cons x c ts b₀ suite np pos' hds2 l2 hc hsu r ih =>
        intro w
        obtain ⟨b, hb1, hyes, hno⟩ := w
        refine wpAny_handleBy_cons (codeAny_handlers_test ?_) (by intro q; cases q)
        have LT : PySem.W.Looks (model X.prog X.w) h3 (typeOf (.ref a)) cls := fun A Q E s k q => wpAny_typeOf_ref (k _ _ he3) (by rw [hz3.1]; exact q)
        have LM := PySem.W.exm_one (M := model X.prog X.w) (J3.kIn) LT hb1
        have test : ∀ {Q : Value → Shared → Prop} {E : Value → Shared → Prop}, Q c { s' with heap := h3 } → wpAny (model X.prog X.w) (X.A.mark (some (.ref a))) (eval (.Name x np) X.env) Q E { s' with heap := h3 } := fun {Q E} q => by
          obtain ⟨hg, hdbg, hm | ⟨hm, hv, hnn⟩⟩ := hc
          · exact ld_glob (X := X.suite a ((a, oe3) :: (X.pn ++ pins))) S3 hg hm q hdbg
          · exact ld_blt (X := X.suite a ((a, oe3) :: (X.pn ++ pins))) S3 hg hm hv q hnn hdbg
        refine test (LM.here ?_)
        cases b with
        | true =>
          refine codeAny_handlers_suite_as ?_
          refine HandSPX.lands_againZ fl3 fun h4 fl4 up4 => ?_
          have J4 : Inv X pins σ' H' { s' with heap := h4 } := J.landed nb fl4.1 ((up.trans up3).trans up4) os ag
          obtain ⟨oe4, vs4, he4, hz4, hd4⟩ := fl4.there
          have S4 := J4.suite he4 hd4 na nL nF
          refine store_ok (X := X.suite a ((a, oe4) :: (X.pn ++ pins))) (v := .ref a) S4 hN hi hloc rfl (fun s5 S5 => ?_) (.inr hln)
          refine wpAny_mono ((hsu a oe4 cls d (X.pn ++ pins) hz4 ⟨_, hd4⟩).run [] s5 _ H' _ S5 (hyes rfl a na)) (fun f s6 hsp => ?_) (fun _ _ z => False.elim z)
          have end_ : ∀ {σ6 : L2.St} {H6 : Hp} {Q : Shared → Prop}, Inv (X.suite a ((a, oe4) :: (X.pn ++ pins))) [] σ6 H6 s6 → (∀ s7, Inv X pins (σ6.set i none) H6 s7 → Q s7) →
              wpAny (model X.prog X.w) X.A (do bindName X.env n .none; unbindBehindTheSuite X.env n pos') (fun _ s7 => Q s7) X.xe s6 := fun {σ6 H6 Q} S6 hq => gone_ok (S6.unsuite ok) hN hi hln hq
          cases f with
          | next =>
            obtain ⟨σ6, H6, S6, q6⟩ := hsp
            exact end_ S6 fun s7 J7 => ⟨_, _, J7, q6⟩
          | brk =>
            obtain ⟨σ6, H6, S6, q6⟩ := hsp
            exact end_ S6 fun s7 J7 => ⟨_, _, J7, q6⟩
          | cont =>
            obtain ⟨σ6, H6, S6, q6⟩ := hsp
            exact end_ S6 fun s7 J7 => ⟨_, _, J7, q6⟩
          | ret u =>
            obtain ⟨v6, σ6, H6, S6, r6, q6⟩ := hsp
            exact end_ S6 fun s7 J7 => ⟨_, _, _, J7, r6, q6⟩
        | false => exact ih (hno rfl)
    exact go hh w
  · cases f with
    | next =>
      obtain ⟨σ', H', J', q⟩ := hsp
      exact wpAny_execs_nil ⟨σ', H', J'.ofTry ok, q⟩
    | brk =>
      obtain ⟨σ', H', J', q⟩ := hsp
      exact ⟨σ', H', J'.ofTry ok, q⟩
    | cont =>
      obtain ⟨σ', H', J', q⟩ := hsp
      exact ⟨σ', H', J'.ofTry ok, q⟩
    | ret u =>
      obtain ⟨v, σ', H', J', r, q⟩ := hsp
      exact ⟨v, σ', H', J'.ofTry ok, r, q⟩
end Pl
/-! The pure layer, part 30: calls with a lambda of a def that catches by several clauses; repr of an int; sorted ints; name op= e. -/
namespace Pl
open PySem PySem.Spec PyProof.Rows L2 LamX

/-- a clause: class, field, what becomes of its value -/
abbrev Cl1 := Addr × Str × (V → Hp → VK → Prop)
def clE (K : Frg) (Q : VK) : List Cl1 → XK
  | [] => fun _ _ _ => False
  | (CS, fld, hd) :: l => fun cls d H' => ∃ b, PySem.W.exmOne K cls (.ref CS) = some b ∧ (b = true → cls = .ref CS ∧ ∃ (dd : Addr) (fs : List (Str × V)) (v : V), d = some dd ∧ H' dd = some (.xd fs) ∧ fs.lookup fld = some v ∧ hd v H' Q) ∧ (b = false → clE K Q l cls d H')
def TTm (K : Frg) (l : List Cl1) (nr : Hp → VK → Prop) : (XK → Hp → VK → Prop) → Hp → VK → Prop := fun tl H Q => tl (clE K Q l) H (fun _ H' => nr H' Q)
/-- .. on data -/
abbrev ClD := Addr × Str × (D → Option D)
inductive ClsD (K : Frg) : List Cl1 → List ClD → Prop
  | nil : ClsD K [] []
  | cons {C : Addr} {fld : Str} {hd : V → Hp → VK → Prop} {g : D → Option D} {l : List Cl1} {m : List ClD} (h : HdD K hd g) (r : ClsD K l m) : ClsD K ((C, fld, hd) :: l) ((C, fld, g) :: m)
/-- the clause that takes an exception of class C with the field f of value d -/
def pickC (C : Addr) (f : Str) (d : D) (m : List ClD) (x : D) : Prop := ∃ g, (C, f, g) ∈ m ∧ g d = some x
/-- no class of a later clause is one of an earlier -/
inductive ExT (K : Frg) : List ClD → Prop
  | nil : ExT K []
  | cons {C : Addr} {f : Str} {g : D → Option D} {m : List ClD} (h : PySem.W.exmOne K (.ref C) (.ref C) = some true) (h2 : ∀ c ∈ m, PySem.W.exmOne K (.ref c.1) (.ref C) = some false) (r : ExT K m) : ExT K ((C, f, g) :: m)
theorem clE_use {K : Frg} {Q : VK} {C : Addr} {f : Str} {d x : D} {dx : Addr} {v : V} {H F : Hp} (sm : Same F H) (h1 : H dx = some (.xd [(f, v)])) (hv : Rep K F v d) (k : ∀ v' H' F', Ext E00 H F H' F' → Rep K F' v' x → Q v' H') : ∀ {l : List Cl1} {m : List ClD}, ClsD K l m → ExT K m → pickC C f d m x → clE K Q l (.ref C) (some dx) H
  | _, _, .nil, _, ⟨_, h, _⟩ => by simp at h
  | _, _, .cons (C := C') (fld := f') hh r, .cons e1 e2 e3, ⟨g, h, hg⟩ => by
    rcases List.mem_cons.mp h with h | h
    · cases h
      exact ⟨true, e1, fun _ => ⟨rfl, dx, _, v, rfl, h1, by simp [List.lookup], hh H F v d x Q sm hv hg k⟩, fun z => by cases z⟩
    · exact ⟨false, e2 _ h, fun z => (by cases z), fun _ => clE_use sm h1 hv k r e3 ⟨g, h, hg⟩⟩
/-- a call of such a def with a lambda, whose body raises -/
def eLamM (m : List ClD) (R : Env → DM DlS D) : Env → DM DlS D := fun env s o s' => ∃ C f d x, R env s (.ex C [f] [d]) s' ∧ pickC C f d m x ∧ o = .ok x
theorem pr_lamM {X : Cx} {q : (Addr × Addr) × Tb} {l : List Cl1} {m : List ClD} {nr : Hp → VK → Prop} {R : Env → DM DlS D} {e : Expr} (hD : ClsD X.K l m) (hX : ExT X.K m)
    (P : PE X e (LamX.tLam q.2 (TTm X.K l nr) (fun E => tE X.K (dt q).g (WE' E) R))) : PR X q e (eLamM m R) := PE.imp P fun σ H Q ⟨H0, F0, F, env, s, o, s', S, n0, nF, ⟨C, f, d, x, hR, hg, ho⟩, a, ha, k⟩ => by
  subst ho
  cases ha
  refine ⟨S.at_.2, fun H1 eN T1 => ?_⟩
  have S1 := S.anew (fun p o z n => eN p o z n) T1 n0 nF
  refine ⟨H0, F0, Pl.noT F, env, s, .ex C [f] [d], s', S1, hR, fun a e => (by cases e), fun C' ns es e dx fs H' F' x1 at_ h1 h2 h3 => ?_⟩
  cases e
  obtain ⟨⟨f', v⟩, rfl⟩ : ∃ p, fs = [p] := by
    cases fs with
    | nil => simp at h2
    | cons p r =>
      cases r with
      | nil => exact ⟨p, rfl⟩
      | cons _ _ => simp at h2
  simp only [List.map_cons, List.map_nil, List.cons.injEq, and_true] at h2
  subst h2
  simp only [List.map_cons, List.map_nil] at h3
  cases h3 with
  | cons hv r =>
    have S2 := S1.step x1 at_
    exact clE_use x1.fh h1 hv (fun v' H2 F2 e2 rv => k v' H2 F2 (S2.all e2) rv) hD hX hg
theorem go_eLamM {env : Env} {s : DlS} {m : List ClD} {R : Env → DM DlS D} {Q : D → DlS → Prop} : Go (eLamM m R env) Q s ↔ ∃ C f d x s', R env s (.ex C [f] [d]) s' ∧ pickC C f d m x ∧ Q x s' := by
  constructor
  · rintro ⟨a, s1, ⟨C, f, d, x, h1, h2, h3⟩, q⟩
    cases h3
    exact ⟨C, f, d, _, s1, h1, h2, q⟩
  · rintro ⟨C, f, d, x, s', h1, h2, q⟩
    exact ⟨x, s', ⟨C, f, d, x, h1, h2, rfl⟩, q⟩
/-- the clauses as they stand -/
inductive ClsX (X : Cx) (x e : Str) (sg : Scope) (g : Addr) (cdg : Value) : List ExceptHandler → List Cl1 → Prop
  | nil : ClsX X x e sg g cdg [] []
  | cons {cl fld : Str} {CS : Addr} {EX : Expr} {hd : V → Hp → VK → Prop} {q2 q3 p4 : Pos} {hs : List ExceptHandler} {l : List Cl1} (hcl : sg.names.lookup cl = some .globalImplicit) (hme : X.mg cl = some (.ref CS)) (hde : (cl == ("__debug__" : Str)) = false)
      (hy : ∀ (s : Shared) (H : Hp) (a : Addr) (oe : Obj) (cls : Value) (d : Option Addr) (pn : List (Addr × Obj)), Zc cls d oe → (∃ vs, oe.data = .fields vs) →
        PE (((cxOf C8.CX0 X.prog X.w X.K X.mg X.base ([("work" : Str), e] : List Str) x sg g cdg X.A X.stack s H C8.E0).nox).suite a ((a, oe) :: pn)) EX (fun σ H Q => tXf a cls d CS fld (fun σ H Q => σ.length = 2 → ∃ v, σ[1]? = some (some v) ∧ Q v H) σ H fun v H1 => hd v H1 Q))
      (r : ClsX X x e sg g cdg hs l) : ClsX X x e sg g cdg (.ExceptHandler (some (.Name cl p4)) (some e) [.Return (some EX) q2] q3 :: hs) ((CS, fld, hd) :: l)
def tsOf (CS : Addr) (fld : Str) (hd : V → Hp → VK → Prop) : Addr → Value → Option Addr → TS := fun a cls d => tRet (fun σ H Q => tXf a cls d CS fld (fun σ H Q => σ.length = 2 → ∃ v, σ[1]? = some (some v) ∧ Q v H) σ H fun v H1 => hd v H1 Q)
theorem ClsX.hds {X : Cx} {x e : Str} {sg : Scope} {g : Addr} {cdg : Value} (s : Shared) (H : Hp) : ∀ {hs : List ExceptHandler} {l : List Cl1}, ClsX X x e sg g cdg hs l →
    HdsAs (cxOf C8.CX0 X.prog X.w X.K X.mg X.base ([("work" : Str), e] : List Str) x sg g cdg X.A X.stack s H C8.E0).nox e hs (l.map fun c => (.ref c.1, tsOf c.1 c.2.1 c.2.2))
  | _, _, .nil => .nil
  | _, _, .cons hcl hme hde hy r => .cons ⟨hcl, hde, .inl hme⟩ (fun a oe cls d pn hz hf => pss_one (ps_ret (hy s H a oe cls d pn hz hf))) (r.hds s H)
theorem cl_wMA {K : Frg} {Dn : Ends} {Q : VK} (hQ : Dn.rt = Q) : ∀ (l : List Cl1) (cls : Value) (d : Option Addr) (σ : L2.St) (H : Hp), clE K Q l cls d H → wMA K 1 (fun _ _ _ _ => False) Dn (l.map fun c => (.ref c.1, tsOf c.1 c.2.1 c.2.2)) cls d σ H
  | [], _, _, _, _, h => h.elim
  | (CS, fld, hd) :: l, cls, d, σ, H, ⟨b, e1, e2, e3⟩ => by
    refine ⟨b, e1, fun hb a na => ?_, fun hb => cl_wMA hQ l cls d σ H (e3 hb)⟩
    obtain ⟨rfl, dd, fs, v, rfl, h1, h2, h3⟩ := e2 hb
    intro hlen
    have hlen' : σ.length = 2 := by rw [← hlen, List.length_set]
    subst hQ
    exact ⟨_, List.getElem?_set_self (by omega), rfl, rfl, dd, fs, v, rfl, h1, h2, h3⟩
theorem gives_asM {X : Cx} {x e : Str} {qq : Str} {sg : Scope} {g : Addr} {cdg : Value} {rest : List Stmt} {nr : Hp → VK → Prop} {h₀ : ExceptHandler} {hs : List ExceptHandler} {l : List Cl1} {p1 p2 p3 q4 : Pos}
    (hN : ([("work" : Str), e] : List Str).Nodup) (hel : sg.names.lookup e = some .local)
    (hrest : ∀ (s : Shared) (H : Hp), PSs (cxOf C8.CX0 X.prog X.w X.K X.mg X.base ([("work" : Str), e] : List Str) x sg g cdg X.A X.stack s H C8.E0).nox rest (fun D _ H => nr H D.rt))
    (hc : ClsX X x e sg g cdg (h₀ :: hs) l) :
    GivesTo X ([("work" : Str), e] : List Str) x sg g cdg (.Try [.Expr (.Call (.Name "work" p1) [] [] p2) p3] (h₀ :: hs) [] [] q4 :: rest) "work" qq (TTm X.K l nr) := by
  intro f c' s H Q tl act hcc h
  have T := ps_try_asM (X := (cxOf C8.CX0 X.prog X.w X.K X.mg X.base ([("work" : Str), e] : List Str) x sg g cdg X.A X.stack s H C8.E0).nox) (i := 1) (n := e) (pos := q4)
      (body := [.Expr (.Call (.Name "work" p1) [] [] p2) p3]) (Wout := fun _ _ _ _ => False)
      (tb := fun W D σ H => ∃ Ech : XK, (∀ cls d σ' H', Ech cls d H' → W cls d σ' H') ∧ σ[0]? = some (some (.ref f)) ∧ H c' = some (CodeO c' qq) ∧ tl Ech H fun _ H' => D.nx σ H')
      rfl rfl hN rfl hel L2.takes0 (fun W pn xe tk _ => ?_) (hc.hds s H)
  · refine ⟨_, pss_cons T (hrest s H), ?_⟩
    exact ⟨clE X.K Q l, fun cls d σ' H' z => cl_wMA rfl l cls d σ' H' z, rfl, hcc, h⟩
  · refine ⟨fun pins s' σ H' D I h' => ?_⟩
    obtain ⟨Ech, hW, h1, h2, h3⟩ := h'
    have hp := act W pn xe Ech p1 p2 tk hW
    have hq := pss_one (ps_expr (pos := p3) hp)
    exact hq.run pins s' σ H' D I ⟨h1, h2, h3⟩
theorem rest_non {Y : Cx} {j : Nat} {q5 q6 : Pos} : PSs Y [.Return (some (.Constant .none j q5)) q6] (fun D _ H => D.rt .non H) := pss_one (ps_ret pe_non)
theorem pr_isM {X : Cx} {q : (Addr × Addr) × Tb} {x : Str} {gr c Pt : Addr} {l : List Cl1} {m : List ClD} {nr : Hp → VK → Prop} {R : Env → DM DlS D} {k : Nat} {pg params : Arguments} {bg : List Stmt} {sg scope : Scope} {fr : FuncData} {Ng : List Str} {body : Expr} {p lpos pos : Pos}
    (hD : ClsD X.K l m) (hX : ExT X.K m) (hT : q.2 = [(Pt, X.env.qual ++ "<lambda>")]) (hm : X.mg x = some (.ref gr)) (D0 : FunD X.K x x pg bg sg [] [] gr fr)
    (hbi : ∀ (kV doc pm : Value) (an : Option Addr) (cdv ct : Value) (us : List Value), us.length = [("work" : Str)].length → bindArgs (PySem.W.fnOf x x pg bg sg .none kV doc pm an cdv ct) ⟨us, []⟩ = pure ([("work" : Str)].zip us)) (Sg : FnScope Ng ["work"] sg) (hNg : Ng[0]? = some ("work" : Str))
    (hG : ∀ cdv : Value, LamX.GivesTo X Ng x sg gr cdv bg "work" (X.env.qual ++ "<lambda>") (TTm X.K l nr)) (hva : Vis sg "work") (TB : LamX.TabB X.base X.mg c Pt) (hr : Room (k + 2) X.A)
    (hbody : ∀ (A : Around) (outer : List PySem.Env) (s : Shared) (H : Hp) (E : XK) (f c' : Addr), Room k (A.deeper (LamX.lamEnv X scope s.heap.objs.size f c')) → PD (LamX.lamCx X A outer s H E scope f c') (dt q).g (WE' E) body R)
    (hg : Gl X x := by rfl) (hcode : X.env.code = .ref c := by rfl) (L : LamX.LamS X.env.scope scope := by exact LamX.lamS_by (by kernel_rfl)) (hdef : defaultsOf params X.env = ([], []) := by rfl)
    (hbind : ∀ (q : Str) (cl : List (Str × Addr)) (pm cv ctv : Value), bindArgs (PySem.W.kla_fn "<lambda>" q params body scope cl pm cv ctv) ⟨[], []⟩ = pure [] := by intro _ _ _ _ _; rfl) (hdb : (x == ("__debug__" : Str)) = false := by decide) :
    PR X q (.Call (.Name x p) [.Lambda params body scope lpos] [] pos) (eLamM m R) := by
  have hb := D0.bindsN (ps := [("work" : Str)]) hbi
  obtain ⟨oc, od, dV, kV, doc, pm, an, cdv, ct, osl, rfl, lk, hcd, _, _⟩ := D0.ex
  refine pr_lamM hD hX (LamX.pe_lamcall (T := q.2) (t := fun E => tE X.K (dt q).g (WE' E) R) hg hm D0.kp lk hcd hb Sg hNg hva (hG cdv) TB hcode ?_ ?_ hr L hdef hbind hbody hdb)
  · rw [hT]; exact List.mem_singleton.mpr rfl
  · intro p hp _
    rw [hT] at hp
    rw [List.mem_singleton.mp hp]
end Pl
/-! The pure layer, part 31: what clauses give: repr(e.f), ('txt', repr(e.f)), ('txt', e.f). -/
namespace Pl
open PySem PySem.Spec PyProof.Rows L2

def strI (i : Int) : Str := Str.ofString (toString i)
def hdRepr : V → Hp → VK → Prop := fun v H Q => ∃ i, v = .int i ∧ i.natAbs.log2 < 1920 ∧ Q (.str (strI i)) H
def gRepr : D → Option D
  | .int i => if i.natAbs.log2 < 1920 then some (.str (strI i)) else none
  | _ => none
theorem hdD_repr {K : Frg} : HdD K hdRepr gRepr := by
  intro H F v d x Q sm r h k
  unfold gRepr at h
  split at h
  · split at h
    · rename_i c
      cases h
      cases r
      exact ⟨_, rfl, c, k _ H F (Ext.refl sm) (.str _)⟩
    · cases h
  · cases h
def hdTupRepr (txt : Str) : V → Hp → VK → Prop := fun v H Q => ∃ i, v = .int i ∧ i.natAbs.log2 < 1920 ∧ ∀ p, H p = none → Q (.ref p) (upd H p (.tup [.str txt, .str (strI i)]))
def gTupRepr (txt : Str) : D → Option D
  | .int i => if i.natAbs.log2 < 1920 then some (.tup [.str txt, .str (strI i)]) else none
  | _ => none
theorem hdD_tupRepr {K : Frg} {txt : Str} : HdD K (hdTupRepr txt) (gTupRepr txt) := by
  intro H F v d x Q sm r h k
  unfold gTupRepr at h
  split at h
  · split at h
    · rename_i c
      cases h
      cases r
      refine ⟨_, rfl, c, fun p np => ?_⟩
      have E := fun o => (Ext.new (fp := fun _ => False) o sm np)
      exact k _ _ _ (E _) (.tup upd_same (.cons (.str _) (.cons (.str _) .nil)))
    · cases h
  · cases h
def hdTup (txt : Str) : V → Hp → VK → Prop := fun v H Q => ∀ p, H p = none → Q (.ref p) (upd H p (.tup [.str txt, v]))
def gTup (txt : Str) : D → Option D := fun d => some (.tup [.str txt, d])
theorem hdD_tup {K : Frg} {txt : Str} : HdD K (hdTup txt) (gTup txt) := by
  intro H F v d x Q sm r h k
  cases h
  refine fun p np => ?_
  have E := fun o => (Ext.new (fp := fun _ => False) o sm np)
  exact k _ _ _ (E _) (.tup upd_same (.cons (.str _) (.cons (r.mono (E _).f) .nil)))
section
variable {X : Cx} {e txt fld : Str} {x : Str} {sg : Scope} {g CS : Addr} {cdg : Value} {p0 p5 p6 p7 p8 p9 q1 q2 : Pos} {j1 j2 : Nat}
theorem ex_repr (hxf : XfC X.K CS) (hno : PySem.W.findIn X.K (.ref CS) fld = some none) (hrp : X.mg "repr" = none) (hgl : sg.names.lookup ("repr" : Str) = some .globalImplicit) (hel : sg.names.lookup e = some .local) (hd : (e == ("__debug__" : Str)) = false) (hcd : (e == ("__classdict__" : Str)) = false)
    (s : Shared) (H : Hp) (a : Addr) (oe : Obj) (cls : Value) (d : Option Addr) (pn : List (Addr × Obj)) (hz : Zc cls d oe) (hf : ∃ vs, oe.data = .fields vs) (hb : ∀ Y : PySem.Env, attributeBase (.Name e p5) fld Y (eval (.Name e p5) Y) = eval (.Name e p5) Y := by intro _; rfl) :
    PE (((cxOf C8.CX0 X.prog X.w X.K X.mg X.base ([("work" : Str), e] : List Str) x sg g cdg X.A X.stack s H C8.E0).nox).suite a ((a, oe) :: pn)) (.Call (.Name "repr" p0) [.Attribute (.Name e p5) fld p6] [] q1)
      (fun σ H Q => tXf a cls d CS fld (fun σ H Q => σ.length = 2 → ∃ v, σ[1]? = some (some v) ∧ Q v H) σ H fun v H1 => hdRepr v H1 Q) := by
  refine PE.imp (pe_callB SkE.call_repr_int hgl hrp (by decide +kernel) (pa_cons (pe_xf (te := fun σ H Q => σ.length = 2 → ∃ v, σ[1]? = some (some v) ∧ Q v H) hxf hno hz hf ⟨fun pins s σ H Q I h => (pe_var (i := 1) rfl (.inl hel) hd hcd).run pins s σ H Q I (h I.len)⟩ (hb := hb _)) pa_nil rfl)) fun σ H Q h => ?_
  refine tXf_imp eSlot_imp h fun v H' h' => ?_
  obtain ⟨i, e1, e2, e3⟩ := h'
  subst e1
  exact ⟨i, rfl, e2, e3⟩
theorem ex_tupRepr (hxf : XfC X.K CS) (hno : PySem.W.findIn X.K (.ref CS) fld = some none) (hrp : X.mg "repr" = none) (hgl : sg.names.lookup ("repr" : Str) = some .globalImplicit) (hel : sg.names.lookup e = some .local) (hd : (e == ("__debug__" : Str)) = false) (hcd : (e == ("__classdict__" : Str)) = false)
    (s : Shared) (H : Hp) (a : Addr) (oe : Obj) (cls : Value) (d : Option Addr) (pn : List (Addr × Obj)) (hz : Zc cls d oe) (hf : ∃ vs, oe.data = .fields vs) (hb : ∀ Y : PySem.Env, attributeBase (.Name e p5) fld Y (eval (.Name e p5) Y) = eval (.Name e p5) Y := by intro _; rfl) :
    PE (((cxOf C8.CX0 X.prog X.w X.K X.mg X.base ([("work" : Str), e] : List Str) x sg g cdg X.A X.stack s H C8.E0).nox).suite a ((a, oe) :: pn)) (.Tuple [.Constant (.str txt) j1 p7, .Call (.Name "repr" p0) [.Attribute (.Name e p5) fld p6] [] q1] j2 q2)
      (fun σ H Q => tXf a cls d CS fld (fun σ H Q => σ.length = 2 → ∃ v, σ[1]? = some (some v) ∧ Q v H) σ H fun v H1 => hdTupRepr txt v H1 Q) := by
  refine PE.imp (pe_tup (pa_cons pe_str (pa_cons (ex_repr hxf hno hrp hgl hel hd hcd s H a oe cls d pn hz hf hb) pa_nil rfl) rfl)) fun σ H Q h => ?_
  show tXf a cls d CS fld (fun σ H Q => σ.length = 2 → ∃ v, σ[1]? = some (some v) ∧ Q v H) σ H fun v H1 => hdRepr v H1 fun x H2 => [V.str txt, x].length ≤ sizeLine ∧ ∀ p, H2 p = none → Q (.ref p) (upd H2 p (.tup [.str txt, x]))
  refine tXf_imp eSlot_imp h fun v H' h' => ?_
  obtain ⟨i, e1, e2, e3⟩ := h'
  subst e1
  exact ⟨i, rfl, e2, by simp [PySem.sizeLine_eq], e3⟩
theorem ex_tupFld (hxf : XfC X.K CS) (hno : PySem.W.findIn X.K (.ref CS) fld = some none) (hel : sg.names.lookup e = some .local) (hd : (e == ("__debug__" : Str)) = false) (hcd : (e == ("__classdict__" : Str)) = false)
    (s : Shared) (H : Hp) (a : Addr) (oe : Obj) (cls : Value) (d : Option Addr) (pn : List (Addr × Obj)) (hz : Zc cls d oe) (hf : ∃ vs, oe.data = .fields vs) (hb : ∀ Y : PySem.Env, attributeBase (.Name e p5) fld Y (eval (.Name e p5) Y) = eval (.Name e p5) Y := by intro _; rfl) :
    PE (((cxOf C8.CX0 X.prog X.w X.K X.mg X.base ([("work" : Str), e] : List Str) x sg g cdg X.A X.stack s H C8.E0).nox).suite a ((a, oe) :: pn)) (.Tuple [.Constant (.str txt) j1 p7, .Attribute (.Name e p5) fld p6] j2 q2)
      (fun σ H Q => tXf a cls d CS fld (fun σ H Q => σ.length = 2 → ∃ v, σ[1]? = some (some v) ∧ Q v H) σ H fun v H1 => hdTup txt v H1 Q) := by
  refine PE.imp (pe_tup (pa_cons pe_str (pa_cons (pe_xf (te := fun σ H Q => σ.length = 2 → ∃ v, σ[1]? = some (some v) ∧ Q v H) hxf hno hz hf ⟨fun pins s σ H Q I h => (pe_var (i := 1) rfl (.inl hel) hd hcd).run pins s σ H Q I (h I.len)⟩ (hb := hb _)) pa_nil rfl) rfl)) fun σ H Q h => ?_
  show tXf a cls d CS fld (fun σ H Q => σ.length = 2 → ∃ v, σ[1]? = some (some v) ∧ Q v H) σ H fun x H2 => [V.str txt, x].length ≤ sizeLine ∧ ∀ p, H2 p = none → Q (.ref p) (upd H2 p (.tup [.str txt, x]))
  refine tXf_imp eSlot_imp h fun v H' h' => ?_
  exact ⟨by simp [PySem.sizeLine_eq], h'⟩
end
end Pl
/-! The pure layer, part 32: name op= e; repr of an int; sorted ints. -/
namespace Pl
open PySem PySem.Spec PyProof.Rows L2

def wAug {S : Type} (i : Nat) (f : Int → Int → Int) (R : Env → DM S D) : DW S := fun De env s => ∃ a : Int, env[i]? = some (.fz (.int a)) ∧ run (R env) De env (fun d s1 => ∃ b : Int, d = .int b ∧ De.nx (env.set i (.fz (.int (f a b)))) s1) s
def dRepr : List D → Option D
  | [.int i] => if i.natAbs.log2 < 1920 then some (.str (strI i)) else none
  | _ => none
theorem cad_repr {K : Frg} : CaD K (fun xs H Q => ∃ i : Int, xs = [V.int i] ∧ i.natAbs.log2 < 1920 ∧ Q (.str (strI i)) H) dRepr := by
  intro H F vs ds x Q sm r h k
  unfold dRepr at h
  split at h
  · split at h
    · rename_i c
      cases h
      obtain ⟨v, rfl, hv⟩ := r.one
      cases hv
      exact ⟨_, rfl, c, k _ H F (Ext.refl sm) (.str _)⟩
    · cases h
  · cases h
def srt (ns : List Int) : List Int := ns.mergeSort (fun a b => decide (a ≤ b))
theorem srt_perm (ns : List Int) : (srt ns).Perm ns := List.mergeSort_perm _ _
theorem srt_le (ns : List Int) : (srt ns).Pairwise (· ≤ ·) := by
  have := List.pairwise_mergeSort (le := fun a b : Int => decide (a ≤ b)) (fun a b c h1 h2 => by simp at *; omega) (fun a b => by simp; omega) ns
  exact this.imp fun h => by simpa using h
theorem sorted_eq : ∀ {a b : List Int}, a.Perm b → a.Pairwise (· ≤ ·) → b.Pairwise (· ≤ ·) → a = b := fun p h1 h2 => p.eq_of_pairwise (fun a b _ _ h h' => Int.le_antisymm h h') h1 h2
def dSorted : List D → Option OD
  | [d] => ((lstD d).bind dInts).map fun ns => .lst ((srt ns).map .int)
  | _ => none
theorem caf_sorted {K : Frg} : CaF K (rSortedI K) dSorted := by
  intro H F vs ds x Q sm r h k
  unfold dSorted at h
  split at h
  · obtain ⟨v, rfl, hv⟩ := r.one
    cases q : (lstD _).bind dInts with
    | none => rw [q] at h; cases h
    | some ns =>
      rw [q] at h
      cases h
      obtain ⟨a, rfl, hs⟩ := hv.ints q
      refine ⟨a, ns, rfl, sm.seq hs, fun ns' p hp hle np => ?_⟩
      have e : ns' = srt ns := sorted_eq (hp.trans (srt_perm ns).symm) hle (srt_le ns)
      subst e
      have E := Ext.own (fp := fun _ => False) (HO.lst ((srt ns).map V.int)) sm np
      exact k p _ F np E (none_of_same sm np) (Reps.ints _)
  · cases h
section
variable {X : Cx} {G : Gh} {W : WX} {e : Expr} {es : List Expr} {R : Env → DM G.S D} {Rs : Env → DM G.S (List D)} {pos p : Pos}
theorem psd_aug {i : Nat} {x : Str} {op : Operator} {f : Int → Int → Int} {pos' : Pos} (ip : PIp X op (ipI f)) (he : PD X G W e R) (hN : X.N.Nodup) (hi : X.N[i]? = some x := by rfl) (hx : Loc X.env.scope x := by first | exact Or.inl rfl | exact Or.inr rfl)
    (hf : X.fn x = true ∨ X.env.scope.names.lookup x = some .local := by first | exact .inl rfl | exact .inr rfl) : PSd X G W (.AugAssign (.Name x pos') op e pos) (wAug i f R) :=
  PS.imp (ps_aug hN hi hx he ip hf) fun Dn σ H ⟨H0, F0, F, env, s, De, S, ⟨a, ha, h⟩, L⟩ => by
    obtain ⟨LL, r⟩ := S.sl
    obtain ⟨v, hv, rv⟩ := r.get_fz ha
    cases rv
    refine ⟨_, hv, tG_run S h L fun d v H1 F1 s1 S1 x g ⟨b, hd, k⟩ => ?_⟩
    subst hd
    cases g
    exact ⟨a, b, rfl, rfl, L.nx _ _ H1 F1 s1 (S1.set_fz i (.int _)) k⟩
theorem pd_repr (hm : X.mg "repr" = none) (ha : PAs X G W (e :: es) Rs) (hg : Gl X "repr" := by rfl) (he : starEach (e :: es) X.env = (false, eval e X.env) :: starEach es X.env := by rfl) (hpl : (backTo pos (starEach es X.env)).any (·.1) = false := by rfl) : PD X G W (.Call (.Name "repr" p) (e :: es) [] pos) (eCa dRepr Rs) :=
  pd_callB SkE.call_repr_int cad_repr hg hm (by decide +kernel) ha (by decide) (by decide) he hpl
theorem pf_sorted (hm : X.mg "sorted" = none) (ha : PAs X G W (e :: es) Rs) (hg : Gl X "sorted" := by rfl) (he : starEach (e :: es) X.env = (false, eval e X.env) :: starEach es X.env := by rfl) (hpl : (backTo pos (starEach es X.env)).any (·.1) = false := by rfl) : PF X G W (.Call (.Name "sorted" p) (e :: es) [] pos) (fCa dSorted Rs) :=
  pf_callB cr_sortedI caf_sorted hg hm (by decide +kernel) ha (by decide) (by decide) he hpl
end
section
variable {S : Type} {De : DE S} {env : Env} {s : S} {R : Env → DM S D} {i : Nat} {f : Int → Int → Int}
theorem gw_aug {a : Int} (ha : env[i]? = some (.fz (.int a))) (h : Go (R env) (fun d s1 => ∃ b : Int, d = .int b ∧ De.nx (env.set i (.fz (.int (f a b)))) s1) s) : wAug i f R De env s := ⟨a, ha, go_run h⟩
theorem ones_aug : Ones (wAug i f R) := fun De env s ⟨a, ha, h⟩ => by
  obtain ⟨x, q1, q2⟩ := ones_run (k := fun De (d : D) s1 => ∃ b : Int, d = .int b ∧ De.nx (env.set i (.fz (.int (f a b)))) s1) (fun De d s1 ⟨b, hb, k⟩ => ⟨.nx _ s1, k, fun _ y => ⟨b, hb, y⟩⟩) h
  exact ⟨x, q1, fun De' y => ⟨a, ha, q2 De' y⟩⟩
end
end Pl
/-! The pure layer, part 33: calls by places and keywords. -/
namespace Pl
open PySem PySem.Spec PyProof.Rows L2

structure FnPk (P : Program) (w : World) (K : Frg) (mg : Str → Option Value) (base : Heap) (k : Nat) (x : Str) (ps : List Str) (np : Nat) (ks : List Str) (is : List Nat) (sp : Sp) : Prop where
  ex : ∃ f fd, mg x = some (.ref f) ∧ PySem.W.keepIn K (.ref f) = true ∧ (∀ (s : Shared) (us ws : List Value), us.length = np → ws.length = ks.length → BindsTo s fd ⟨us, ks.zip ws⟩ (ps.zip (pick is (us ++ ws)))) ∧ FnOk P w K mg base (L2.CX P w) k f fd ps sp
theorem FnPk.of {P : Program} {w : World} {K : Frg} {mg : Str → Option Value} {base : Heap} {x qual : Str} {params : Arguments} {body : List Stmt} {scope : Scope} {f : Addr} {fd : FuncData} {ps ks : List Str} {is : List Nat} {k np : Nat} {sp : Sp} (D0 : FunD K x qual params body scope [] [] f fd) {y : Str} (hm : mg y = some (.ref f))
    (hb : ∀ (kV doc pm : Value) (an : Option Addr) (cdv ct : Value) (us ws : List Value), us.length = np → ws.length = ks.length → bindArgs (PySem.W.fnOf x qual params body scope .none kV doc pm an cdv ct) ⟨us, ks.zip ws⟩ = pure (ps.zip (pick is (us ++ ws))))
    (ok : FnOk P w K mg base (L2.CX P w) k f fd ps sp) : FnPk P w K mg base k y ps np ks is sp := by
  refine ⟨f, fd, hm, D0.kp, fun s us ws h1 h2 => ?_, ok⟩
  obtain ⟨oc, od, dV, kV, doc, pm, an, cdv, ct, osl, rfl, lk, hcd, hD, hK⟩ := D0.ex
  rcases hD with ⟨_, rfl⟩ | ⟨e, _⟩
  · exact .of_eq (hb kV doc pm an cdv ct us ws h1 h2)
  · exact absurd rfl e
def eCallPk {S : Type} (np nk : Nat) (is : List Nat) (R : List D → Oc D → Prop) (Ra Rs : Env → DM S (List D)) : Env → DM S D := fun env => (Ra env).bind fun as => (Rs env).bind fun ds => fun s o s' => s' = s ∧ as.length = np ∧ ds.length = nk ∧ R (pick is (as ++ ds)) o
theorem _root_.L2.Vals.app' {a b : List V} {u v : List Value} (h : Vals a u) (h2 : Vals b v) : Vals (a ++ b) (u ++ v) := by
  induction h with
  | nil => exact h2
  | cons r _ ih => exact .cons r ih
section
variable {X : Cx} {G : Gh} {E : XK} {e : Expr} {es : List Expr} {kws : List Keyword} {pos p : Pos} {Ra Rs : Env → DM G.S (List D)} {x : Str} {ps ks : List Str} {is : List Nat} {k np : Nat}
theorem pd_callPk {Rm : List D → Oc D → Prop} (Fk : FnPk X.prog X.w X.K X.mg X.base k x ps np ks is (spP X.K Rm)) (hr : Room k X.A) (tk : Takes X (WE' E)) (ha : PAs X G (WE' E) (e :: es) Ra) (hkw : PKs X G (WE' E) kws Rs) (hg : Gl X x := by rfl)
    (hall : (backToKw pos (keywordEach kws X.env)).all (·.1.isSome) = true := by rfl) (hks : (backToKw pos (keywordEach kws X.env)).filterMap (·.1) = ks := by rfl) (hdb : (x == ("__debug__" : Str)) = false := by decide)
    (he : starEach (e :: es) X.env = (false, eval e X.env) :: starEach es X.env := by rfl) (hpl : ((backTo pos (starEach (e :: es) X.env)).any (·.1) || (backToKw pos (keywordEach kws X.env)).any (·.1.isNone)) = false := by rfl) : PD X G (WE' E) (.Call (.Name x p) (e :: es) kws pos) (eCallPk np ks.length is Rm Ra Rs) := by
  obtain ⟨f, fd, hm, hk, hb, F⟩ := Fk.ex
  refine ⟨fun pins s σ H Q I h => ?_⟩
  refine wpAny_Call_Name_kw (ld_glob I hg hm ?_ hdb)
  refine PySem.W.callWith_KW (h₀ := X.base) I.ok.mod.kin hk hall ?_ hpl he
  obtain ⟨H0, F0, F', env, s', o, s'', S, h, kk, xc⟩ := h
  have h1 : tA X.K G (WE' E) Ra σ H (fun as H1 => ∃ h, tA X.K G (WE' E) Rs σ H1 (fun zs H2 => as.length = np ∧ zs.length = ks.length ∧ spP X.K Rm (pick is (as ++ zs)) H2 Q E) = h ∧ h) := by
    refine tG_bind S h xc fun as us H1 F1 s1 S1 e1 g1 h1 xc1 => ⟨_, rfl, ?_⟩
    refine tG_bind S1 h1 xc1 fun ds vs H2 F2 s2 S2 e2 g2 h2 xc2 => ?_
    obtain ⟨rfl, hl1, hl2, hR⟩ := h2
    have g1' := Reps.mono e2.f g1
    exact ⟨by rw [g1'.len, hl1], by rw [g2.len, hl2], F2, pick is (as ++ ds), o, S2.fh, pick_reps (g1'.app g2) is, hR, fun d z v H' F' x rv => kk d z v H' F' (e1.trans (e2.trans (.of_all x))) (at_all S2 x) rv, fun C ns es z dx fs H' F' x a1 a2 a3 => xc2 C ns es z dx fs H' F' (.of_all x) (at_all S2 x) a1 a2 a3⟩
  refine thn (ha.run pos pins s σ H _ I h1) fun us s1 ⟨as, H1, I1, ra, hh, eh, h2⟩ => ?_
  subst eh
  refine thn (hkw.run pos pins s1 σ H1 _ I1 h2) fun ws s2 ⟨zs, H2, I2, rz, hl1, hl2, q⟩ => ⟨I2.kIn, ?_⟩
  rw [hks]
  show wpAny _ _ (call (.ref f) us (ks.zip ws)) _ _ _
  refine wpAny_call (codeAny_mono (F.run X.A X.stack s2 H2 ⟨us, ks.zip ws⟩ (pick is (us ++ ws)) (pick is (as ++ zs)) Q E hr I2.env0 (hb s2 us ws (by rw [← ra.length]; exact hl1) (by rw [← rz.length]; exact hl2)) (pick_vals (ra.app' rz) is) q) fun r s' hq => ?_)
  cases r with
  | error er => exact passes_call (E := E) tk (fun _ _ _ _ h => h) pins σ H2 s2 er s' I2 hq
  | ok fl =>
    cases fl with
    | ret u => exact I2.after hq
    | next => exact False.elim hq
    | brk => exact False.elim hq
    | cont => exact False.elim hq
end
section
variable {S : Type} {s : S} {env : Env} {Ra Rs : Env → DM S (List D)} {Q : D → S → Prop}
theorem go_callPk {np nk : Nat} {is : List Nat} {P : List D → Oc D → Prop} : Go (eCallPk np nk is P Ra Rs env) Q s ↔ Go (Ra env) (fun as s1 => Go (Rs env) (fun ds s2 => as.length = np ∧ ds.length = nk ∧ ∃ d, P (pick is (as ++ ds)) (.ok d) ∧ Q d s2) s1) s := by
  simp only [eCallPk, go_bind]
  have e : ∀ as ds s2, Go (fun s o s' => s' = s ∧ as.length = np ∧ ds.length = nk ∧ P (pick is (as ++ ds)) o) Q s2 ↔ as.length = np ∧ ds.length = nk ∧ ∃ d, P (pick is (as ++ ds)) (.ok d) ∧ Q d s2 := fun as ds s2 => by
    constructor
    · rintro ⟨a, s', ⟨rfl, h1, h2, h3⟩, q⟩
      exact ⟨h1, h2, a, h3, q⟩
    · rintro ⟨h1, h2, d, h3, q⟩
      exact ⟨d, _, ⟨rfl, h1, h2, h3⟩, q⟩
  simp only [e]
end
end Pl
/-! The pure layer, part 34: more rules for runs. -/
namespace Pl
open PySem PySem.Spec PyProof.Rows L2
theorem dEq_tup (ns ms : List Int) : dEq (.tup (ns.map D.int)) (.tup (ms.map D.int)) = some (.bl (decide (ns = ms))) := by
  unfold dEq
  rw [if_pos ⟨pln_tup ns, pln_tup ms⟩]
  simp only [deq, toPy, toPys_ints, PyData.eqv, eqv_ints]
theorem ex_eqT {ns ms : List Int} {Q : D → Prop} : (∃ z, dEq (.tup (ns.map D.int)) (.tup (ms.map D.int)) = some z ∧ Q z) ↔ Q (.bl (decide (ns = ms))) := by rw [dEq_tup]; simp
theorem ex_eqL {ns ms : List Int} {Q : D → Prop} : (∃ z, dEq (.lst (ns.map D.int)) (.lst (ms.map D.int)) = some z ∧ Q z) ↔ Q (.bl (decide (ns = ms))) := by rw [dEq_lis]; simp
theorem ex_eqNilTI {ns : List Int} {Q : D → Prop} : (∃ z, dEq (.tup (ns.map D.int)) (.tup []) = some z ∧ Q z) ↔ Q (.bl (decide (ns = []))) := by
  rw [show (D.tup []) = .tup (([] : List Int).map D.int) from rfl, dEq_tup]; simp
theorem ex_neNilTI {ns : List Int} {Q : D → Prop} : (∃ z, dNe (.tup (ns.map D.int)) (.tup []) = some z ∧ Q z) ↔ Q (.bl (!decide (ns = []))) := by
  rw [show (D.tup []) = .tup (([] : List Int).map D.int) from rfl, dNe_tup]; simp
theorem ex_sorted {ns : List Int} {Q : OD → Prop} : (∃ z, dSorted [.lst (ns.map D.int)] = some z ∧ Q z) ↔ Q (.lst ((srt ns).map .int)) := by simp only [dSorted, lstD, Option.bind_some, dInts_map, Option.map_some]; simp
theorem map_nat (l : List Nat) : (l.map fun p : Nat => D.int p) = (l.map fun p : Nat => (p : Int)).map D.int := by rw [List.map_map]; rfl
theorem ex_reprI {i : Int} (h : i.natAbs.log2 < 1920) {Q : D → Prop} : (∃ z, dRepr [.int i] = some z ∧ Q z) ↔ Q (.str (strI i)) := by simp only [dRepr]; rw [if_pos h]; simp
end Pl
/-! The head: what it looks at beside. -/
namespace Hd
open PySem PySem.Spec PyProof.Rows L2 Pl He
theorem ba2 {a b : Bool} (h : (a && b) = true) : a = true ∧ b = true := Bool.and_eq_true_iff.mp h
/-- an own exception class over an own class over Exception -/
def exbB (K : PySem.W.Frag) (C B : Addr) : Bool := (match K.lookup C with
  | some ⟨.type "type", _, .cls cd, sl⟩ => (match cd.mro, sl.toList with
    | [.ref C', .ref B', .type e1, .type e2, .type e3], [_, _, _, _, some (.builtin n), _] => C' == C && (B' == B && (e1 == "Exception" && (e2 == "BaseException" && (e3 == "object" && (n == "Exception.__new__" && (cd.hasDict && !cd.hasDel))))))
    | _, _ => false)
  | _ => false) && (decide (PySem.W.findIn K (.ref C) "__setattr__" = some (some (.builtin "object.__setattr__"))) && (decide (PySem.W.alongIn K "__init__" (.ref B :: PySem.Px.exTl) = some (some (.builtin "Exception.__init__"))) &&
    (decide (PySem.W.subIn K (.ref C) (.type "BaseException") = some true) && (decide (PySem.W.subIn K (.ref C) (.type "Exception") = some true) && (decide (PySem.W.typeIn K (.ref C) = some (.type "type")) && (PySem.W.keepIn K (.ref C) &&
    (decide (PySem.W.nsIn K cStatics "thirdparty.any" = some none) && decide (C ≠ B))))))))
theorem exbB_ok {K : PySem.W.Frag} {C B : Addr} (h : exbB K C B = true) : PySem.Px.ExB K C B := by
  obtain ⟨h0, h⟩ := ba2 h
  obtain ⟨h1, h⟩ := ba2 h
  obtain ⟨h2, h⟩ := ba2 h
  obtain ⟨h3, h⟩ := ba2 h
  obtain ⟨h4, h⟩ := ba2 h
  obtain ⟨h5, h⟩ := ba2 h
  obtain ⟨h6, h⟩ := ba2 h
  obtain ⟨h7, h8⟩ := ba2 h
  refine ⟨?_, of_decide_eq_true h1, of_decide_eq_true h2, of_decide_eq_true h3, of_decide_eq_true h4, of_decide_eq_true h5, h6, of_decide_eq_true h7, of_decide_eq_true h8⟩
  split at h0
  · rename_i dd cd sl ho
    split at h0
    · rename_i C' B' e1 e2 e3 k0 k1 k2 k3 n k5 hm hs
      simp only [Bool.and_eq_true, beq_iff_eq, Bool.not_eq_true'] at h0
      obtain ⟨rfl, rfl, rfl, rfl, rfl, rfl, hd, hdel⟩ := h0
      obtain ⟨nm, bs, mro, ns, qn, hdc, sn, sub, ab, col, del⟩ := cd
      dsimp only at hm hdel hd
      subst hm hdel hd
      have hsl : sl = #[k0, k1, k2, k3, some (.builtin "Exception.__new__"), k5] := by
        obtain ⟨l⟩ := sl
        simp only at hs
        rw [hs]
      subst hsl
      exact ⟨nm, qn, ns, bs, sn, sub, ab, col, dd, k0, k1, k2, k3, k5, ho⟩
    · cases h0
  · cases h0
/-! ### an __init__ with the cell of its class -/
abbrev IniV : Type := Option (Str × Arguments × FuncBody × Scope × Addr × Addr)
def iniV (K : PySem.W.Frag) (p : Str × Option Str) : IniV := match K.lookup (fAd K p) with
  | some ⟨_, _, .func fd, _⟩ => some (fd.qualname, fd.params, fd.body, fd.scope, fd.globals, fd.builtins)
  | _ => none
def iniB (K : PySem.W.Frag) (P : Program) (p : Str × Option Str) (qual : Str) : Bool := match K.lookup (fAd K p) with
  | some ⟨_, _, .func fd, _⟩ => (match fd.defaults with
    | .none => true
    | _ => false) && (PySem.W.codeIn K fd.code qual && ((match fd.code with
    | .ref c => (match K.lookup c with
      | some ⟨_, _, .fields vs, _⟩ => (match (vs[2]? : Option Value) with
        | some (.str file _) => P.main.file == file
        | _ => false)
      | _ => false)
    | _ => false) && (match fd.closure with
    | [(x, cc)] => decide (x = "__class__") && (match K.lookup cc with
      | some ⟨_, _, .cell (some (.ref C)), _⟩ => decide (C = ga K p.1)
      | _ => false)
    | _ => false)))
  | _ => false
theorem iniB_ok {K : PySem.W.Frag} {P : Program} {p : Str × Option Str} {qual : Str} {st : Stmt} (h : iniB K P p qual = true) (e : iniV K p = some (qual, defArgs st, .stmts (defBody st), defScope st, mainGlobals, builtinsNs)) : PySem.Px.IniF K P (fAd K p) (ga K p.1) qual st := by
  unfold iniB at h
  unfold iniV at e
  cases q : K.lookup (fAd K p) with
  | none => rw [q] at h; cases h
  | some o =>
    obtain ⟨oc, od, dt, osl⟩ := o
    rw [q] at h e
    cases dt with
    | func fd =>
      obtain ⟨h0, h⟩ := ba2 h
      obtain ⟨h1, h⟩ := ba2 h
      obtain ⟨h2, h3⟩ := ba2 h
      obtain ⟨n1, n2, n3, n4, n5, n6, n7, n8, n9, n10, n11, n12, n13, n14, n15⟩ := fd
      have e2 : (some (n2, n3, n4, n5, n6, n15) : IniV) = some (qual, defArgs st, .stmts (defBody st), defScope st, mainGlobals, builtinsNs) := e
      simp only [Option.some.injEq, Prod.mk.injEq] at e2
      obtain ⟨k1, k2, k3, k4, k5, k6⟩ := e2
      subst k1 k2 k3 k4 k5 k6
      cases n8 <;> first | (cases h0; done) | skip
      cases n13 with
      | ref c =>
        dsimp only at h1 h2 h3
        split at h2
        · rename_i oc2 od2 vs sl2 hc2
          split at h2
          · rename_i file tf hv
            split at h3
            · rename_i x cc hcl heqq
              obtain ⟨h4, h5⟩ := ba2 h3
              have hx := of_decide_eq_true h4
              subst hx
              split at h5
              · rename_i oc3 od3 C sl3 hc3
                have hC := of_decide_eq_true h5
                subst hC
                exact ⟨n1, n9, n10, n11, n14, oc, n12, od, c, cc, osl, vs, file, tf, oc2, oc3, od2, od3, sl2, sl3, q, h1, hc2, hv, h2, hc3⟩
              · cases h5
            · cases h3
          · cases h2
        · cases h2
      | _ => cases h2
    | _ => cases h
/-! ### the Hook: over more addresses, one more value -/
def moreA (g : Addr → Option Obj) (n : Nat) : List Addr := asD g n ++ [cStatics]
structure SaysY {β : Type} (fa : List Fa) (fn : List DefD) (tf : List Defn) (ex : PySem.W.Frag → Bool) (ob : PySem.W.Frag → β) (v : β) (w : World) (h : Heap) (K : PySem.W.Frag) : Prop where
  x : SaysX fa fn [] tf ex w h K
  y : ob K = v
abbrev AlY (β : Type) : Type := AlT × (Bool × (Bool × β))
def obsK {β : Type} (fa : List Fa) (fn : List DefD) (tf : List Defn) (ex : PySem.W.Frag → Bool) (ob : PySem.W.Frag → β) (g : Addr → Option Obj) (K : PySem.W.Frag) : AlY β := (obsT fa fn [] K, (ex K, (tabsB g tf K, ob K)))
def obsY {β : Type} (n : Nat) (fa : List Fa) (fn : List DefD) (tf : List Defn) (ex : PySem.W.Frag → Bool) (ob : PySem.W.Frag → β) (g : Addr → Option Obj) : AlY β := obsK fa fn tf ex ob g (frT g (moreA g n))
theorem saysY_of {β : Type} {fa : List Fa} {fn : List DefD} {tf : List Defn} {ex : PySem.W.Frag → Bool} {ob : PySem.W.Frag → β} {v : β} {w : World} {h : Heap} {as : List Addr} (e : obsK fa fn tf ex ob h.get? (frT h.get? as) = (valT fn [] w, (true, (true, v)))) : SaysY fa fn tf ex ob v w h (frT h.get? as) := by
  generalize hK : frT h.get? as = K at e
  have e2 : ex K = true := congrArg (fun z : AlY β => z.2.1) e
  have e3 : tabsB h.get? tf K = true := congrArg (fun z : AlY β => z.2.2.1) e
  have tab : ∀ p : Defn, p ∈ tf → PySem.W.codeHdIn K (cT K p).1 (cT K p).2 = true ∧ h.get? (cT K p).2 = some { cls := .none, data := .fields #[] } ∧ K.lookup (cT K p).2 = none := by
    intro p hp
    have z := List.all_eq_true.mp e3 p hp
    obtain ⟨z1, z2⟩ := ba2 z
    cases q : h.get? (cT K p).2 with
    | none => rw [q] at z2; cases z2
    | some o =>
      rw [q] at z2
      refine ⟨z1, congrArg some (emptyTab_eq z2), ?_⟩
      rw [← hK] at q ⊢
      exact frT_none q z2
  exact ⟨⟨congrArg (fun z : AlY β => z.1) e, e2, fun p hp => (tab p hp).1, fun p hp => (tab p hp).2.2, fun p hp => (tab p hp).2.1⟩, congrArg (fun z : AlY β => z.2.2.2) e⟩
def hookY {β : Type} (n : Nat) (fa : List Fa) (fn : List DefD) (tf : List Defn) (ex : PySem.W.Frag → Bool) (ob : PySem.W.Frag → β) (v : β) : PySem.W.Hook where
  α := AlY β
  obs := fun s => obsY n fa fn tf ex ob s.heap.get?
  val := fun w => (valT fn [] w, (true, (true, v)))
  says := fun w h => ∃ K : PySem.W.Frag, K.In h ∧ SaysY fa fn tf ex ob v w h K
  of := fun _ s e => ⟨_, frT_in (as := moreA s.heap.get? n), saysY_of e⟩
  keeps := fun _ _ _ z k => let ⟨K, i, c⟩ := z; ⟨K, PySem.W.Frag.In.keeps i k, ⟨⟨c.x.t, c.x.more, c.x.hd, c.x.out, fun p hp => k _ _ (c.x.empty p hp)⟩, c.y⟩⟩
theorem obsY_eq {β : Type} {n : Nat} {fa : List Fa} {fn : List DefD} {tf : List Defn} {ex : PySem.W.Frag → Bool} {ob : PySem.W.Frag → β} {v : β} {g : Addr → Option Obj} {s : Shared} (h : ∀ a, g a = s.heap.get? a) : obsY n fa fn tf ex ob g = (hookY n fa fn tf ex ob v).obs s := by
  obtain rfl : g = s.heap.get? := funext h
  rfl
/-! ### shapes -/
section
variable {P : Program} {w : World} {K : PySem.W.Frag} {mg : Str → Option Value} {base : Heap} {x qual : Str} {params : Arguments} {body : List Stmt} {scope : Scope} {f : Addr} {fd : FuncData} {ps : List Str} {k : Nat} {sp : Sp}
theorem FnD.fi (D0 : FunD K x qual params body scope [] [] f fd) : PySem.W.fnIn K f = true := by
  obtain ⟨oc, od, dV, kV, doc, pm, an, cdv, ct, osl, rfl, lk, _⟩ := D0.ex
  unfold PySem.W.fnIn
  rw [lk]
theorem mkD_of {C : Addr} {y : Str} (D0 : FunD K x qual params body scope [] [] f fd) (hm : mg y = some (.ref C)) (mk : Mk K C f)
    (hb : ∀ (kV doc pm : Value) (an : Option Addr) (cdv ct : Value) (us : List Value), us.length = ps.length → bindArgs (PySem.W.fnOf x qual params body scope .none kV doc pm an cdv ct) ⟨us, []⟩ = pure (ps.zip us))
    (ok : FnOk P w K mg base (L2.CX P w) k f fd ps sp) : MkD P w K mg base k y C ps sp := ⟨f, fd, hm, mk, D0.bindsN hb, ok⟩
theorem spD_of {C : Addr} {m : Str} (D0 : FunD K x qual params body scope [] [] f fd) (mt : Meth K C m f)
    (hb : ∀ (kV doc pm : Value) (an : Option Addr) (cdv ct : Value) (us : List Value), us.length = ps.length → bindArgs (PySem.W.fnOf x qual params body scope .none kV doc pm an cdv ct) ⟨us, []⟩ = pure (ps.zip us))
    (ok : FnOk P w K mg base (L2.CX P w) k f fd ps sp) : SpD P w K mg base k C m sp :=
  ⟨f, mt.1, mt.2, FnD.fi D0, (FnOk.raw ok (D0.bindsN hb) .nil).imp fun vs H Q E h => by rw [List.append_nil]; exact h⟩
end
end Hd
namespace Mt
/-- 0 .. n-1 -/
def ir (n : Nat) : List Int := (List.range n).map fun i : Nat => (i : Int)
theorem ir_len (n : Nat) : (ir n).length = n := by simp [ir]
theorem mem_ir {n : Nat} {c : Int} : c ∈ ir n ↔ 0 ≤ c ∧ c < n := by
  simp only [ir, List.mem_map, List.mem_range]
  constructor
  · rintro ⟨a, h, rfl⟩; omega
  · intro h; exact ⟨c.toNat, by omega, by omega⟩
theorem ir_nodup (n : Nat) : (ir n).Nodup := by
  unfold ir
  rw [List.nodup_iff_pairwise_ne, List.pairwise_map]
  exact List.nodup_range.imp (by intro a b h; omega)
theorem ir_get {n : Nat} {c : Int} (h : 0 ≤ c ∧ c < n) : (ir n)[c.toNat]? = some c := by
  simp only [ir, List.getElem?_map]
  rw [List.getElem?_range (by omega)]
  simp only [Option.map_some, Option.some.injEq]; omega
/-- as many unlike things as there are are all -/
theorem all_of_nodup {α : Type} [DecidableEq α] : ∀ {l' l : List α}, l.Nodup → (∀ x ∈ l, x ∈ l') → l'.length ≤ l.length → ∀ x ∈ l', x ∈ l
  | l', [], _, _, hl, x, hx => by
    cases l' with
    | nil => exact hx
    | cons _ _ => simp at hl
  | l', a :: l, hn, hs, hl, x, hx => by
    rw [List.nodup_cons] at hn
    by_cases e : x = a
    · rw [e]; exact List.mem_cons_self
    · have ha : a ∈ l' := hs a List.mem_cons_self
      have h2 := all_of_nodup (l' := l'.erase a) (l := l) hn.2 (fun y hy => by
        have : y ≠ a := fun z => hn.1 (z ▸ hy)
        exact (List.mem_erase_of_ne this).mpr (hs y (List.mem_cons_of_mem _ hy))) (by
        rw [List.length_erase_of_mem ha]; simp only [List.length_cons] at hl; omega) x ((List.mem_erase_of_ne e).mpr hx)
      exact List.mem_cons_of_mem _ h2
/-- one to one below m -/
def Inj (m : Nat) (g : Int → Int) : Prop := (∀ c : Int, 0 ≤ c → c < m → 0 ≤ g c ∧ g c < m) ∧ ∀ c d : Int, 0 ≤ c → c < m → 0 ≤ d → d < m → g c = g d → c = d
theorem nodup_map {α β : Type} {g : α → β} : ∀ {l : List α}, l.Nodup → (∀ x ∈ l, ∀ y ∈ l, g x = g y → x = y) → (l.map g).Nodup
  | [], _, _ => List.nodup_nil
  | a :: l, h, hi => by
    rw [List.nodup_cons] at h
    rw [List.map_cons, List.nodup_cons]
    refine ⟨fun hm => ?_, nodup_map h.2 fun x hx y hy => hi x (List.mem_cons_of_mem _ hx) y (List.mem_cons_of_mem _ hy)⟩
    obtain ⟨x, hx, e⟩ := List.mem_map.mp hm
    exact h.1 (hi x (List.mem_cons_of_mem _ hx) a List.mem_cons_self e ▸ hx)
theorem Inj.onto {m : Nat} {g : Int → Int} (h : Inj m g) {o : Int} (ho : 0 ≤ o ∧ o < m) : ∃ c : Int, 0 ≤ c ∧ c < m ∧ g c = o := by
  have hn : ((ir m).map g).Nodup := nodup_map (ir_nodup m) fun x hx y hy e => h.2 x y (mem_ir.mp hx).1 (mem_ir.mp hx).2 (mem_ir.mp hy).1 (mem_ir.mp hy).2 e
  have := all_of_nodup (l' := ir m) hn (fun x hx => by
    obtain ⟨y, hy, rfl⟩ := List.mem_map.mp hx
    exact mem_ir.mpr (h.1 y (mem_ir.mp hy).1 (mem_ir.mp hy).2)) (by simp) o (mem_ir.mpr ho)
  obtain ⟨c, hc, e⟩ := List.mem_map.mp this
  exact ⟨c, (mem_ir.mp hc).1, (mem_ir.mp hc).2, e⟩
theorem filter_one {α : Type} {p : α → Bool} {a : α} : ∀ {l : List α}, l.Nodup → a ∈ l → (∀ x ∈ l, p x = true ↔ x = a) → l.filter p = [a]
  | [], _, h, _ => by cases h
  | b :: l, hn, hm, hp => by
    rw [List.nodup_cons] at hn
    by_cases e : b = a
    · subst e
      rw [List.filter_cons_of_pos ((hp b List.mem_cons_self).mpr rfl), List.filter_eq_nil_iff.mpr]
      intro x hx hpx
      exact hn.1 ((hp x (List.mem_cons_of_mem _ hx)).mp hpx ▸ hx)
    · rw [List.filter_cons_of_neg (fun z => e ((hp b List.mem_cons_self).mp z))]
      exact filter_one hn.2 ((List.mem_cons.mp hm).resolve_left (Ne.symm e)) fun x hx => hp x (List.mem_cons_of_mem _ hx)
/-! ### sums over contents -/
theorem sum_ite {α : Type} (P : α → Prop) [DecidablePred P] (a b : Int) : ∀ l : List α, (l.map fun c => if P c then a else b).sum = (l.countP fun c => decide (P c)) * (a - b) + l.length * b
  | [] => by simp
  | c :: l => by
    simp only [List.map_cons, List.sum_cons, sum_ite P a b l, List.countP_cons, List.length_cons]
    by_cases h : P c
    · simp only [h, if_true, decide_true]; simp only [Int.natCast_add, Int.add_mul]; omega
    · simp only [h, if_false, decide_false]; simp only [Int.natCast_add, Int.add_mul]; simp; omega
theorem Inj.count {m : Nat} {g : Int → Int} (h : Inj m g) {o : Int} (ho : 0 ≤ o ∧ o < m) : (ir m).countP (fun c => decide (g c = o)) = 1 := by
  obtain ⟨c, h1, h2, h3⟩ := h.onto ho
  rw [List.countP_eq_length_filter, filter_one (ir_nodup m) (mem_ir.mpr ⟨h1, h2⟩) fun x hx => ?_]
  · rfl
  · rw [decide_eq_true_eq]
    constructor
    · intro e; exact h.2 x c (mem_ir.mp hx).1 (mem_ir.mp hx).2 h1 h2 (e.trans h3.symm)
    · intro e; rw [e, h3]
theorem count_self {m : Nat} {c : Int} (hc : 0 ≤ c ∧ c < m) : (ir m).countP (fun x => decide (x = c)) = 1 := Inj.count (g := fun x => x) ⟨fun c a b => ⟨a, b⟩, fun _ _ _ _ _ _ e => e⟩ hc
theorem sum_sub {α : Type} (f g : α → Int) : ∀ l : List α, (l.map fun c => f c - g c).sum = (l.map f).sum - (l.map g).sum
  | [] => by simp
  | c :: l => by simp only [List.map_cons, List.sum_cons, sum_sub f g l]; omega
theorem sum_congr {α : Type} {f g : α → Int} {l : List α} (h : ∀ x ∈ l, f x = g x) : (l.map f).sum = (l.map g).sum := by rw [List.map_congr_left h]
/-- over all contents but one -/
theorem Inj.sum {m : Nat} {g : Int → Int} (h : Inj m g) {o s0 : Int} (ho : 0 ≤ o ∧ o < m) (hs : 0 ≤ s0 ∧ s0 < m) (a b : Int) :
    ((ir m).map fun c => if c = s0 then 0 else if g c = o then a else b).sum = if o = g s0 then b * (m - 1) else a + b * (m - 2) := by
  have e : ((ir m).map fun c => if c = s0 then 0 else if g c = o then a else b).sum = ((ir m).map fun c => (if g c = o then a else b) - (if c = s0 then (if g s0 = o then a else b) else 0)).sum := sum_congr fun x _ => by
    by_cases z : x = s0
    · subst z; simp
    · simp [z]
  rw [e, sum_sub, sum_ite, sum_ite, Inj.count h ho, count_self hs, ir_len]
  by_cases z : o = g s0
  · rw [if_pos z, if_pos z.symm]; grind
  · rw [if_neg z, if_neg (Ne.symm z)]; grind
/-! ### settings -/
def vecs (m : Nat) : List Bool → List (List Int)
  | [] => [[]]
  | b :: bs => (if b then ir m else [0]).flatMap fun c => (vecs m bs).map (c :: ·)
theorem vecs_snoc (m : Nat) (b : Bool) : ∀ bs : List Bool, vecs m (bs ++ [b]) = (vecs m bs).flatMap fun t => (if b then ir m else [0]).map fun c => t ++ [c]
  | [] => by simp only [vecs, List.nil_append, List.map_cons, List.map_nil, List.flatMap_cons, List.flatMap_nil, List.append_nil]; exact (List.map_eq_flatMap ..).symm
  | b0 :: bs => by
    rw [List.cons_append]
    simp only [vecs, vecs_snoc m b bs, List.map_flatMap, List.flatMap_assoc, List.flatMap_map, List.map_map]
    rfl
abbrev sets (m n : Nat) : List (List Int) := vecs m (List.replicate n true)
def Val (m n : Nat) (s : List Int) : Prop := s.length = n ∧ ∀ c ∈ s, 0 ≤ c ∧ c < m
theorem Val.nil (m : Nat) : Val m 0 [] := ⟨rfl, fun _ h => by cases h⟩
theorem Val.cons {m n : Nat} {c : Int} {s : List Int} (h : 0 ≤ c ∧ c < m) (v : Val m n s) : Val m (n + 1) (c :: s) := ⟨by simp [v.1], fun x hx => (List.mem_cons.mp hx).elim (fun e => e ▸ h) (v.2 x)⟩
theorem Val.hd {m n : Nat} {c : Int} {s : List Int} (v : Val m (n + 1) (c :: s)) : 0 ≤ c ∧ c < m := v.2 c List.mem_cons_self
theorem Val.tl {m n : Nat} {c : Int} {s : List Int} (v : Val m (n + 1) (c :: s)) : Val m n s := ⟨by have := v.1; simp at this; exact this, fun x hx => v.2 x (List.mem_cons_of_mem _ hx)⟩
theorem Val.ex {m n : Nat} {s : List Int} (v : Val m (n + 1) s) : ∃ c t, s = c :: t := by
  cases s with
  | nil => have := v.1; simp at this
  | cons c t => exact ⟨c, t, rfl⟩
theorem Val.get {m n p : Nat} {s : List Int} (v : Val m n s) (h : p < n) : ∃ c, s[p]? = some c ∧ 0 ≤ c ∧ c < m := by
  have : p < s.length := by rw [v.1]; exact h
  exact ⟨s[p], List.getElem?_eq_getElem this, v.2 _ (List.getElem_mem this)⟩
theorem Val.set {m n p : Nat} {c : Int} {s : List Int} (v : Val m n s) (h : 0 ≤ c ∧ c < m) : Val m n (s.set p c) := ⟨by rw [List.length_set, v.1], fun x hx => (List.mem_or_eq_of_mem_set hx).elim (v.2 x) (fun e => e ▸ h)⟩
theorem vecs_val {m : Nat} (hm : 0 < m) : ∀ {bs : List Bool} {t : List Int}, t ∈ vecs m bs → Val m bs.length t
  | [], t, h => by simp [vecs] at h; subst h; exact Val.nil m
  | b :: bs, t, h => by
    simp only [vecs, List.mem_flatMap, List.mem_map] at h
    obtain ⟨c, hc, t', ht, rfl⟩ := h
    refine Val.cons ?_ (vecs_val hm ht)
    cases b
    · simp at hc; omega
    · exact mem_ir.mp (by simpa using hc)
theorem mem_sets {m : Nat} : ∀ {n : Nat} {s : List Int}, Val m n s → s ∈ sets m n
  | 0, s, v => by
    have := List.length_eq_zero_iff.mp v.1
    simp [sets, vecs, this]
  | n + 1, s, v => by
    obtain ⟨c, t, rfl⟩ := v.ex
    simp only [sets, List.replicate_succ, vecs, List.mem_flatMap, List.mem_map, if_true]
    exact ⟨c, mem_ir.mpr v.hd, t, mem_sets v.tl, rfl⟩
theorem sets_len (m : Nat) : ∀ n : Nat, (sets m n).length = m ^ n
  | 0 => rfl
  | n + 1 => by
    have ih := sets_len m n
    simp only [sets, List.replicate_succ, vecs, if_true, List.length_flatMap, List.length_map] at ih ⊢
    rw [ih, List.map_const', List.sum_replicate_nat, ir_len, Nat.pow_succ, Nat.mul_comm]
/-- a setting's number -/
def num (m : Nat) (s : List Int) : Int := s.foldl (fun a c => a * m + c) 0
theorem num_snoc (m : Nat) (s : List Int) (c : Int) : num m (s ++ [c]) = num m s * m + c := by simp [num]
theorem foldl_num (m : Nat) : ∀ (s : List Int) (a : Int), s.foldl (fun a c : Int => a * m + c) a = a * m ^ s.length + num m s
  | [], a => by simp [num]
  | c :: s, a => by
    have e : num m (c :: s) = (0 * m + c) * m ^ s.length + num m s := foldl_num m s (0 * m + c)
    rw [List.foldl_cons, foldl_num m s, e, List.length_cons]
    grind
theorem num_cons (m : Nat) (c : Int) (s : List Int) : num m (c :: s) = c * m ^ s.length + num m s := by
  have e : num m (c :: s) = (0 * m + c) * m ^ s.length + num m s := foldl_num m s (0 * m + c)
  rw [e, Int.zero_mul, Int.zero_add]
theorem num_lt {m : Nat} : ∀ {n : Nat} {s : List Int}, Val m n s → 0 ≤ num m s ∧ num m s < (m ^ n : Nat)
  | 0, s, v => by
    have := List.length_eq_zero_iff.mp v.1
    simp [this, num]
  | n + 1, s, v => by
    obtain ⟨c, t, rfl⟩ := v.ex
    obtain ⟨h1, h2⟩ := num_lt v.tl
    obtain ⟨h3, h4⟩ := v.hd
    rw [num_cons, v.tl.1]
    have e : ((m : Int) ^ n) = ((m ^ n : Nat) : Int) := by simp
    rw [e]
    have h5 : 0 ≤ c * ((m ^ n : Nat) : Int) := Int.mul_nonneg h3 (Int.natCast_nonneg _)
    have h6 : (c + 1) * ((m ^ n : Nat) : Int) ≤ m * ((m ^ n : Nat) : Int) := Int.mul_le_mul_of_nonneg_right (by omega) (Int.natCast_nonneg _)
    rw [Int.add_mul, Int.one_mul] at h6
    have e2 : ((m ^ (n + 1) : Nat) : Int) = m * ((m ^ n : Nat) : Int) := by rw [Nat.pow_succ, Nat.mul_comm]; simp
    rw [e2]
    omega
theorem flatMap_get {α β : Type} {k : Nat} {g : α → List β} (hg : ∀ a, (g a).length = k) : ∀ (l : List α) (i j : Nat), j < k → (l.flatMap g)[i * k + j]? = (l[i]?).bind fun a => (g a)[j]?
  | [], i, j, h => by simp
  | a :: l, 0, j, h => by
    rw [List.flatMap_cons, Nat.zero_mul, Nat.zero_add, List.getElem?_append_left (by rw [hg]; exact h)]
    simp
  | a :: l, i + 1, j, h => by
    rw [List.flatMap_cons, List.getElem?_append_right (by rw [hg, Nat.add_mul]; omega), hg]
    have e : (i + 1) * k + j - k = i * k + j := by rw [Nat.add_mul]; omega
    rw [e, flatMap_get hg l i j h]
    simp
theorem sets_get {m : Nat} : ∀ {n : Nat} {s : List Int}, Val m n s → (sets m n)[(num m s).toNat]? = some s
  | 0, s, v => by
    have := List.length_eq_zero_iff.mp v.1
    simp [this, num, sets, vecs]
  | n + 1, s, v => by
    obtain ⟨c, t, rfl⟩ := v.ex
    obtain ⟨h1, h2⟩ := num_lt v.tl
    obtain ⟨h3, h4⟩ := v.hd
    have e : (num m (c :: t)).toNat = c.toNat * m ^ n + (num m t).toNat := by
      rw [num_cons, v.tl.1]
      have e1 : ((c.toNat * m ^ n + (num m t).toNat : Nat) : Int) = c * (m : Int) ^ n + num m t := by
        rw [Int.natCast_add, Int.natCast_mul, Int.natCast_pow]
        rw [Int.toNat_of_nonneg h3, Int.toNat_of_nonneg h1]
      rw [← e1]
      exact Int.toNat_natCast _
    rw [e]
    simp only [sets, List.replicate_succ, vecs, if_true]
    rw [flatMap_get (k := m ^ n) (fun a => by rw [List.length_map]; exact sets_len m n) _ _ _ (by omega), ir_get v.hd]
    simp only [Option.bind_some, List.getElem?_map]
    have ih := sets_get v.tl
    simp only [sets] at ih
    rw [ih]
    rfl
theorem num_inj {m n : Nat} {s t : List Int} (hs : Val m n s) (ht : Val m n t) (e : num m s = num m t) : s = t := by
  have h1 := sets_get hs
  rw [e, sets_get ht] at h1
  exact (Option.some.inj h1).symm
theorem sets_nodup {m : Nat} (hm : 0 < m) : ∀ n : Nat, (sets m n).Nodup
  | 0 => by simp [sets, vecs]
  | n + 1 => by
    simp only [sets, List.replicate_succ, vecs, if_true]
    rw [List.nodup_iff_pairwise_ne, List.pairwise_flatMap]
    refine ⟨fun c _ => ?_, ?_⟩
    · rw [List.pairwise_map]
      exact (List.nodup_iff_pairwise_ne.mp (sets_nodup hm n)).imp fun h e => h (List.cons.inj e).2
    · refine (List.nodup_iff_pairwise_ne.mp (ir_nodup m)).imp fun {a b} h x hx y hy e => ?_
      obtain ⟨x', _, rfl⟩ := List.mem_map.mp hx
      obtain ⟨y', _, rfl⟩ := List.mem_map.mp hy
      exact h (List.cons.inj e).1
theorem sets_of_lt {m n k : Nat} (h : k < m ^ n) (hm : 0 < m) : ∃ s, (sets m n)[k]? = some s ∧ Val m n s ∧ num m s = k := by
  have hk : k < (sets m n).length := by rw [sets_len]; exact h
  have hv : Val m n (sets m n)[k] := by have := vecs_val hm (List.getElem_mem hk); simpa using this
  refine ⟨_, List.getElem?_eq_getElem hk, hv, ?_⟩
  obtain ⟨h1, h2⟩ := num_lt hv
  have h3 := sets_get hv
  obtain ⟨h4, h5⟩ := List.getElem?_eq_some_iff.mp h3
  have := (List.getElem_inj (sets_nodup hm n)).mp h5
  omega
/-! ### fair -/
def FairF (m n : Nat) (f : List Int → Int) : Prop := (∀ s, Val m n s → 0 ≤ f s ∧ f s < m) ∧ ∀ (s : List Int) (p : Nat) (c d : Int), Val m n s → p < n → 0 ≤ c → c < m → 0 ≤ d → d < m → f (s.set p c) = f (s.set p d) → c = d
theorem FairF.inj {m n p : Nat} {f : List Int → Int} (h : FairF m n f) {s : List Int} (v : Val m n s) (hp : p < n) : Inj m fun c => f (s.set p c) :=
  ⟨fun c a b => h.1 _ (v.set ⟨a, b⟩), fun c d a b a' b' e => h.2 s p c d v hp a b a' b' e⟩
theorem FairF.cons {m n : Nat} {f : List Int → Int} (h : FairF m (n + 1) f) {c : Int} (hc : 0 ≤ c ∧ c < m) : FairF m n fun t => f (c :: t) :=
  ⟨fun s v => h.1 _ (v.cons hc), fun s p a b v hp a0 a1 b0 b1 e => h.2 (c :: s) (p + 1) a b (v.cons hc) (by omega) a0 a1 b0 b1 e⟩
def chg : List Bool → List Int → List Int → Bool
  | b :: bs, s0 :: s, t0 :: t => (!b || decide (t0 ≠ s0)) && chg bs s t
  | _, _, _ => true
def mrg : List Bool → List Int → List Int → List Int
  | b :: bs, s0 :: s, t0 :: t => (if b then t0 else s0) :: mrg bs s t
  | _, _, _ => []
def chm (m : Nat) : Nat → Int × Int
  | 0 => (1, 0)
  | k + 1 => ((chm m k).2 * (m - 1), (chm m k).1 + (chm m k).2 * (m - 2))
def ones (bs : List Bool) : Nat := (bs.filter id).length
theorem countP_flatMap' {α β : Type} (p : β → Bool) (g : α → List β) : ∀ l : List α, (((l.flatMap g).countP p : Nat) : Int) = (l.map fun a => (((g a).countP p : Nat) : Int)).sum
  | [] => by simp
  | a :: l => by rw [List.flatMap_cons, List.countP_append, List.map_cons, List.sum_cons, ← countP_flatMap' p g l]; simp
theorem counts {m : Nat} : ∀ {bs : List Bool} {f : List Int → Int} {s : List Int} {o : Int}, FairF m bs.length f → Val m bs.length s → 0 ≤ o ∧ o < m →
    (((vecs m bs).countP fun t => chg bs s t && decide (f (mrg bs s t) = o) : Nat) : Int) = if o = f s then (chm m (ones bs)).1 else (chm m (ones bs)).2
  | [], f, s, o, hf, hs, ho => by
    have := List.length_eq_zero_iff.mp hs.1
    subst this
    show (((([[]] : List (List Int)).countP fun t => true && decide (f [] = o) : Nat) : Int)) = if o = f [] then 1 else 0
    by_cases e : o = f []
    · rw [if_pos e]; simp [e]
    · rw [if_neg e]; simp [Ne.symm e]
  | b :: bs, f, s, o, hf, hs, ho => by
    obtain ⟨s0, s', rfl⟩ := hs.ex
    have h0 := hs.hd
    have ht := hs.tl
    cases b with
    | false =>
      have ih := counts (hf.cons h0) ht ho
      simp only [vecs, Bool.false_eq_true, if_false, List.flatMap_cons, List.flatMap_nil, List.append_nil, List.countP_map]
      have e : ones (false :: bs) = ones bs := by simp [ones]
      rw [e, ← ih]
      congr 1
    | true =>
      have e : ones (true :: bs) = ones bs + 1 := by simp [ones]
      simp only [vecs, if_true]
      rw [countP_flatMap', e]
      have inj : Inj m fun c => f (c :: s') := hf.inj (p := 0) hs (by simp)
      have e2 := inj.sum ho h0 (chm m (ones bs)).1 (chm m (ones bs)).2
      rw [show chm m (ones bs + 1) = ((chm m (ones bs)).2 * (m - 1), (chm m (ones bs)).1 + (chm m (ones bs)).2 * (m - 2)) from rfl, ← e2]
      refine sum_congr fun c hc => ?_
      have hc' := mem_ir.mp hc
      have ih := counts (hf.cons hc') ht ho
      rw [List.countP_map]
      by_cases z : c = s0
      · rw [if_pos z]
        subst z
        have e3 : ((fun t => chg (true :: bs) (c :: s') t && decide (f (mrg (true :: bs) (c :: s') t) = o)) ∘ fun x => c :: x) = fun _ => false := by
          funext t; simp [chg]
        rw [e3]; simp
      · rw [if_neg z]
        have e4 : (if f (c :: s') = o then (chm m (ones bs)).1 else (chm m (ones bs)).2) = if o = f (c :: s') then (chm m (ones bs)).1 else (chm m (ones bs)).2 := by
          by_cases y : o = f (c :: s')
          · rw [if_pos y, if_pos y.symm]
          · rw [if_neg y, if_neg (Ne.symm y)]
        rw [e4, ← ih]
        congr 1
        congr 1
        funext t
        simp [chg, mrg, z]
/-! ### the formula -/
theorem chm_sum (m : Nat) : ∀ k : Nat, (chm m k).1 + (chm m k).2 * (m - 1) = ((m : Int) - 1) ^ k
  | 0 => by simp [chm]
  | k + 1 => by
    have ih := chm_sum m k
    show (chm m k).2 * (m - 1) + ((chm m k).1 + (chm m k).2 * (m - 2)) * (m - 1) = _
    rw [Int.pow_succ, ← ih, ← Int.add_mul]
    congr 1
    rw [Int.mul_sub, Int.mul_sub]; omega
theorem chm_alt (m : Nat) : ∀ k : Nat, (chm m k).1 * m = ((m : Int) - 1) ^ k + (-1) ^ k * (m - 1)
  | 0 => by simp [chm]; omega
  | k + 1 => by
    have ih := chm_alt m k
    have h2 := chm_sum m k
    show (chm m k).2 * (m - 1) * m = _
    have e1 : (chm m k).2 * (m - 1) = ((m : Int) - 1) ^ k - (chm m k).1 := by omega
    rw [e1, Int.sub_mul, ih]
    grind
end Mt
namespace Mt
/-! ### drawn boards are fair -/
/-- a list's item -/
def lk (l : List Int) (c : Int) : Int := l.getD c.toNat 0
/-- all numbers below m, in some order -/
def Pm (m : Nat) (l : List Int) : Prop := l.Perm (ir m)
theorem Pm.len {m : Nat} {l : List Int} (h : Pm m l) : l.length = m := by rw [h.length_eq, ir_len]
theorem Pm.get {m : Nat} {l : List Int} (h : Pm m l) {c : Int} (hc : 0 ≤ c ∧ c < m) : l[c.toNat]? = some (lk l c) := by
  have : c.toNat < l.length := by rw [h.len]; omega
  rw [lk, List.getD_eq_getElem?_getD, List.getElem?_eq_getElem this]; rfl
theorem Pm.inj {m : Nat} {l : List Int} (h : Pm m l) : Inj m (lk l) := by
  refine ⟨fun c a b => ?_, fun c d a b a' b' e => ?_⟩
  · have := List.mem_of_getElem? (h.get ⟨a, b⟩)
    exact mem_ir.mp (h.mem_iff.mp this)
  · have h1 := h.get ⟨a, b⟩
    have h2 := h.get ⟨a', b'⟩
    rw [e] at h1
    have hn : l.Nodup := h.symm.nodup (ir_nodup m)
    obtain ⟨q1, e1⟩ := List.getElem?_eq_some_iff.mp h1
    obtain ⟨q2, e2⟩ := List.getElem?_eq_some_iff.mp h2
    have := (List.getElem_inj hn).mp (e1.trans e2.symm)
    omega
/-- low sum, high sum, place of the bend -/
def tb : List (List Int) → List Int → Int × Int × Int → Int × Int × Int
  | r :: rs, c :: s, a => tb rs s (a.1 + lk r c, a.2.1 + lk r c / 2, a.2.2 * 2 + lk r c / 2)
  | _, _, a => a
def Rows (m n : Nat) (rs : List (List Int)) : Prop := rs.length = n ∧ ∀ r ∈ rs, Pm m r
theorem Rows.ex {m n : Nat} {rs : List (List Int)} (h : Rows m (n + 1) rs) : ∃ r t, rs = r :: t ∧ Pm m r ∧ Rows m n t := by
  cases rs with
  | nil => have := h.1; simp at this
  | cons r t => exact ⟨r, t, rfl, h.2 r List.mem_cons_self, by have := h.1; simp at this; exact this, fun x hx => h.2 x (List.mem_cons_of_mem _ hx)⟩
theorem tb_at {m : Nat} (hm : m = 4) : ∀ {n : Nat} {rs : List (List Int)} {s : List Int} (a : Int × Int × Int) (k : Nat), Rows m n rs → Val m n s → 0 ≤ a.2.2 ∧ a.2.2 < (2 ^ k : Nat) → 0 ≤ (tb rs s a).2.2 ∧ (tb rs s a).2.2 < (2 ^ (k + n) : Nat)
  | 0, rs, s, a, k, h, v, ha => by
    have := List.length_eq_zero_iff.mp v.1
    have := List.length_eq_zero_iff.mp h.1
    subst_vars
    exact ha
  | n + 1, rs, s, a, k, h, v, ha => by
    obtain ⟨r, t, rfl, hr, ht⟩ := h.ex
    obtain ⟨c, u, rfl⟩ := v.ex
    have hi := hr.inj.1 c v.hd.1 v.hd.2
    have := tb_at hm (a.1 + lk r c, a.2.1 + lk r c / 2, a.2.2 * 2 + lk r c / 2) (k + 1) ht v.tl (by
      rw [Nat.pow_succ]; simp only; subst hm; omega)
    rw [show k + (n + 1) = k + 1 + n by omega]
    exact this
theorem tb_diff {m : Nat} (hm : m = 4) : ∀ {n : Nat} {rs : List (List Int)} {s : List Int} (a b : Int × Int × Int), Rows m n rs → Val m n s → (a.2.2 = b.2.2 → (tb rs s a).2.2 = (tb rs s b).2.2) ∧ (tb rs s a).1 - (tb rs s b).1 = a.1 - b.1 ∧ (tb rs s a).2.1 - (tb rs s b).2.1 = a.2.1 - b.2.1
  | 0, rs, s, a, b, h, v => by
    have := List.length_eq_zero_iff.mp v.1
    have := List.length_eq_zero_iff.mp h.1
    subst_vars
    exact ⟨fun e => e, rfl, rfl⟩
  | n + 1, rs, s, a, b, h, v => by
    obtain ⟨r, t, rfl, hr, ht⟩ := h.ex
    obtain ⟨c, u, rfl⟩ := v.ex
    obtain ⟨h1, h2, h3⟩ := tb_diff hm (a.1 + lk r c, a.2.1 + lk r c / 2, a.2.2 * 2 + lk r c / 2) (b.1 + lk r c, b.2.1 + lk r c / 2, b.2.2 * 2 + lk r c / 2) ht v.tl
    simp only at h1 h2 h3
    exact ⟨fun e => h1 (by rw [e]), by show (tb t u _).1 - (tb t u _).1 = _; omega, by show (tb t u _).2.1 - (tb t u _).2.1 = _; omega⟩
/-- one part changed -/
theorem tb_set {m : Nat} (hm : m = 4) : ∀ {n p : Nat} {rs : List (List Int)} {s : List Int} {c d : Int} (a : Int × Int × Int), Rows m n rs → Val m n s → p < n → 0 ≤ c ∧ c < m → 0 ≤ d ∧ d < m →
    ∃ x y : Int, (0 ≤ x ∧ x < 4) ∧ (0 ≤ y ∧ y < 4) ∧ (x = y → c = d) ∧ (tb rs (s.set p c) a).1 - (tb rs (s.set p d) a).1 = x - y ∧ (tb rs (s.set p c) a).2.1 - (tb rs (s.set p d) a).2.1 = x / 2 - y / 2 ∧ (x / 2 = y / 2 → (tb rs (s.set p c) a).2.2 = (tb rs (s.set p d) a).2.2)
  | 0, p, rs, s, c, d, a, h, v, hp, hc, hd => by omega
  | n + 1, p, rs, s, c, d, a, h, v, hp, hc, hd => by
    obtain ⟨r, t, rfl, hr, ht⟩ := h.ex
    obtain ⟨c0, u, rfl⟩ := v.ex
    cases p with
    | zero =>
      have i1 := hr.inj.1 c hc.1 hc.2
      have i2 := hr.inj.1 d hd.1 hd.2
      obtain ⟨h1, h2, h3⟩ := tb_diff hm (a.1 + lk r c, a.2.1 + lk r c / 2, a.2.2 * 2 + lk r c / 2) (a.1 + lk r d, a.2.1 + lk r d / 2, a.2.2 * 2 + lk r d / 2) ht v.tl
      simp only at h1 h2 h3
      subst hm
      refine ⟨lk r c, lk r d, i1, i2, fun e => hr.inj.2 c d hc.1 hc.2 hd.1 hd.2 e, ?_, ?_, fun e => ?_⟩
      · show (tb t u _).1 - (tb t u _).1 = _; omega
      · show (tb t u _).2.1 - (tb t u _).2.1 = _; omega
      · exact h1 (by rw [e])
    | succ p => exact tb_set hm (a.1 + lk r c0, a.2.1 + lk r c0 / 2, a.2.2 * 2 + lk r c0 / 2) ht v.tl (by omega) hc hd
theorem tb_take : ∀ (k : Nat) (rs : List (List Int)) (s : List Int) (a : Int × Int × Int) (r : List Int) (c : Int), rs[k]? = some r → s[k]? = some c →
    tb (rs.take (k + 1)) (s.take (k + 1)) a = ((tb (rs.take k) (s.take k) a).1 + lk r c, (tb (rs.take k) (s.take k) a).2.1 + lk r c / 2, (tb (rs.take k) (s.take k) a).2.2 * 2 + lk r c / 2)
  | 0, r0 :: rs, c0 :: s, a, r, c, h1, h2 => by
    simp at h1 h2
    subst h1 h2
    rfl
  | k + 1, r0 :: rs, c0 :: s, a, r, c, h1, h2 => tb_take k rs s _ r c (by simpa using h1) (by simpa using h2)
  | _, [], _, _, _, _, h1, _ => by simp at h1
  | _, _ :: _, [], _, _, _, _, h2 => by simp at h2
def twoBits (rows : List (List Int)) (names bends : List Int) (s : List Int) : Int :=
  let a := tb rows s (0, 0, 0)
  lk names (a.2.1 % 2 * 2 + (a.1 + lk bends a.2.2) % 2)
theorem fair_twoBits {n : Nat} {rows : List (List Int)} {names bends : List Int} (hr : Rows 4 n rows) (hn : Pm 4 names) : FairF 4 n (twoBits rows names bends) := by
  have hb : ∀ a b : Int, 0 ≤ a % 2 * 2 + b % 2 ∧ a % 2 * 2 + b % 2 < (4 : Nat) := fun a b => by omega
  refine ⟨fun s v => hn.inj.1 _ (hb _ _).1 (hb _ _).2, fun s p c d v hp c0 c1 d0 d1 e => ?_⟩
  obtain ⟨x, y, hx, hy, hi, h1, h2, h3⟩ := tb_set rfl (0, 0, 0) hr v hp ⟨c0, c1⟩ ⟨d0, d1⟩
  have e2 := hn.inj.2 _ _ (hb _ _).1 (hb _ _).2 (hb _ _).1 (hb _ _).2 e
  generalize tb rows (s.set p c) (0, 0, 0) = A at *
  generalize tb rows (s.set p d) (0, 0, 0) = B at *
  have h4 : x / 2 = y / 2 := by omega
  have h5 := h3 h4
  rw [h5] at e2
  generalize lk bends B.2.2 = z at *
  exact hi (by omega)
/-! ### products -/
def times (m one other : Int) : Int := (one / 2 + (if one % 2 = 0 then other / 2 else 0 - other / 2)) % (m / 2) * 2 + (one + other) % 2
theorem times_rng {m : Nat} (hm : m = 6 ∨ m = 8) (a b : Int) : 0 ≤ times m a b ∧ times m a b < m := by
  unfold times
  rcases hm with rfl | rfl <;> omega
theorem times_l {m : Nat} (hm : m = 6 ∨ m = 8) {a b c : Int} (ha : 0 ≤ a ∧ a < m) (hb : 0 ≤ b ∧ b < m) (e : times m a c = times m b c) : a = b := by
  unfold times at e
  rcases hm with rfl | rfl <;> (have : (a + c) % 2 = (b + c) % 2 := by omega) <;> (have : a % 2 = b % 2 := by omega) <;> split at e <;> split at e <;> omega
theorem times_r {m : Nat} (hm : m = 6 ∨ m = 8) {a b c : Int} (ha : 0 ≤ a ∧ a < m) (hb : 0 ≤ b ∧ b < m) (e : times m c a = times m c b) : a = b := by
  unfold times at e
  rcases hm with rfl | rfl <;> (have : (c + a) % 2 = (c + b) % 2 := by omega) <;> (have : a % 2 = b % 2 := by omega) <;> split at e <;> omega
/-- rows[part][setting[part]] -/
def at2 (rows : List (List Int)) (s : List Int) (p : Int) : Int := lk (rows.getD p.toNat []) (lk s p)
def prods (m : Nat) (rows : List (List Int)) (names inner : List Int) (x y z : Int) (s : List Int) : Int := lk names (times m (at2 rows s x) (lk inner (times m (at2 rows s y) (at2 rows s z))))
theorem at2_rng {m n : Nat} {rows : List (List Int)} {s : List Int} {p : Int} (hr : Rows m n rows) (v : Val m n s) (hp : 0 ≤ p ∧ p < n) : 0 ≤ at2 rows s p ∧ at2 rows s p < m := by
  obtain ⟨c, h1, h2, h3⟩ := v.get (p := p.toNat) (by omega)
  have hl : p.toNat < rows.length := by rw [hr.1]; omega
  have e : rows.getD p.toNat [] = rows[p.toNat] := by rw [List.getD_eq_getElem?_getD, List.getElem?_eq_getElem hl]; rfl
  have e2 : lk s p = c := by rw [lk, List.getD_eq_getElem?_getD, h1]; rfl
  unfold at2
  rw [e, e2]
  exact (hr.2 _ (List.getElem_mem hl)).inj.1 c h2 h3
theorem at2_set {m n p : Nat} {rows : List (List Int)} {s : List Int} {c d q : Int} (hr : Rows m n rows) (v : Val m n s) (hp : p < n) (hc : 0 ≤ c ∧ c < m) (hd : 0 ≤ d ∧ d < m) (hq : 0 ≤ q ∧ q < n) :
    (q ≠ p → at2 rows (s.set p c) q = at2 rows (s.set p d) q) ∧ (q = p → at2 rows (s.set p c) q = at2 rows (s.set p d) q → c = d) := by
  have hl : p < rows.length := by rw [hr.1]; exact hp
  have hs : p < s.length := by rw [v.1]; exact hp
  constructor
  · intro h
    unfold at2 lk
    have : p ≠ q.toNat := by omega
    simp only [List.getD_eq_getElem?_getD, List.getElem?_set_ne this]
  · rintro rfl e
    unfold at2 at e
    have e1 : ∀ x : Int, lk (s.set p x) (p : Int) = x := fun x => by
      unfold lk
      simp [List.getD_eq_getElem?_getD, hs]
    rw [e1, e1, Int.toNat_natCast] at e
    have e3 : rows.getD p [] = rows[p] := by rw [List.getD_eq_getElem?_getD, List.getElem?_eq_getElem hl]; rfl
    rw [e3] at e
    exact (hr.2 _ (List.getElem_mem hl)).inj.2 c d hc.1 hc.2 hd.1 hd.2 e
theorem fair_prods {m : Nat} (hm : m = 6 ∨ m = 8) {rows : List (List Int)} {names inner : List Int} {x y z : Int} (hr : Rows m 3 rows) (hn : Pm m names) (hi : Pm m inner) (ho : [x, y, z].Perm (ir 3)) : FairF m 3 (prods m rows names inner x y z) := by
  have hx : 0 ≤ x ∧ x < (3 : Nat) := mem_ir.mp (ho.mem_iff.mp (by simp))
  have hy : 0 ≤ y ∧ y < (3 : Nat) := mem_ir.mp (ho.mem_iff.mp (by simp))
  have hz : 0 ≤ z ∧ z < (3 : Nat) := mem_ir.mp (ho.mem_iff.mp (by simp))
  have hd : [x, y, z].Nodup := ho.symm.nodup (ir_nodup 3)
  have hall : ∀ p : Nat, p < 3 → (p : Int) = x ∨ (p : Int) = y ∨ (p : Int) = z := fun p hp => by
    have := ho.mem_iff.mpr (mem_ir (n := 3) (c := (p : Int)) |>.mpr (by omega))
    simpa using this
  simp at hd
  refine ⟨fun s v => hn.inj.1 _ (times_rng hm _ _).1 (times_rng hm _ _).2, fun s p c d v hp c0 c1 d0 d1 e => ?_⟩
  have sx := at2_set (c := c) (d := d) hr v hp ⟨c0, c1⟩ ⟨d0, d1⟩ hx
  have sy := at2_set (c := c) (d := d) hr v hp ⟨c0, c1⟩ ⟨d0, d1⟩ hy
  have sz := at2_set (c := c) (d := d) hr v hp ⟨c0, c1⟩ ⟨d0, d1⟩ hz
  have vc : Val m 3 (s.set p c) := v.set ⟨c0, c1⟩
  have vd : Val m 3 (s.set p d) := v.set ⟨d0, d1⟩
  unfold prods at e
  have e := hn.inj.2 _ _ (times_rng hm _ _).1 (times_rng hm _ _).2 (times_rng hm _ _).1 (times_rng hm _ _).2 e
  rcases hall p hp with h | h | h
  · have hxy : y ≠ p := fun z => hd.1.1 (by omega)
    have hxz : z ≠ p := fun z => hd.1.2 (by omega)
    rw [sy.1 hxy, sz.1 hxz] at e
    exact sx.2 h.symm (times_l hm (at2_rng hr vc hx) (at2_rng hr vd hx) e)
  · have hyx : x ≠ p := fun z => hd.1.1 (by omega)
    have hyz : z ≠ p := fun z => hd.2 (by omega)
    rw [sx.1 hyx, sz.1 hyz] at e
    have e := times_r hm (hi.inj.1 _ (times_rng hm _ _).1 (times_rng hm _ _).2) (hi.inj.1 _ (times_rng hm _ _).1 (times_rng hm _ _).2) e
    have e := hi.inj.2 _ _ (times_rng hm _ _).1 (times_rng hm _ _).2 (times_rng hm _ _).1 (times_rng hm _ _).2 e
    exact sy.2 h.symm (times_l hm (at2_rng hr vc hy) (at2_rng hr vd hy) e)
  · have hzx : x ≠ p := fun z => hd.1.2 (by omega)
    have hzy : y ≠ p := fun z => hd.2 (by omega)
    rw [sx.1 hzx, sy.1 hzy] at e
    have e := times_r hm (hi.inj.1 _ (times_rng hm _ _).1 (times_rng hm _ _).2) (hi.inj.1 _ (times_rng hm _ _).1 (times_rng hm _ _).2) e
    have e := hi.inj.2 _ _ (times_rng hm _ _).1 (times_rng hm _ _).2 (times_rng hm _ _).1 (times_rng hm _ _).2 e
    exact sz.2 h.symm (times_r hm (at2_rng hr vc hz) (at2_rng hr vd hz) e)
/-! ### sums -/
def rsum : List (List Int) → List Int → Int
  | r :: rs, c :: s => lk r c + rsum rs s
  | _, _ => 0
theorem rsum_idx (rows : List (List Int)) : ∀ (s : List Int) (k : Nat), k + s.length ≤ rows.length → ((s.zipIdx k).map fun p => lk (rows.getD p.2 []) p.1).sum = rsum (rows.drop k) s
  | [], k, _ => by cases rows.drop k <;> simp [rsum]
  | c :: s, k, h => by
    simp only [List.length_cons] at h
    have hk : k < rows.length := by omega
    rw [List.zipIdx_cons, List.map_cons, List.sum_cons, rsum_idx rows s (k + 1) (by omega), List.drop_eq_getElem_cons hk]
    simp [rsum, List.getD_eq_getElem?_getD, hk]
theorem rsum_app : ∀ (rs : List (List Int)) (s : List Int) (t : List (List Int)), s.length = rs.length → rsum (rs ++ t) s = rsum rs s
  | [], [], t, _ => by cases t <;> simp [rsum]
  | r :: rs, c :: s, t, h => by
    simp only [List.length_cons] at h
    simp only [List.cons_append, rsum]
    rw [rsum_app rs s t (by omega)]
  | [], _ :: _, _, h => by simp at h
  | _ :: _, [], _, h => by simp at h
def sumB (m : Nat) (rows : List (List Int)) (names : List Int) (s : List Int) : Int := lk names (rsum rows s % m)
theorem rsum_set : ∀ {m n p : Nat} {rs : List (List Int)} {s : List Int} {c d : Int}, Rows m n rs → Val m n s → p < n → 0 ≤ c ∧ c < m → 0 ≤ d ∧ d < m → ∃ x y : Int, (0 ≤ x ∧ x < m) ∧ (0 ≤ y ∧ y < m) ∧ (x = y → c = d) ∧ rsum rs (s.set p c) - rsum rs (s.set p d) = x - y
  | m, 0, p, rs, s, c, d, h, v, hp, hc, hd => by omega
  | m, n + 1, p, rs, s, c, d, h, v, hp, hc, hd => by
    obtain ⟨r, t, rfl, hr, ht⟩ := h.ex
    obtain ⟨c0, u, rfl⟩ := v.ex
    cases p with
    | zero => exact ⟨lk r c, lk r d, hr.inj.1 c hc.1 hc.2, hr.inj.1 d hd.1 hd.2, fun e => hr.inj.2 c d hc.1 hc.2 hd.1 hd.2 e, by show lk r c + _ - (lk r d + _) = _; omega⟩
    | succ p =>
      obtain ⟨x, y, h1, h2, h3, h4⟩ := rsum_set ht v.tl (show p < n by omega) hc hd
      exact ⟨x, y, h1, h2, h3, by show lk r c0 + rsum t (u.set p c) - (lk r c0 + rsum t (u.set p d)) = _; omega⟩
theorem fair_sumB {m n : Nat} (hm : 0 < m) {rows : List (List Int)} {names : List Int} (hr : Rows m n rows) (hn : Pm m names) : FairF m n (sumB m rows names) := by
  have hb : ∀ a : Int, 0 ≤ a % m ∧ a % m < m := fun a => ⟨Int.emod_nonneg _ (by omega), Int.emod_lt_of_pos _ (by omega)⟩
  refine ⟨fun s v => hn.inj.1 _ (hb _).1 (hb _).2, fun s p c d v hp c0 c1 d0 d1 e => ?_⟩
  obtain ⟨x, y, hx, hy, h1, h2⟩ := rsum_set hr v hp ⟨c0, c1⟩ ⟨d0, d1⟩
  have e := hn.inj.2 _ _ (hb _).1 (hb _).2 (hb _).1 (hb _).2 e
  refine h1 ?_
  have h3 : (x - y) % m = 0 := by rw [← h2]; exact Int.emod_eq_emod_iff_emod_sub_eq_zero.mp e
  have h4 : (m : Int) ∣ (x - y) := Int.dvd_of_emod_eq_zero h3
  obtain ⟨k, hk⟩ := h4
  have h5 : k = 0 := by
    rcases Int.lt_trichotomy k 0 with h | h | h
    · have : (m : Int) * k ≤ m * (-1) := Int.mul_le_mul_of_nonneg_left (by omega) (by omega)
      omega
    · exact h
    · have : (m : Int) * 1 ≤ m * k := Int.mul_le_mul_of_nonneg_left (by omega) (by omega)
      omega
  subst h5
  omega
end Mt
namespace Mt
/-! ### places of a lot -/
def bits (n : Nat) (P : Nat → Bool) : List Bool := (List.range n).map P
theorem bits_len (n : Nat) (P : Nat → Bool) : (bits n P).length = n := by simp [bits]
theorem bits_get {n : Nat} {P : Nat → Bool} {p : Nat} (h : p < n) : (bits n P)[p]? = some (P p) := by simp [bits, h]
theorem vecs_false (m : Nat) : ∀ n : Nat, vecs m (List.replicate n false) = [List.replicate n 0]
  | 0 => rfl
  | n + 1 => by simp [List.replicate_succ, vecs, vecs_false m n]
theorem num_zero (m : Nat) : ∀ n : Nat, num m (List.replicate n 0) = 0
  | 0 => rfl
  | n + 1 => by rw [List.replicate_succ, num_cons, num_zero m n]; simp
theorem all_false {bs : List Bool} (h : ∀ j : Nat, bs[j]? ≠ some true) : bs = List.replicate bs.length false := by
  refine List.eq_replicate_iff.mpr ⟨rfl, fun b hb => ?_⟩
  obtain ⟨i, hi⟩ := List.mem_iff_getElem?.mp hb
  cases b
  · rfl
  · exact absurd hi (h i)
theorem flatMap_congr' {α β : Type} {f g : α → List β} : ∀ {l : List α}, (∀ x ∈ l, f x = g x) → l.flatMap f = l.flatMap g
  | [], _ => rfl
  | a :: l, h => by rw [List.flatMap_cons, List.flatMap_cons, h a List.mem_cons_self, flatMap_congr' fun x hx => h x (List.mem_cons_of_mem _ hx)]
theorem vecs_step' (m : Nat) : ∀ (bs : List Bool) (x : Nat) (a : Int), x < bs.length → (∀ j : Nat, x ≤ j → bs[j]? ≠ some true) →
    (vecs m bs).flatMap (fun t => (ir m).map fun c => a + num m t + (m ^ (bs.length - 1 - x) : Nat) * c) = (vecs m (bs.set x true)).map fun t => a + num m t
  | b :: bs, 0, a, h, hf => by
    have hb : b = false := by
      cases b
      · rfl
      · exact absurd rfl (hf 0 (Nat.le_refl _))
    subst hb
    have e : bs = List.replicate bs.length false := all_false fun j => by have := hf (j + 1) (by omega); simpa using this
    rw [e]
    simp only [vecs, List.set_cons_zero, vecs_false, Bool.false_eq_true, if_false, if_true, List.flatMap_cons, List.flatMap_nil, List.append_nil, List.map_cons, List.map_nil, List.length_cons, List.length_replicate]
    rw [List.map_flatMap]
    simp only [List.map_cons, List.map_nil]
    rw [← List.map_eq_flatMap]
    refine List.map_congr_left fun c _ => ?_
    rw [num_cons, num_cons, num_zero, List.length_replicate]
    rw [show bs.length + 1 - 1 - 0 = bs.length by omega]
    simp
    grind
  | b :: bs, x + 1, a, h, hf => by
    have hx : x < bs.length := by simpa using h
    have ih := fun a' => vecs_step' m bs x a' hx fun j hj => by have := hf (j + 1) (by omega); simpa using this
    simp only [vecs, List.set_cons_succ]
    rw [List.flatMap_assoc, List.map_flatMap]
    refine flatMap_congr' fun c0 _ => ?_
    rw [List.flatMap_map, List.map_map]
    have e1 : ∀ t ∈ vecs m bs, ((ir m).map fun c => a + num m (c0 :: t) + (m ^ ((b :: bs).length - 1 - (x + 1)) : Nat) * c) = (ir m).map fun c => (a + c0 * m ^ bs.length) + num m t + (m ^ (bs.length - 1 - x) : Nat) * c := fun t ht => by
      refine List.map_congr_left fun c _ => ?_
      have hl : t.length = bs.length := by
        have hv : ∀ {bs : List Bool} {t : List Int}, t ∈ vecs m bs → t.length = bs.length := by
          intro bs
          induction bs with
          | nil => intro t h; simp [vecs] at h; simp [h]
          | cons b bs ih =>
            intro t h
            simp only [vecs, List.mem_flatMap, List.mem_map] at h
            obtain ⟨c, _, t', ht, rfl⟩ := h
            simp [ih ht]
        exact hv ht
      rw [num_cons, hl, List.length_cons, show bs.length + 1 - 1 - (x + 1) = bs.length - 1 - x by omega]
      omega
    rw [flatMap_congr' e1, ih]
    refine List.map_congr_left fun t ht => ?_
    have hl : t.length = bs.length := by
      have hv : ∀ {bs : List Bool} {t : List Int}, t ∈ vecs m bs → t.length = bs.length := by
        intro bs
        induction bs with
        | nil => intro t h; simp [vecs] at h; simp [h]
        | cons b bs ih =>
          intro t h
          simp only [vecs, List.mem_flatMap, List.mem_map] at h
          obtain ⟨c, _, t', ht, rfl⟩ := h
          simp [ih ht]
      rw [hv ht, List.length_set]
    simp only [Function.comp_apply, num_cons, hl]
    omega
theorem vecs_step (m : Nat) (bs : List Bool) (x : Nat) (hx : x < bs.length) (hf : ∀ j : Nat, x ≤ j → bs[j]? ≠ some true) :
    (vecs m bs).flatMap (fun t => (ir m).map fun c => num m t + (m ^ (bs.length - 1 - x) : Nat) * c) = (vecs m (bs.set x true)).map (num m) := by
  have := vecs_step' m bs x 0 hx hf
  simpa using this
theorem vecs_len {m : Nat} : ∀ {bs : List Bool} {t : List Int}, t ∈ vecs m bs → t.length = bs.length
  | [], t, h => by simp [vecs] at h; simp [h]
  | b :: bs, t, h => by
    simp only [vecs, List.mem_flatMap, List.mem_map] at h
    obtain ⟨c, _, t', ht, rfl⟩ := h
    simp [vecs_len ht]
theorem vecs_zero {m : Nat} : ∀ {bs : List Bool} {t : List Int} {p : Nat}, t ∈ vecs m bs → bs[p]? = some false → t[p]? = some 0
  | [], t, p, h, hp => by simp at hp
  | b :: bs, t, p, h, hp => by
    simp only [vecs, List.mem_flatMap, List.mem_map] at h
    obtain ⟨c, hc, t', ht, rfl⟩ := h
    cases p with
    | zero =>
      simp at hp
      subst hp
      simpa using hc
    | succ p => simpa using vecs_zero ht (by simpa using hp)
theorem vecs_one (m n : Nat) : ∀ p : Nat, p < n → vecs m ((List.replicate n false).set p true) = (ir m).map fun c => (List.replicate n 0).set p c := by
  induction n with
  | zero => intro p h; omega
  | succ n ih =>
    intro p h
    cases p with
    | zero =>
      simp only [List.replicate_succ, List.set_cons_zero, vecs, if_true, vecs_false, List.map_cons, List.map_nil]
      exact (List.map_eq_flatMap ..).symm
    | succ p =>
      simp only [List.replicate_succ, List.set_cons_succ, vecs, Bool.false_eq_true, if_false, List.flatMap_cons, List.flatMap_nil, List.append_nil, ih p (by omega), List.map_map]
      rfl
theorem num_add (m : Nat) : ∀ (t u : List Int), t.length = u.length → num m (List.zipWith (· + ·) t u) = num m t + num m u
  | [], [], _ => rfl
  | a :: t, b :: u, h => by
    have h' : t.length = u.length := by simpa using h
    rw [List.zipWith_cons_cons, num_cons, num_cons, num_cons, num_add m t u h', List.length_zipWith, ← h', Nat.min_self]
    grind
  | [], _ :: _, h => by simp at h
  | _ :: _, [], h => by simp at h
theorem zip_zero : ∀ t : List Int, List.zipWith (· + ·) t (List.replicate t.length 0) = t
  | [] => rfl
  | a :: t => by simp [List.replicate_succ, zip_zero t]
theorem zip_set : ∀ (t : List Int) (p : Nat) (c : Int), t[p]? = some 0 → List.zipWith (· + ·) t ((List.replicate t.length 0).set p c) = t.set p c
  | [], p, c, h => by simp at h
  | a :: t, 0, c, h => by
    simp at h
    subst h
    simp [List.replicate_succ, zip_zero]
  | a :: t, p + 1, c, h => by simp [List.replicate_succ, zip_set t p c (by simpa using h)]
theorem num_set {m : Nat} {t : List Int} {p : Nat} {c : Int} (h : t[p]? = some 0) : num m (t.set p c) = num m t + c * m ^ (t.length - 1 - p) := by
  have e : ∀ (t : List Int) (p : Nat), t[p]? = some 0 → num m (t.set p c) = num m t + c * m ^ (t.length - 1 - p) := by
    intro t
    induction t with
    | nil => intro p h; simp at h
    | cons a t ih =>
      intro p h
      cases p with
      | zero =>
        simp at h
        subst h
        rw [List.set_cons_zero, num_cons, num_cons]
        simp; omega
      | succ p =>
        rw [List.set_cons_succ, num_cons, num_cons, ih p (by simpa using h), List.length_set, List.length_cons]
        rw [show t.length + 1 - 1 - (p + 1) = t.length - 1 - p by omega]; omega
  exact e t p h
/-! ### lines -/
/-- all settings with one part at 0 -/
def base (m n p : Nat) : List (List Int) := vecs m (bits n fun q => decide (q ≠ p))
theorem base_val {m n p : Nat} (hm : 0 < m) (hp : p < n) {t : List Int} (h : t ∈ base m n p) : Val m n t ∧ t[p]? = some 0 := by
  refine ⟨by simpa [bits_len] using vecs_val hm h, vecs_zero h ?_⟩
  rw [bits_get hp]; simp
theorem mem_vecs {m : Nat} : ∀ {bs : List Bool} {t : List Int}, Val m bs.length t → (∀ p : Nat, bs[p]? = some false → t[p]? = some 0) → t ∈ vecs m bs
  | [], t, v, _ => by
    have := List.length_eq_zero_iff.mp v.1
    simp [vecs, this]
  | b :: bs, t, v, h => by
    obtain ⟨c, u, rfl⟩ := v.ex
    simp only [vecs, List.mem_flatMap, List.mem_map]
    refine ⟨c, ?_, u, mem_vecs v.tl fun p hp => by simpa using h (p + 1) (by simpa using hp), rfl⟩
    cases b
    · have := h 0 rfl
      simpa using this
    · exact mem_ir.mpr v.hd
theorem base_mem {m n p : Nat} (hp : p < n) {s : List Int} (v : Val m n s) (hm : 0 < m) : s.set p 0 ∈ base m n p := by
  refine mem_vecs (by rw [bits_len]; exact v.set (by omega)) fun q hq => ?_
  have hqn : q < n := by have := (List.getElem?_eq_some_iff.mp hq).1; rwa [bits_len] at this
  rw [bits_get hqn] at hq
  have : q = p := by simpa using hq
  subst this
  rw [List.getElem?_set_self (by rw [v.1]; exact hqn)]
def line (m : Nat) (f : List Int → Int) (p : Nat) (t : List Int) : List Int := (ir m).map fun c => f (t.set p c)
theorem fair_line {m n : Nat} {f : List Int → Int} (h : FairF m n f) {p : Nat} (hp : p < n) {t : List Int} (v : Val m n t) : (line m f p t).Nodup :=
  nodup_map (ir_nodup m) fun x hx y hy e => (h.inj v hp).2 x y (mem_ir.mp hx).1 (mem_ir.mp hx).2 (mem_ir.mp hy).1 (mem_ir.mp hy).2 e
/-- one mark spoilt -/
def spoil (m : Nat) (f : List Int → Int) (k : Int) (s : List Int) : Int := if num m s = k then (f s + 1) % m else f s
theorem spoil_rng {m n : Nat} {f : List Int → Int} (h : FairF m n f) (hm : 0 < m) (k : Int) {s : List Int} (v : Val m n s) : 0 ≤ spoil m f k s ∧ spoil m f k s < m := by
  unfold spoil
  split
  · exact ⟨Int.emod_nonneg _ (by omega), Int.emod_lt_of_pos _ (by omega)⟩
  · exact h.1 s v
theorem spoil_line {m n : Nat} {f : List Int → Int} (h : FairF m n f) (hm : 2 ≤ m) (hn : 0 < n) {k : Nat} (hk : k < m ^ n) : ∃ t ∈ base m n 0, ¬ (line m (spoil m f k) 0 t).Nodup := by
  obtain ⟨s, h1, v, h2⟩ := sets_of_lt hk (by omega)
  refine ⟨s.set 0 0, base_mem hn v (by omega), fun hnd => ?_⟩
  obtain ⟨a, ha⟩ := v.get hn
  have hb := h.1 s v
  have hb2 : 0 ≤ (f s + 1) % m ∧ (f s + 1) % m < m := ⟨Int.emod_nonneg _ (by omega), Int.emod_lt_of_pos _ (by omega)⟩
  obtain ⟨c, c0, c1, hc⟩ := (h.inj v hn).onto hb2
  have e : ∀ x, (s.set 0 0).set 0 x = s.set 0 x := fun x => by simp
  have hsa : s.set 0 a = s := by
    apply List.ext_getElem?
    intro i
    by_cases hi : i = 0
    · subst hi
      rw [List.getElem?_set_self (by rw [v.1]; exact hn), ha.1]
    · rw [List.getElem?_set_ne (Ne.symm hi)]
  have hne : c ≠ a := by
    intro z
    subst z
    have hc' : f s = (f s + 1) % m := by
      have h7 : f (s.set 0 c) = (f s + 1) % m := hc
      rwa [hsa] at h7
    by_cases z : f s + 1 = m
    · rw [z, Int.emod_self] at hc'; omega
    · rw [Int.emod_eq_of_lt (by omega) (by omega)] at hc'; omega
  have v2 : Val m n (s.set 0 c) := v.set ⟨c0, c1⟩
  have hnum : num m (s.set 0 c) ≠ k := by
    intro z
    have := num_inj v2 v (z.trans h2.symm)
    have e3 : (s.set 0 c)[0]? = some c := List.getElem?_set_self (by rw [v.1]; exact hn)
    rw [this, ha.1] at e3
    exact hne (Option.some.inj e3).symm
  have g1 : (line m (spoil m f k) 0 (s.set 0 0))[a.toNat]? = some ((f s + 1) % m) := by
    unfold line
    rw [List.getElem?_map, ir_get ha.2]
    simp only [Option.map_some, e, hsa, spoil, h2, if_true]
  have g2 : (line m (spoil m f k) 0 (s.set 0 0))[c.toNat]? = some ((f s + 1) % m) := by
    unfold line
    rw [List.getElem?_map, ir_get ⟨c0, c1⟩]
    simp only [Option.map_some, e, spoil, if_neg hnum]
    exact congrArg some hc
  obtain ⟨q1, e1⟩ := List.getElem?_eq_some_iff.mp g1
  obtain ⟨q2, e2⟩ := List.getElem?_eq_some_iff.mp g2
  have := (List.getElem_inj hnd).mp (e1.trans e2.symm)
  omega
/-! ### counts by places -/
def zr : List Bool → List Int → List Int
  | b :: bs, c :: s => (if b then 0 else c) :: zr bs s
  | _, _ => []
theorem zr_num {m : Nat} : ∀ {bs : List Bool} {s t : List Int}, s.length = bs.length → t ∈ vecs m bs → num m (zr bs s) + num m t = num m (mrg bs s t)
  | [], s, t, hs, ht => by
    simp [vecs] at ht
    subst ht
    simp [zr, mrg, num]
  | b :: bs, s, t, hs, ht => by
    simp only [vecs, List.mem_flatMap, List.mem_map] at ht
    obtain ⟨c, hc, t', ht, rfl⟩ := ht
    cases s with
    | nil => simp at hs
    | cons s0 s =>
      have hs' : s.length = bs.length := by simpa using hs
      have ih := zr_num hs' ht
      have l1 : ∀ (bs : List Bool) (s : List Int), s.length = bs.length → (zr bs s).length = bs.length := by
        intro bs
        induction bs with
        | nil => intro s _; rfl
        | cons b bs ih =>
          intro s h
          cases s with
          | nil => simp at h
          | cons c s => simp [zr, ih s (by simpa using h)]
      have l2 : ∀ (bs : List Bool) (s t : List Int), s.length = bs.length → t.length = bs.length → (mrg bs s t).length = bs.length := by
        intro bs
        induction bs with
        | nil => intro s t _ _; rfl
        | cons b bs ih =>
          intro s t h h2
          cases s with
          | nil => simp at h
          | cons c s =>
            cases t with
            | nil => simp at h2
            | cons d t => simp [mrg, ih s t (by simpa using h) (by simpa using h2)]
      have hl := vecs_len ht
      simp only [zr, mrg, num_cons, l1 bs s hs', l2 bs s t' hs' hl, hl]
      cases b
      · simp at hc
        subst hc
        simp only [Bool.false_eq_true, if_false]
        omega
      · simp only [if_true]
        omega
theorem mrg_val {m : Nat} : ∀ {bs : List Bool} {s t : List Int}, Val m bs.length s → Val m bs.length t → Val m bs.length (mrg bs s t)
  | [], _, _, _, _ => Val.nil m
  | b :: bs, s, t, vs, vt => by
    obtain ⟨s0, s, rfl⟩ := vs.ex
    obtain ⟨t0, t, rfl⟩ := vt.ex
    refine Val.cons ?_ (mrg_val vs.tl vt.tl)
    cases b
    · exact vs.hd
    · exact vt.hd
theorem chg_drop : ∀ (bs : List Bool) (s t : List Int) (k : Nat) (b : Bool) (x y : Int), bs[k]? = some b → s[k]? = some x → t[k]? = some y → chg (bs.drop k) (s.drop k) (t.drop k) = ((!b || decide (y ≠ x)) && chg (bs.drop (k + 1)) (s.drop (k + 1)) (t.drop (k + 1))) := by
  intro bs s t k b x y h1 h2 h3
  obtain ⟨q1, e1⟩ := List.getElem?_eq_some_iff.mp h1
  obtain ⟨q2, e2⟩ := List.getElem?_eq_some_iff.mp h2
  obtain ⟨q3, e3⟩ := List.getElem?_eq_some_iff.mp h3
  rw [List.drop_eq_getElem_cons q1, List.drop_eq_getElem_cons q2, List.drop_eq_getElem_cons q3, e1, e2, e3]
  rfl
theorem chg_end (bs : List Bool) (s t : List Int) : chg (bs.drop bs.length) s t = true := by simp [chg]
theorem num_take {m : Nat} {t : List Int} {k : Nat} {c : Int} (h : t[k]? = some c) (hc : 0 ≤ c ∧ c < m) : num m (t.take (k + 1)) % m = c ∧ num m (t.take (k + 1)) / m = num m (t.take k) := by
  obtain ⟨q, e⟩ := List.getElem?_eq_some_iff.mp h
  have e2 : t.take (k + 1) = t.take k ++ [c] := by rw [List.take_succ_eq_append_getElem q, e]
  rw [e2, num_snoc]
  constructor
  · rw [Int.add_comm, Int.add_mul_emod_self_right, Int.emod_eq_of_lt hc.1 hc.2]
  · rw [Int.add_comm, Int.add_mul_ediv_right _ _ (by omega), Int.ediv_eq_zero_of_lt hc.1 hc.2, Int.zero_add]
end Mt
namespace Mt
/-! ### settings that differ in just some parts -/
def chs (m : Nat) (b : Bool) (x : Int) : List Int := if b then (ir m).filter fun c => decide (c ≠ x) else [x]
def ch (m : Nat) : List Bool → List Int → List (List Int)
  | b :: bs, x :: s => (chs m b x).flatMap fun c => (ch m bs s).map (c :: ·)
  | _, _ => [[]]
theorem ch_val {m : Nat} : ∀ {bs : List Bool} {s t : List Int}, Val m bs.length s → t ∈ ch m bs s → Val m bs.length t
  | [], s, t, v, h => by
    have := List.length_eq_zero_iff.mp v.1
    subst this
    simp [ch] at h
    subst h
    exact Val.nil m
  | b :: bs, s, t, v, h => by
    obtain ⟨x, s', rfl⟩ := v.ex
    simp only [ch, List.mem_flatMap, List.mem_map] at h
    obtain ⟨c, hc, t', ht, rfl⟩ := h
    refine Val.cons ?_ (ch_val v.tl ht)
    unfold chs at hc
    cases b
    · simp at hc; subst hc; exact v.hd
    · simp only [if_true, List.mem_filter] at hc
      exact mem_ir.mp hc.1
theorem flatMap_filter' {α β : Type} (p : α → Bool) (g : α → List β) : ∀ l : List α, (l.filter p).flatMap g = l.flatMap fun c => if p c = true then g c else []
  | [] => rfl
  | a :: l => by
    rw [List.filter_cons]
    by_cases h : p a = true
    · rw [if_pos h, List.flatMap_cons, List.flatMap_cons, if_pos h, flatMap_filter' p g l]
    · rw [if_neg h, List.flatMap_cons, if_neg h, flatMap_filter' p g l]; rfl
theorem ch_vecs {m : Nat} : ∀ {bs : List Bool} {s : List Int}, Val m bs.length s → ch m bs s = ((vecs m bs).filter (chg bs s)).map (mrg bs s)
  | [], s, v => by
    have := List.length_eq_zero_iff.mp v.1
    subst this
    simp [ch, vecs, chg, mrg]
  | b :: bs, s, v => by
    obtain ⟨x, s', rfl⟩ := v.ex
    simp only [ch, vecs, ch_vecs v.tl, List.filter_flatMap, List.map_flatMap, List.filter_map, List.map_map]
    cases b
    · simp only [chs, Bool.false_eq_true, if_false, List.flatMap_cons, List.flatMap_nil, List.append_nil]
      rfl
    · simp only [chs, if_true]
      rw [flatMap_filter']
      refine flatMap_congr' fun c hc => ?_
      by_cases h : c = x
      · rw [if_neg (by simpa using h)]
        subst h
        have e : (chg (true :: bs) (c :: s') ∘ fun x => c :: x) = fun _ => false := by
          funext t; simp [chg]
        rw [e]
        simp
      · rw [if_pos (by simpa using h)]
        have e : (chg (true :: bs) (x :: s') ∘ fun y => c :: y) = chg bs s' := by
          funext t; simp [chg, h]
        have e2 : (mrg (true :: bs) (x :: s') ∘ fun y => c :: y) = (fun y => c :: y) ∘ mrg bs s' := by
          funext t; simp [mrg]
        rw [e, e2]
theorem ch_count {m : Nat} {bs : List Bool} {f : List Int → Int} {s : List Int} {o : Int} (hf : FairF m bs.length f) (v : Val m bs.length s) (ho : 0 ≤ o ∧ o < m) :
    (((ch m bs s).filter fun t => decide (f t = o)).length : Int) = if f s = o then (chm m (ones bs)).1 else (chm m (ones bs)).2 := by
  have h := counts hf v ho
  rw [ch_vecs v, List.filter_map, List.length_map, List.filter_filter, ← List.countP_eq_length_filter]
  have e : (if f s = o then (chm m (ones bs)).1 else (chm m (ones bs)).2) = if o = f s then (chm m (ones bs)).1 else (chm m (ones bs)).2 := by
    by_cases y : o = f s
    · rw [if_pos y, if_pos y.symm]
    · rw [if_neg y, if_neg (Ne.symm y)]
  rw [e, ← h]
  congr 1
  congr 1
  funext t
  simp [Bool.and_comm]
theorem ch_step {m : Nat} : ∀ {bs : List Bool} {s : List Int} {p : Nat} {x : Int}, s.length = bs.length → bs[p]? = some true → (∀ j, j < p → bs[j]? = some false) → s[p]? = some x →
    ch m bs s = ((ir m).filter fun c => decide (c ≠ x)).flatMap fun c => ch m (bs.set p false) (s.set p c)
  | [], s, p, x, hl, hp, h0, hx => by simp at hp
  | b :: bs, [], p, x, hl, hp, h0, hx => by simp at hx
  | b :: bs, x0 :: s, 0, x, hl, hp, h0, hx => by
    simp at hp hx
    subst hp hx
    simp only [ch, chs, if_true, List.set_cons_zero, Bool.false_eq_true, if_false, List.flatMap_cons, List.flatMap_nil, List.append_nil]
  | b :: bs, x0 :: s, p + 1, x, hl, hp, h0, hx => by
    have hb := h0 0 (by omega)
    simp at hb
    subst hb
    have ih := ch_step (m := m) (bs := bs) (s := s) (p := p) (x := x) (by simpa using hl) (by simpa using hp) (fun j hj => by have := h0 (j + 1) (by omega); simpa using this) (by simpa using hx)
    simp only [ch, chs, List.set_cons_succ, Bool.false_eq_true, if_false, List.flatMap_cons, List.flatMap_nil, List.append_nil, ih, List.map_flatMap]
theorem ch_end {m : Nat} : ∀ {bs : List Bool} {s : List Int}, s.length = bs.length → (∀ b ∈ bs, b = false) → ch m bs s = [s]
  | [], s, hl, _ => by
    have := List.length_eq_zero_iff.mp hl
    subst this
    rfl
  | b :: bs, [], hl, _ => by simp at hl
  | b :: bs, x :: s, hl, h => by
    have hb := h b List.mem_cons_self
    subst hb
    simp only [ch, chs, Bool.false_eq_true, if_false, List.flatMap_cons, List.flatMap_nil, List.append_nil, ch_end (m := m) (bs := bs) (s := s) (by simpa using hl) (fun b hb => h b (List.mem_cons_of_mem _ hb)), List.map_cons, List.map_nil]
theorem ones_set : ∀ {bs : List Bool} {p : Nat}, bs[p]? = some true → ones bs = ones (bs.set p false) + 1
  | [], p, h => by simp at h
  | b :: bs, 0, h => by simp at h; subst h; simp [ones]
  | b :: bs, p + 1, h => by
    have ih := ones_set (bs := bs) (p := p) (by simpa using h)
    cases b <;> simp [ones] at ih ⊢ <;> omega
theorem mem_ch {m : Nat} : ∀ {bs : List Bool} {s t : List Int}, Val m bs.length s → Val m bs.length t → (t ∈ ch m bs s ↔ ∀ (p : Nat) (x y : Int), s[p]? = some x → t[p]? = some y → (bs[p]? = some true ↔ y ≠ x))
  | [], s, t, vs, vt => by
    have h1 := List.length_eq_zero_iff.mp vs.1
    have h2 := List.length_eq_zero_iff.mp vt.1
    subst h1 h2
    simp [ch]
  | b :: bs, s, t, vs, vt => by
    obtain ⟨x, s', rfl⟩ := vs.ex
    obtain ⟨y, t', rfl⟩ := vt.ex
    have ih := mem_ch vs.tl vt.tl
    have e : y :: t' ∈ ch m (b :: bs) (x :: s') ↔ y ∈ chs m b x ∧ t' ∈ ch m bs s' := by
      simp only [ch, List.mem_flatMap, List.mem_map]
      constructor
      · rintro ⟨c, hc, u, hu, e⟩
        cases e
        exact ⟨hc, hu⟩
      · exact fun h => ⟨y, h.1, t', h.2, rfl⟩
    have e2 : y ∈ chs m b x ↔ (b = true ↔ y ≠ x) := by
      cases b
      · simp [chs]
      · simp only [chs, if_true, List.mem_filter, mem_ir, decide_eq_true_eq, true_iff]
        exact ⟨fun h => h.2, fun h => ⟨vt.hd, h⟩⟩
    rw [e, ih, e2]
    constructor
    · rintro ⟨h1, h2⟩ p
      cases p with
      | zero => intro a c ha hc; simp at ha hc; subst ha hc; simpa using h1
      | succ p => intro a c ha hc; simpa using h2 p a c (by simpa using ha) (by simpa using hc)
    · intro h
      exact ⟨by simpa using h 0 x y (by simp) (by simp), fun p a c ha hc => by simpa using h (p + 1) a c (by simpa using ha) (by simpa using hc)⟩
theorem ch_snoc {m : Nat} (b : Bool) (x : Int) : ∀ {bs : List Bool} {s : List Int}, s.length = bs.length → ch m (bs ++ [b]) (s ++ [x]) = (ch m bs s).flatMap fun t => (chs m b x).map fun c => t ++ [c]
  | [], s, h => by
    have := List.length_eq_zero_iff.mp h
    subst this
    simp only [ch, List.nil_append, List.map_cons, List.map_nil, List.flatMap_cons, List.flatMap_nil, List.append_nil]
    exact (List.map_eq_flatMap ..).symm
  | b0 :: bs, [], h => by simp at h
  | b0 :: bs, x0 :: s, h => by
    simp only [List.cons_append, ch]
    simp only [ch_snoc b x (bs := bs) (s := s) (by simpa using h), List.map_flatMap, List.flatMap_assoc, List.flatMap_map, List.map_map]
    rfl
theorem chs_len {m : Nat} (hm : 0 < m) (b : Bool) (x : Int) : (chs m b x).length ≤ m := by
  unfold chs
  cases b
  · simp; omega
  · have := List.length_filter_le (fun c => decide (c ≠ x)) (ir m)
    rw [ir_len] at this
    simpa using this
theorem ch_len {m : Nat} (hm : 0 < m) : ∀ (bs : List Bool) (s : List Int), (ch m bs s).length ≤ m ^ bs.length
  | [], s => by simp [ch]
  | b :: bs, [] => by simp only [ch, List.length_cons, List.length_nil]; exact Nat.pow_pos hm
  | b :: bs, x :: s => by
    have ih := ch_len hm bs s
    simp only [ch, List.length_flatMap, List.length_map, List.map_const', List.sum_replicate_nat, List.length_cons, Nat.pow_succ]
    rw [Nat.mul_comm]
    exact Nat.mul_le_mul ih (chs_len hm b x)
/-! ### one part at a time -/
def gr1 (m : Nat) (bs : List Bool) (fd : List Int) (f : List Int → Int) (o : Int) (p : Nat) (x : Int) (c : Nat) : List (List Int) := if (c : Int) ≠ x then (ch m (bs.set p false) (fd.set p c)).filter fun t => decide (f t = o) else []
def tl {α : Type} (m : Nat) (H : Nat → List α) (k : Nat) : List α := ((List.range m).drop k).flatMap H
theorem tl_step {α : Type} {m k : Nat} (H : Nat → List α) (h : k < m) : tl m H k = H k ++ tl m H (k + 1) := by
  unfold tl
  rw [List.drop_eq_getElem_cons (by simpa using h), List.flatMap_cons]
  simp
theorem tl_end {α : Type} (m : Nat) (H : Nat → List α) : tl m H m = [] := by
  unfold tl
  rw [List.drop_of_length_le (by simp)]
  rfl
theorem tl_zero {m : Nat} {bs : List Bool} {fd : List Int} {f : List Int → Int} {o : Int} {p : Nat} {x : Int} (hl : fd.length = bs.length) (hp : bs[p]? = some true) (h0 : ∀ j, j < p → bs[j]? = some false) (hx : fd[p]? = some x) :
    (ch m bs fd).filter (fun t => decide (f t = o)) = tl m (gr1 m bs fd f o p x) 0 := by
  rw [ch_step hl hp h0 hx, List.filter_flatMap, flatMap_filter', tl, List.drop_zero, ir, List.flatMap_map]
  refine flatMap_congr' fun c _ => ?_
  unfold gr1
  by_cases h : (c : Int) = x
  · rw [if_neg (by simpa using h), if_neg (by simpa using h)]
  · rw [if_pos (by simpa using h), if_pos (by simpa using h)]
def lb (n : Nat) (l : List Nat) : List Bool := bits n fun p => decide (p ∈ l)
theorem lb_len (n : Nat) (l : List Nat) : (lb n l).length = n := bits_len n _
theorem lb_get {n p : Nat} {l : List Nat} (h : p < n) : (lb n l)[p]? = some (decide (p ∈ l)) := bits_get h
theorem lb_set {n p : Nat} {l : List Nat} (h : (p :: l).Pairwise (· < ·)) (hp : p < n) : (lb n (p :: l)).set p false = lb n l := by
  rw [List.pairwise_cons] at h
  apply List.ext_getElem?
  intro i
  by_cases hi : i < n
  · by_cases e : p = i
    · subst e
      rw [List.getElem?_set_self (by rw [lb_len]; exact hi), lb_get hi]
      have : p ∉ l := fun z => by have := h.1 p z; omega
      simp [this]
    · rw [List.getElem?_set_ne e, lb_get hi, lb_get hi]
      simp [Ne.symm e]
  · rw [List.getElem?_eq_none (by rw [List.length_set, lb_len]; omega), List.getElem?_eq_none (by rw [lb_len]; omega)]
theorem lb_first {n p : Nat} {l : List Nat} (h : (p :: l).Pairwise (· < ·)) (hp : p < n) : (lb n (p :: l))[p]? = some true ∧ ∀ j, j < p → (lb n (p :: l))[j]? = some false := by
  rw [List.pairwise_cons] at h
  refine ⟨by rw [lb_get hp]; simp, fun j hj => ?_⟩
  rw [lb_get (by omega)]
  have : j ∉ l := fun z => by have := h.1 j z; omega
  have e : j ≠ p := by omega
  simp [this, e]
theorem lb_nil (n : Nat) : ∀ b ∈ lb n [], b = false := by
  intro b hb
  simp [lb, bits] at hb
  exact hb.2
theorem lb_ones {n : Nat} : ∀ {l : List Nat}, l.Pairwise (· < ·) → (∀ p ∈ l, p < n) → ones (lb n l) = l.length
  | [], _, _ => by
    have : (lb n []).filter id = [] := List.filter_eq_nil_iff.mpr fun b hb => by simp [lb_nil n b hb]
    simp [ones, this]
  | p :: l, h, hp => by
    have h1 := lb_first h (hp p List.mem_cons_self)
    rw [ones_set h1.1, lb_set h (hp p List.mem_cons_self), lb_ones (List.pairwise_cons.mp h).2 (fun q hq => hp q (List.mem_cons_of_mem _ hq))]
    rfl
theorem gr1_at {m n : Nat} {bs : List Bool} {fd t : List Int} {f : List Int → Int} {o x : Int} {p c : Nat} (hb : bs.length = n) (v : Val m n fd) (hp : p < n) (hc : c < m) (h : t ∈ gr1 m bs fd f o p x c) : t[p]? = some (c : Int) := by
  unfold gr1 at h
  split at h
  · have h1 := (List.mem_filter.mp h).1
    have vc : Val m (bs.set p false).length (fd.set p c) := by rw [List.length_set, hb]; exact v.set (by omega)
    have vt := ch_val vc h1
    have hm := (mem_ch vc vt).mp h1
    obtain ⟨y, hy, _⟩ := vt.get (p := p) (by rw [List.length_set, hb]; exact hp)
    have e1 : (fd.set p (c : Int))[p]? = some (c : Int) := List.getElem?_set_self (by rw [v.1]; exact hp)
    have e2 := hm p c y e1 hy
    have e3 : (bs.set p false)[p]? = some false := List.getElem?_set_self (by omega)
    rw [e3] at e2
    by_cases z : y = c
    · rw [hy, z]
    · have := e2.mpr z
      simp at this
  · simp at h
theorem tl_at {m n : Nat} {bs : List Bool} {fd t : List Int} {f : List Int → Int} {o x : Int} {p k : Nat} (hb : bs.length = n) (v : Val m n fd) (hp : p < n) (h : t ∈ tl m (gr1 m bs fd f o p x) k) : ∃ c : Nat, k ≤ c ∧ t[p]? = some (c : Int) := by
  unfold tl at h
  obtain ⟨c, hc, h⟩ := List.mem_flatMap.mp h
  obtain ⟨i, hi⟩ := List.mem_iff_getElem?.mp hc
  rw [List.getElem?_drop] at hi
  have hlt := (List.getElem?_eq_some_iff.mp hi).1
  rw [List.length_range] at hlt
  rw [List.getElem?_range hlt] at hi
  cases hi
  exact ⟨k + i, by omega, gr1_at hb v hp hlt h⟩
theorem ch_nodup {m : Nat} : ∀ (bs : List Bool) (s : List Int), (ch m bs s).Nodup
  | [], s => by simp [ch]
  | b :: bs, [] => by simp [ch]
  | b :: bs, x :: s => by
    simp only [ch]
    have hc : (chs m b x).Nodup := by
      unfold chs
      cases b
      · simp
      · simp only [if_true]; exact List.Pairwise.filter _ (ir_nodup m)
    rw [List.nodup_iff_pairwise_ne, List.pairwise_flatMap]
    refine ⟨fun c _ => ?_, hc.imp ?_⟩
    · exact List.nodup_iff_pairwise_ne.mp (nodup_map (ch_nodup bs s) fun a _ b _ e => by cases e; rfl)
    · intro c d hcd a ha b hb e
      obtain ⟨a', _, rfl⟩ := List.mem_map.mp ha
      obtain ⟨b', _, rfl⟩ := List.mem_map.mp hb
      cases e
      exact hcd rfl
end Mt
namespace K82
open PySem PySem.Spec PyProof.Rows L2 Pl RT
abbrev RL : PySem.W.OpenLaw := PySem.Challenge.rw_oncetested_k82_unnoticed_settings_number
def top (i : Nat) : Stmt := RL.prog.main.body.getD i (.Pass ⟨0, 0, 0, 0⟩)
def sub (i j : Nat) : Stmt := match top i with
  | .ClassDef _ _ _ body _ _ _ _ _ _ _ => body.getD j (.Pass ⟨0, 0, 0, 0⟩)
  | _ => .Pass ⟨0, 0, 0, 0⟩
abbrev s_is_sequence : Stmt := top 13
theorem sc_is_sequence : FnScope ["value"] ["value"] (defScope s_is_sequence) := ⟨rfl, rfl, rfl, by decide +kernel, rfl, by decide +kernel, by decide +kernel⟩
def w_is_sequence : DW Unit := (wRet (eCa dIsi (aCons (eVar 0) (aCons (eTup (aCons (eC (.ty "list")) (aCons (eC (.ty "tuple")) aNil))) aNil))))
def R_is_sequence := dR (w_is_sequence) 1 0
theorem ok_is_sequence {P : Program} {w : World} {K : Frg} {mg : Str → Option Value} {base : Heap} {f : Addr} {fd : FuncData} (bf : Bf mg)  (D0 : FunD K "is_sequence" "is_sequence" (defArgs s_is_sequence) (defBody s_is_sequence) (defScope s_is_sequence) [] [] f fd) : FnOk P w K mg base (L2.CX P w) 1 f fd ["value"] (spP K (R_is_sequence)) :=
  okD D0 sc_is_sequence (w_is_sequence) 0 rfl fun cdv A outer s H E hr => by
    exact (pssd_one (psd_ret (pd_isi bf (pas_cons (pd_var 0) (pas_cons (pd_tup (pas_cons (pd_tylist bf) (pas_cons (pd_tytuple bf) pas_nil))) pas_nil)))))

abbrev s_is_integer : Stmt := top 10
theorem sc_is_integer : FnScope ["value"] ["value"] (defScope s_is_integer) := ⟨rfl, rfl, rfl, by decide +kernel, rfl, by decide +kernel, by decide +kernel⟩
def w_is_integer : DW Unit := (wRet (eAnd (eCa dIsi (aCons (eVar 0) (aCons (eC (.ty "int")) aNil))) (eNot (eCa dIsi (aCons (eVar 0) (aCons (eC (.ty "bool")) aNil))))))
def R_is_integer := dR (w_is_integer) 1 0
theorem ok_is_integer {P : Program} {w : World} {K : Frg} {mg : Str → Option Value} {base : Heap} {f : Addr} {fd : FuncData} (bf : Bf mg)  (D0 : FunD K "is_integer" "is_integer" (defArgs s_is_integer) (defBody s_is_integer) (defScope s_is_integer) [] [] f fd) : FnOk P w K mg base (L2.CX P w) 1 f fd ["value"] (spP K (R_is_integer)) :=
  okD D0 sc_is_integer (w_is_integer) 0 rfl fun cdv A outer s H E hr => by
    exact (pssd_one (psd_ret (pd_andV (pd_isi bf (pas_cons (pd_var 0) (pas_cons (pd_tyint bf) pas_nil))) (pd_one (pd_notV (pd_isi bf (pas_cons (pd_var 0) (pas_cons (pd_tybool bf) pas_nil))))))))

abbrev s_wrong_size : Stmt := top 24
theorem sc_wrong_size : FnScope ["sizes", "at", "size"] ["sizes"] (defScope s_wrong_size) := ⟨rfl, rfl, rfl, by decide +kernel, rfl, by decide +kernel, by decide +kernel⟩
def w_wrong_size : DW Unit := (wSeq (wIf (bOr (bNot (tB1 (eCall (R_is_sequence) (aCons (eVar 0) aNil)))) (bNot (tB1 (eChain dLe dLe (eC (.int 1)) (eCa dLen (aCons (eVar 0) aNil)) (eC (.int 8)))))) (wRet (eUn dNeg (eC (.int 1)))) wNext) (wSeq (wFor (.tp [(.nm 1), (.nm 2)]) (iOf (aCons (eVar 0) aNil) itEnum) (wIf (bOr (bNot (tB1 (eCall (R_is_integer) (aCons (eVar 2) aNil)))) (tB1 (eBin dLt (eVar 2) (eC (.int 1))))) (wRet (eVar 1)) wNext)) (wRet (eC .non))))
def R_wrong_size := dR (w_wrong_size) 1 2
theorem ok_wrong_size {P : Program} {w : World} {K : Frg} {mg : Str → Option Value} {base : Heap} {f : Addr} {fd : FuncData} (bf : Bf mg) (h_is_sequence : FnD P w K mg base 1 "is_sequence" ["value"] (spP K (R_is_sequence))) (h_MOST_PARTS : ∃ t, mg "MOST_PARTS" = some (.int 8 t)) (h_is_integer : FnD P w K mg base 1 "is_integer" ["value"] (spP K (R_is_integer))) (D0 : FunD K "wrong_size" "wrong_size" (defArgs s_wrong_size) (defBody s_wrong_size) (defScope s_wrong_size) [] [] f fd) : FnOk P w K mg base (L2.CX P w) 2 f fd ["sizes"] (spP K (R_wrong_size)) :=
  okD D0 sc_wrong_size (w_wrong_size) 2 rfl fun cdv A outer s H E hr => by
    have hp := passes_of (X := cxOf (L2.CX P w) P w K mg base ["sizes", "at", "size"] "wrong_size" (defScope s_wrong_size) f cdv A outer s H E) rfl
    have tk : Takes (cxOf (L2.CX P w) P w K mg base ["sizes", "at", "size"] "wrong_size" (defScope s_wrong_size) f cdv A outer s H E) (WE' E) := takes_of rfl rfl rfl rfl
    exact (pssd_cons (psd_if (pb_of (pbw_or (pb_not (pb_val (pd_call h_is_sequence (hr.mono (by decide)) tk (pas_cons (pd_var 0) pas_nil)))) (pbw_or1 (pb_not (pb_lele pd_int (pd_len bf (pas_cons (pd_var 0) pas_nil)) (pd_globI rfl h_MOST_PARTS)))))) (pssd_one (psd_ret (pd_neg pd_int))) pssd_nil) (pssd_cons (psd_for hp rfl (pid_enum bf.enumerate (pas_cons (pd_var 0) pas_nil)) (pgd_tup rfl (pgsd_cons (pgd_name sc_wrong_size.nd) (pgsd_cons (pgd_name sc_wrong_size.nd) pgsd_nil))) (pssd_one (psd_if (pb_of (pbw_or (pb_not (pb_val (pd_call h_is_integer (hr.mono (by decide)) tk (pas_cons (pd_var 2) pas_nil)))) (pbw_or1 (pb_lt (pd_var 2) pd_int)))) (pssd_one (psd_ret (pd_var 1))) pssd_nil))) (pssd_one (psd_ret pd_non))))

abbrev s_settings_count : Stmt := top 19
theorem sc_settings_count : FnScope ["sizes", "count", "size"] ["sizes"] (defScope s_settings_count) := ⟨rfl, rfl, rfl, by decide +kernel, rfl, by decide +kernel, by decide +kernel⟩
def w_settings_count : DW Unit := (wSeq (wAsg (.nm 1) (eC (.int 1))) (wSeq (wFor (.nm 2) (iOf (eVar 0) itemsD) (wAsg (.nm 1) (eBin dMulI (eVar 1) (eVar 2)))) (wRet (eVar 1))))
def R_settings_count := dR (w_settings_count) 1 2
theorem ok_settings_count {P : Program} {w : World} {K : Frg} {mg : Str → Option Value} {base : Heap} {f : Addr} {fd : FuncData} (bf : Bf mg)  (D0 : FunD K "settings_count" "settings_count" (defArgs s_settings_count) (defBody s_settings_count) (defScope s_settings_count) [] [] f fd) : FnOk P w K mg base (L2.CX P w) 1 f fd ["sizes"] (spP K (R_settings_count)) :=
  okD D0 sc_settings_count (w_settings_count) 2 rfl fun cdv A outer s H E hr => by
    have hp := passes_of (X := cxOf (L2.CX P w) P w K mg base ["sizes", "count", "size"] "settings_count" (defScope s_settings_count) f cdv A outer s H E) rfl
    exact (pssd_cons (psd_set pd_int sc_settings_count.nd) (pssd_cons (psd_for hp rfl (pid_seq (pd_var 0)) (pgd_name sc_settings_count.nd) (pssd_one (psd_set (pd_mul (pd_var 1) (pd_var 2)) sc_settings_count.nd))) (pssd_one (psd_ret (pd_var 1)))))

abbrev s_is_number : Stmt := top 11
theorem sc_is_number : FnScope ["value"] ["value"] (defScope s_is_number) := ⟨rfl, rfl, rfl, by decide +kernel, rfl, by decide +kernel, by decide +kernel⟩
def w_is_number : DW Unit := (wRet (eAnd (eCall (R_is_integer) (aCons (eVar 0) aNil)) (eBin dGe (eVar 0) (eC (.int 0)))))
def R_is_number := dR (w_is_number) 1 0
theorem ok_is_number {P : Program} {w : World} {K : Frg} {mg : Str → Option Value} {base : Heap} {f : Addr} {fd : FuncData} (bf : Bf mg) (h_is_integer : FnD P w K mg base 1 "is_integer" ["value"] (spP K (R_is_integer))) (D0 : FunD K "is_number" "is_number" (defArgs s_is_number) (defBody s_is_number) (defScope s_is_number) [] [] f fd) : FnOk P w K mg base (L2.CX P w) 2 f fd ["value"] (spP K (R_is_number)) :=
  okD D0 sc_is_number (w_is_number) 0 rfl fun cdv A outer s H E hr => by
    have tk : Takes (cxOf (L2.CX P w) P w K mg base ["value"] "is_number" (defScope s_is_number) f cdv A outer s H E) (WE' E) := takes_of rfl rfl rfl rfl
    exact (pssd_one (psd_ret (pd_andV (pd_call h_is_integer (hr.mono (by decide)) tk (pas_cons (pd_var 0) pas_nil)) (pd_one (pd_ge (pd_var 0) pd_int)))))

abbrev s_wrong_mark : Stmt := top 25
theorem sc_wrong_mark : FnScope ["marks", "count", "many", "at", "mark"] ["marks", "count", "many"] (defScope s_wrong_mark) := ⟨rfl, rfl, rfl, by decide +kernel, rfl, by decide +kernel, by decide +kernel⟩
def w_wrong_mark : DW Unit := (wSeq (wIf (bOr (bNot (tB1 (eCall (R_is_sequence) (aCons (eVar 0) aNil)))) (tB1 (eBin dNe (eCa dLen (aCons (eVar 0) aNil)) (eVar 1)))) (wRet (eUn dNeg (eC (.int 1)))) wNext) (wSeq (wFor (.tp [(.nm 3), (.nm 4)]) (iOf (aCons (eVar 0) aNil) itEnum) (wIf (bOr (bNot (tB1 (eCall (R_is_number) (aCons (eVar 4) aNil)))) (tB1 (eBin dGe (eVar 4) (eVar 2)))) (wRet (eVar 3)) wNext)) (wRet (eC .non))))
def R_wrong_mark := dR (w_wrong_mark) 3 2
theorem ok_wrong_mark {P : Program} {w : World} {K : Frg} {mg : Str → Option Value} {base : Heap} {f : Addr} {fd : FuncData} (bf : Bf mg) (h_is_sequence : FnD P w K mg base 1 "is_sequence" ["value"] (spP K (R_is_sequence))) (h_is_number : FnD P w K mg base 2 "is_number" ["value"] (spP K (R_is_number))) (D0 : FunD K "wrong_mark" "wrong_mark" (defArgs s_wrong_mark) (defBody s_wrong_mark) (defScope s_wrong_mark) [] [] f fd) : FnOk P w K mg base (L2.CX P w) 3 f fd ["marks", "count", "many"] (spP K (R_wrong_mark)) :=
  okD D0 sc_wrong_mark (w_wrong_mark) 2 rfl fun cdv A outer s H E hr => by
    have hp := passes_of (X := cxOf (L2.CX P w) P w K mg base ["marks", "count", "many", "at", "mark"] "wrong_mark" (defScope s_wrong_mark) f cdv A outer s H E) rfl
    have tk : Takes (cxOf (L2.CX P w) P w K mg base ["marks", "count", "many", "at", "mark"] "wrong_mark" (defScope s_wrong_mark) f cdv A outer s H E) (WE' E) := takes_of rfl rfl rfl rfl
    exact (pssd_cons (psd_if (pb_of (pbw_or (pb_not (pb_val (pd_call h_is_sequence (hr.mono (by decide)) tk (pas_cons (pd_var 0) pas_nil)))) (pbw_or1 (pb_ne hr.units (pd_len bf (pas_cons (pd_var 0) pas_nil)) (pd_var 1))))) (pssd_one (psd_ret (pd_neg pd_int))) pssd_nil) (pssd_cons (psd_for hp rfl (pid_enum bf.enumerate (pas_cons (pd_var 0) pas_nil)) (pgd_tup rfl (pgsd_cons (pgd_name sc_wrong_mark.nd) (pgsd_cons (pgd_name sc_wrong_mark.nd) pgsd_nil))) (pssd_one (psd_if (pb_of (pbw_or (pb_not (pb_val (pd_call h_is_number (hr.mono (by decide)) tk (pas_cons (pd_var 4) pas_nil)))) (pbw_or1 (pb_ge (pd_var 4) (pd_var 2))))) (pssd_one (psd_ret (pd_var 3))) pssd_nil))) (pssd_one (psd_ret pd_non))))

abbrev s_steps_of : Stmt := top 20
theorem sc_steps_of : FnScope ["sizes", "steps", "step", "size"] ["sizes"] (defScope s_steps_of) := ⟨rfl, rfl, rfl, by decide +kernel, rfl, by decide +kernel, by decide +kernel⟩
def w_steps_of : DW Unit := (wSeq (wAsgF 1 (fLst aNil)) (wSeq (wAsg (.nm 2) (eC (.int 1))) (wSeq (wFor (.nm 3) (iOf (eVar 0) fun d => (itemsD d).map List.reverse) (wSeq (wApp 1 (eVar 2)) (wAsg (.nm 2) (eBin dMulI (eVar 2) (eVar 3))))) (wRet (eTupRev (lOwn 1))))))
def R_steps_of := dR (w_steps_of) 1 3
theorem ok_steps_of {P : Program} {w : World} {K : Frg} {mg : Str → Option Value} {base : Heap} {f : Addr} {fd : FuncData} (bf : Bf mg)  (D0 : FunD K "steps_of" "steps_of" (defArgs s_steps_of) (defBody s_steps_of) (defScope s_steps_of) [] [] f fd) : FnOk P w K mg base (L2.CX P w) 1 f fd ["sizes"] (spP K (R_steps_of)) :=
  okD D0 sc_steps_of (w_steps_of) 3 rfl fun cdv A outer s H E hr => by
    have hp := passes_of (X := cxOf (L2.CX P w) P w K mg base ["sizes", "steps", "step", "size"] "steps_of" (defScope s_steps_of) f cdv A outer s H E) rfl
    exact (pssd_cons (psd_setF (pf_lst pas_nil) sc_steps_of.nd) (pssd_cons (psd_set pd_int sc_steps_of.nd) (pssd_cons (psd_for hp rfl (pid_rev bf.reversed (pd_var 0)) (pgd_name sc_steps_of.nd) (pssd_cons (psd_app 1 (pd_var 2)) (pssd_one (psd_set (pd_mul (pd_var 2) (pd_var 3)) sc_steps_of.nd)))) (pssd_one (psd_ret (pd_tupRev rfl bf.tuple bf.reversed (pl_own 1)))))))

abbrev s_Board___init__ : Stmt := sub 26 0
theorem sc_Board___init__ : FnScope ["self", "many", "sizes", "marks", "at", "count"] ["self", "many", "sizes", "marks"] (defScope s_Board___init__) := ⟨rfl, rfl, rfl, by decide +kernel, rfl, by decide +kernel, by decide +kernel⟩
def w_Board___init__ (C_Board : Addr) : DW (List (Str × D)) := (wSeq (wIf (bOr (bNot (tB1 (eCall (R_is_integer) (aCons (eVar 1) aNil)))) (bNot (tB1 (eChain dLe dLe (eC (.int 2)) (eVar 1) (eC (.int 8)))))) wNever wNext) (wSeq (wAsg (.nm 4) (eCall (R_wrong_size) (aCons (eVar 2) aNil))) (wSeq (wIf (tB1 (eBin dNotN (eVar 4) (eC .non))) wNever wNext) (wSeq (wAsg (.nm 5) (eCall (R_settings_count) (aCons (eVar 2) aNil))) (wSeq (wIf (tB1 (eBin dGt (eVar 5) (eC (.int 20000)))) wNever wNext) (wSeq (wAsg (.nm 4) (eCall (R_wrong_mark) (aCons (eVar 3) (aCons (eVar 5) (aCons (eVar 1) aNil))))) (wSeq (wIf (tB1 (eBin dNotN (eVar 4) (eC .non))) wNever wNext) (wSeq (wSFlds 0 ["many", "sizes", "marks"] (eTup (aCons (eVar 1) (aCons (eCa dTuple (aCons (eVar 2) aNil)) (aCons (eCa dTuple (aCons (eVar 3) aNil)) aNil))))) (wSFld 0 "steps" (eCall (R_steps_of) (aCons (fun env s o s' => env[0]? = some .gh ∧ s' = s ∧ ∃ d, lookFD s "sizes" = some d ∧ o = .ok d) aNil)))))))))))
def R_Board___init__ (C_Board : Addr) := dRG (w_Board___init__ C_Board) 3 2
theorem ok_Board___init__ {P : Program} {w : World} {K : Frg} {mg : Str → Option Value} {base : Heap} {f : Addr} {fd : FuncData} {C_Board : Addr} (bf : Bf mg) (h_is_integer : FnD P w K mg base 1 "is_integer" ["value"] (spP K (R_is_integer))) (h_MOST_MARKS : ∃ t, mg "MOST_MARKS" = some (.int 8 t)) (h_wrong_size : FnD P w K mg base 2 "wrong_size" ["sizes"] (spP K (R_wrong_size))) (h_settings_count : FnD P w K mg base 1 "settings_count" ["sizes"] (spP K (R_settings_count))) (h_MOST_SETTINGS : ∃ t, mg "MOST_SETTINGS" = some (.int 20000 t)) (h_wrong_mark : FnD P w K mg base 3 "wrong_mark" ["marks", "count", "many"] (spP K (R_wrong_mark))) (c_Board : Cls K C_Board) (n_Board_marks : NoAttr K C_Board "marks") (n_Board_sizes : NoAttr K C_Board "sizes") (n_Board_many : NoAttr K C_Board "many") (n_Board_steps : NoAttr K C_Board "steps") (h_steps_of : FnD P w K mg base 1 "steps_of" ["sizes"] (spP K (R_steps_of))) (D0 : FunD K "__init__" "Board.__init__" (defArgs s_Board___init__) (defBody s_Board___init__) (defScope s_Board___init__) [] [] f fd) : FnOk P w K mg base (L2.CX P w) 4 f fd ["self", "many", "sizes", "marks"] (spG (slf K C_Board) K (R_Board___init__ C_Board)) :=
  okG D0 sc_Board___init__ (w_Board___init__ C_Board) 2 rfl fun i cdv A outer s H E hr => by
    have tk : Takes (cxOf (L2.CX P w) P w K mg base ["self", "many", "sizes", "marks", "at", "count"] "Board.__init__" (defScope s_Board___init__) f cdv A outer s H E) (WE' E) := takes_of rfl rfl rfl rfl
    exact (pssd_cons (psd_if (pb_of (pbw_or (pb_not (pb_val (pd_call h_is_integer (hr.mono (by decide)) tk (pas_cons (pd_var 1) pas_nil)))) (pbw_or1 (pb_not (pb_lele pd_int (pd_var 1) (pd_globI rfl h_MOST_MARKS)))))) (pssd_one psd_never) pssd_nil) (pssd_cons (psd_set (pd_call h_wrong_size (hr.mono (by decide)) tk (pas_cons (pd_var 2) pas_nil)) sc_Board___init__.nd) (pssd_cons (psd_if (pb_notN (pd_var 4) pd_non) (pssd_one psd_never) pssd_nil) (pssd_cons (psd_set (pd_call h_settings_count (hr.mono (by decide)) tk (pas_cons (pd_var 2) pas_nil)) sc_Board___init__.nd) (pssd_cons (psd_if (pb_gt (pd_var 5) (pd_globI rfl h_MOST_SETTINGS)) (pssd_one psd_never) pssd_nil) (pssd_cons (psd_set (pd_call h_wrong_mark (hr.mono (by decide)) tk (pas_cons (pd_var 3) (pas_cons (pd_var 5) (pas_cons (pd_var 1) pas_nil)))) sc_Board___init__.nd) (pssd_cons (psd_if (pb_notN (pd_var 4) pd_non) (pssd_one psd_never) pssd_nil) (pssd_cons (psd_sflds (fs := ["many", "sizes", "marks"]) 0 rfl (pd_tup (pas_cons (pd_var 1) (pas_cons (pd_tupc bf (pas_cons (pd_var 2) pas_nil)) (pas_cons (pd_tupc bf (pas_cons (pd_var 3) pas_nil)) pas_nil)))) (pgsf_cons c_Board n_Board_many (pgsf_cons c_Board n_Board_sizes (pgsf_cons c_Board n_Board_marks pgsf_nil)))) (pssd_one (psd_sfld 0 c_Board n_Board_steps (pd_call h_steps_of (hr.mono (by decide)) tk (pas_cons (pd_self 0 c_Board n_Board_sizes) pas_nil))))))))))))

abbrev s_Board___len__ : Stmt := sub 26 2
theorem sc_Board___len__ : FnScope ["self"] ["self"] (defScope s_Board___len__) := ⟨rfl, rfl, rfl, by decide +kernel, rfl, by decide +kernel, by decide +kernel⟩
def w_Board___len__ (C_Board : Addr) : DW Unit := (wRet (eCa dLen (aCons (eFld C_Board "sizes" (eVar 0)) aNil)))
def R_Board___len__ (C_Board : Addr) := dR (w_Board___len__ C_Board) 1 0
theorem ok_Board___len__ {P : Program} {w : World} {K : Frg} {mg : Str → Option Value} {base : Heap} {f : Addr} {fd : FuncData} {C_Board : Addr} (bf : Bf mg) (c_Board : Cls K C_Board) (n_Board_sizes : NoAttr K C_Board "sizes") (D0 : FunD K "__len__" "Board.__len__" (defArgs s_Board___len__) (defBody s_Board___len__) (defScope s_Board___len__) [] [] f fd) : FnOk P w K mg base (L2.CX P w) 1 f fd ["self"] (spP K (R_Board___len__ C_Board)) :=
  okD D0 sc_Board___len__ (w_Board___len__ C_Board) 0 rfl fun cdv A outer s H E hr => by
    exact (pssd_one (psd_ret (pd_len bf (pas_cons (pd_fld c_Board n_Board_sizes (pd_var 0)) pas_nil))))

abbrev s_wrong_content : Stmt := top 23
theorem sc_wrong_content : FnScope ["sizes", "value", "at", "content"] ["sizes", "value"] (defScope s_wrong_content) := ⟨rfl, rfl, rfl, by decide +kernel, rfl, by decide +kernel, by decide +kernel⟩
def w_wrong_content : DW Unit := (wSeq (wIf (bOr (bNot (tB1 (eCall (R_is_sequence) (aCons (eVar 1) aNil)))) (tB1 (eBin dNe (eCa dLen (aCons (eVar 1) aNil)) (eCa dLen (aCons (eVar 0) aNil))))) (wRet (eUn dNeg (eC (.int 1)))) wNext) (wSeq (wFor (.tp [(.nm 2), (.nm 3)]) (iOf (aCons (eVar 1) aNil) itEnum) (wIf (bOr (bNot (tB1 (eCall (R_is_number) (aCons (eVar 3) aNil)))) (tB1 (eBin dGe (eVar 3) (eBin dIx (eVar 0) (eVar 2))))) (wRet (eVar 2)) wNext)) (wRet (eC .non))))
def R_wrong_content := dR (w_wrong_content) 2 2
theorem ok_wrong_content {P : Program} {w : World} {K : Frg} {mg : Str → Option Value} {base : Heap} {f : Addr} {fd : FuncData} (bf : Bf mg) (h_is_sequence : FnD P w K mg base 1 "is_sequence" ["value"] (spP K (R_is_sequence))) (h_is_number : FnD P w K mg base 2 "is_number" ["value"] (spP K (R_is_number))) (D0 : FunD K "wrong_content" "wrong_content" (defArgs s_wrong_content) (defBody s_wrong_content) (defScope s_wrong_content) [] [] f fd) : FnOk P w K mg base (L2.CX P w) 3 f fd ["sizes", "value"] (spP K (R_wrong_content)) :=
  okD D0 sc_wrong_content (w_wrong_content) 2 rfl fun cdv A outer s H E hr => by
    have hp := passes_of (X := cxOf (L2.CX P w) P w K mg base ["sizes", "value", "at", "content"] "wrong_content" (defScope s_wrong_content) f cdv A outer s H E) rfl
    have tk : Takes (cxOf (L2.CX P w) P w K mg base ["sizes", "value", "at", "content"] "wrong_content" (defScope s_wrong_content) f cdv A outer s H E) (WE' E) := takes_of rfl rfl rfl rfl
    exact (pssd_cons (psd_if (pb_of (pbw_or (pb_not (pb_val (pd_call h_is_sequence (hr.mono (by decide)) tk (pas_cons (pd_var 1) pas_nil)))) (pbw_or1 (pb_ne hr.units (pd_len bf (pas_cons (pd_var 1) pas_nil)) (pd_len bf (pas_cons (pd_var 0) pas_nil)))))) (pssd_one (psd_ret (pd_neg pd_int))) pssd_nil) (pssd_cons (psd_for hp rfl (pid_enum bf.enumerate (pas_cons (pd_var 1) pas_nil)) (pgd_tup rfl (pgsd_cons (pgd_name sc_wrong_content.nd) (pgsd_cons (pgd_name sc_wrong_content.nd) pgsd_nil))) (pssd_one (psd_if (pb_of (pbw_or (pb_not (pb_val (pd_call h_is_number (hr.mono (by decide)) tk (pas_cons (pd_var 3) pas_nil)))) (pbw_or1 (pb_ge (pd_var 3) (pd_ix (pd_var 0) (pd_var 2)))))) (pssd_one (psd_ret (pd_var 2))) pssd_nil))) (pssd_one (psd_ret pd_non))))

abbrev s_setting_number : Stmt := top 21
theorem sc_setting_number : FnScope ["sizes", "setting", "number", "size", "content"] ["sizes", "setting"] (defScope s_setting_number) := ⟨rfl, rfl, rfl, by decide +kernel, rfl, by decide +kernel, by decide +kernel⟩
def w_setting_number : DW Unit := (wSeq (wAsg (.nm 2) (eC (.int 0))) (wSeq (wFor (.tp [(.nm 3), (.nm 4)]) (iOf (aCons (eVar 0) (aCons (eVar 1) aNil)) itZip) (wAsg (.nm 2) (eBin dAdd (eBin dMulI (eVar 2) (eVar 3)) (eVar 4)))) (wRet (eVar 2))))
def R_setting_number := dR (w_setting_number) 2 3
theorem ok_setting_number {P : Program} {w : World} {K : Frg} {mg : Str → Option Value} {base : Heap} {f : Addr} {fd : FuncData} (bf : Bf mg)  (D0 : FunD K "setting_number" "setting_number" (defArgs s_setting_number) (defBody s_setting_number) (defScope s_setting_number) [] [] f fd) : FnOk P w K mg base (L2.CX P w) 1 f fd ["sizes", "setting"] (spP K (R_setting_number)) :=
  okD D0 sc_setting_number (w_setting_number) 3 rfl fun cdv A outer s H E hr => by
    have hp := passes_of (X := cxOf (L2.CX P w) P w K mg base ["sizes", "setting", "number", "size", "content"] "setting_number" (defScope s_setting_number) f cdv A outer s H E) rfl
    exact (pssd_cons (psd_set pd_int sc_setting_number.nd) (pssd_cons (psd_for hp rfl (pid_zip bf.zip (pas_cons (pd_var 0) (pas_cons (pd_var 1) pas_nil))) (pgd_tup rfl (pgsd_cons (pgd_name sc_setting_number.nd) (pgsd_cons (pgd_name sc_setting_number.nd) pgsd_nil))) (pssd_one (psd_set (pd_add (pd_mul (pd_var 2) (pd_var 3)) (pd_var 4)) sc_setting_number.nd))) (pssd_one (psd_ret (pd_var 2)))))

abbrev s_Board___call__ : Stmt := sub 26 3
theorem sc_Board___call__ : FnScope ["self", "setting", "at"] ["self", "setting"] (defScope s_Board___call__) := ⟨rfl, rfl, rfl, by decide +kernel, rfl, by decide +kernel, by decide +kernel⟩
def w_Board___call__ (C_Board : Addr) : DW Unit := (wSeq (wAsg (.nm 2) (eCall (R_wrong_content) (aCons (eFld C_Board "sizes" (eVar 0)) (aCons (eVar 1) aNil)))) (wSeq (wIf (tB1 (eBin dNotN (eVar 2) (eC .non))) wNever wNext) (wRet (eBin dIx (eFld C_Board "marks" (eVar 0)) (eCall (R_setting_number) (aCons (eFld C_Board "sizes" (eVar 0)) (aCons (eVar 1) aNil)))))))
def R_Board___call__ (C_Board : Addr) := dR (w_Board___call__ C_Board) 2 1
theorem ok_Board___call__ {P : Program} {w : World} {K : Frg} {mg : Str → Option Value} {base : Heap} {f : Addr} {fd : FuncData} {C_Board : Addr} (bf : Bf mg) (h_wrong_content : FnD P w K mg base 3 "wrong_content" ["sizes", "value"] (spP K (R_wrong_content))) (c_Board : Cls K C_Board) (n_Board_sizes : NoAttr K C_Board "sizes") (n_Board_marks : NoAttr K C_Board "marks") (h_setting_number : FnD P w K mg base 1 "setting_number" ["sizes", "setting"] (spP K (R_setting_number))) (D0 : FunD K "__call__" "Board.__call__" (defArgs s_Board___call__) (defBody s_Board___call__) (defScope s_Board___call__) [] [] f fd) : FnOk P w K mg base (L2.CX P w) 4 f fd ["self", "setting"] (spP K (R_Board___call__ C_Board)) :=
  okD D0 sc_Board___call__ (w_Board___call__ C_Board) 1 rfl fun cdv A outer s H E hr => by
    have tk : Takes (cxOf (L2.CX P w) P w K mg base ["self", "setting", "at"] "Board.__call__" (defScope s_Board___call__) f cdv A outer s H E) (WE' E) := takes_of rfl rfl rfl rfl
    exact (pssd_cons (psd_set (pd_call h_wrong_content (hr.mono (by decide)) tk (pas_cons (pd_fld c_Board n_Board_sizes (pd_var 0)) (pas_cons (pd_var 1) pas_nil))) sc_Board___call__.nd) (pssd_cons (psd_if (pb_notN (pd_var 2) pd_non) (pssd_one psd_never) pssd_nil) (pssd_one (psd_ret (pd_ix (pd_fld c_Board n_Board_marks (pd_var 0)) (pd_call h_setting_number (hr.mono (by decide)) tk (pas_cons (pd_fld c_Board n_Board_sizes (pd_var 0)) (pas_cons (pd_var 1) pas_nil))))))))

abbrev s__law_deal : Stmt := top 46
theorem sc__law_deal : FnScope ["script", "base", "cell", "cells", "blend"] ["script", "base"] (defScope s__law_deal) := ⟨rfl, rfl, rfl, by decide +kernel, rfl, by decide +kernel, by decide +kernel⟩
def w__law_deal : DW Unit := (wSeq (wAsg (.nm 3) (eOf (fLc (iOf (eSl dSl (eVar 0) (oSome (eVar 1)) (oSome (eC (.int 57)))) itemsD) (cStep (.nm 2) bYes (eCa dAbs (aCons (eCa dInt1 (aCons (eVar 2) aNil)) aNil))) [2]))) (wSeq (wAsg (.nm 4) (eBin dAdd (eC (.int 33550337)) (eBin dMulI (eC (.int 61)) (eVar 1)))) (wSeq (wFor (.nm 2) (iOf (eVar 3) itemsD) (wAsg (.nm 4) (eBin dMod (eCa dInt1 (aCons (eBin dAdd (eBin dAdd (eBin dMulI (eVar 4) (eC (.int 40014))) (eBin dMod (eCa dInt1 (aCons (eVar 2) aNil)) (eC (.int 2147483549)))) (eC (.int 29))) aNil)) (eC (.int 2147483563))))) (wRetDl (mOw (fRevL (lOf (eOf (fLc (iOf (eVar 3) itemsD) (cStep (.nm 2) (tB1 (eBin dGe (eVar 2) (eBin dPow (eC (.int 10)) (eC (.int 18))))) (eVar 2)) [2])))) (mFz (eVar 4) mNil))))))
def R__law_deal := dRDl (w__law_deal) 2 3
theorem ok__law_deal {P : Program} {w : World} {K : Frg} {mg : Str → Option Value} {base : Heap} {f : Addr} {fd : FuncData} (bf : Bf mg)  (D0 : FunD K "_law_deal" "_law_deal" (defArgs s__law_deal) (defBody s__law_deal) (defScope s__law_deal) [] [] f fd) : FnOk P w K mg base (L2.CX P w) 1 f fd ["script", "base"] (spDl K (R__law_deal)) :=
  okDl D0 sc__law_deal (w__law_deal) 3 rfl fun cdv A outer s H E hr => by
    have hp := passes_of (X := cxOf (L2.CX P w) P w K mg base ["script", "base", "cell", "cells", "blend"] "_law_deal" (defScope s__law_deal) f cdv A outer s H E) rfl
    exact (pssd_cons (psd_slc [("cell", 2)] rfl sc__law_deal.nd (pid_seq (pd_slice (pd_var 0) (pdo_some (pd_var 1)) (pdo_some pd_int))) (blkOk_by (by kernel_rfl)) (fun _ _ _ _ _ => (pgd_name sc__law_deal.nd)) (fun _ _ _ _ _ => ptsd_nil) (fun _ _ _ _ _ => (pd_abs bf (pas_cons (pd_intc bf (pas_cons (pd_var 2) pas_nil)) pas_nil)))) (pssd_cons (psd_set (pd_add pd_int (pd_mul pd_int (pd_var 1))) sc__law_deal.nd) (pssd_cons (psd_for hp rfl (pid_seq (pd_var 3)) (pgd_name sc__law_deal.nd) (pssd_one (psd_set (pd_mod (pd_intc bf (pas_cons (pd_add (pd_add (pd_mul (pd_var 4) pd_int) (pd_mod (pd_intc bf (pas_cons (pd_var 2) pas_nil)) pd_int)) pd_int) pas_nil)) pd_int) sc__law_deal.nd))) (pssd_one (psd_retDl (pms_ow (pf_revL (pl_of (pd_of (pf_lc (own := [("cell", 2)]) rfl sc__law_deal.nd (pid_seq (pd_var 3)) (blkOk_by (by kernel_rfl)) (fun _ _ _ _ _ => (pgd_name sc__law_deal.nd)) (fun _ _ _ _ _ => (ptsd_one (pb_ge (pd_var 2) (pd_pow pd_int pd_int)))) (fun _ _ _ _ _ => (pd_var 2)))))) (pms_fz (pd_var 4) pms_nil)))))))

abbrev s__law_draw : Stmt := top 47
theorem sc__law_draw : FnScope ["deal", "bound", "rest"] ["deal", "bound"] (defScope s__law_draw) := ⟨rfl, rfl, rfl, by decide +kernel, rfl, by decide +kernel, by decide +kernel⟩
def w__law_draw : DW DlS := (wSeq (wWhile (bAnd (bD0ne 0) (tB1 (eBin dEq (eD0ix 0 (eUn dNeg (eC (.int 1)))) (eC (.int 0))))) (wD0pop 0)) (wSeq (wIf (bD0ne 0) (wSeq (wD0popTo 0 2) (wSeq (wD0app 0 (eBin dFdiv (eVar 2) (eVar 1))) (wRet (eBin dMod (eCa dInt1 (aCons (eVar 2) aNil)) (eVar 1))))) wNext) (wSeq (wD1set 0 (eBin dMod (eCa dInt1 (aCons (eBin dAdd (eBin dMulI (eD1 0) (eC (.int 40014))) (eC (.int 73))) aNil)) (eC (.int 2147483563)))) (wRet (eBin dMod (eCa dInt1 (aCons (eBin dFdiv (eD1 0) (eC (.int 128))) aNil)) (eVar 1))))))
def R__law_draw := dRG (w__law_draw) 1 1
theorem ok__law_draw {P : Program} {w : World} {K : Frg} {mg : Str → Option Value} {base : Heap} {f : Addr} {fd : FuncData} (bf : Bf mg)  (D0 : FunD K "_law_draw" "_law_draw" (defArgs s__law_draw) (defBody s__law_draw) (defScope s__law_draw) [] [] f fd) : FnOk P w K mg base (L2.CX P w) 1 f fd ["deal", "bound"] (spG dl K (R__law_draw)) :=
  okG D0 sc__law_draw (w__law_draw) 1 rfl fun i cdv A outer s H E hr => by
    have hp := passes_of (X := cxOf (L2.CX P w) P w K mg base ["deal", "bound", "rest"] "_law_draw" (defScope s__law_draw) f cdv A outer s H E) rfl
    exact (pssd_cons (psd_while hp (pb_of (pbw_and (pb_d0ne 0 hr.units) (pbw_and1 (pb_eq hr.units (pd_d0ix 0 (pd_neg pd_int)) pd_int)))) (pssd_one (psd_d0pop 0))) (pssd_cons (psd_if (pb_d0ne 0 hr.units) (pssd_cons (psd_d0popTo 0 2 sc__law_draw.nd) (pssd_cons (psd_d0app 0 (pd_fdiv (pd_var 2) (pd_var 1))) (pssd_one (psd_ret (pd_mod (pd_intc bf (pas_cons (pd_var 2) pas_nil)) (pd_var 1)))))) pssd_nil) (pssd_cons (psd_d1set 0 (pd_mod (pd_intc bf (pas_cons (pd_add (pd_mul (pd_d1 0) pd_int) pd_int) pas_nil)) pd_int)) (pssd_one (psd_ret (pd_mod (pd_intc bf (pas_cons (pd_fdiv (pd_d1 0) pd_int) pas_nil)) (pd_var 1)))))))

abbrev s__law_pick : Stmt := top 48
theorem sc__law_pick : FnScope ["deal", "some"] ["deal", "some"] (defScope s__law_pick) := ⟨rfl, rfl, rfl, by decide +kernel, rfl, by decide +kernel, by decide +kernel⟩
def w__law_pick : DW DlS := (wRet (eBin dIx (eVar 1) (eCallG 0 (R__law_draw) (aCons (eCa dLen (aCons (eVar 1) aNil)) aNil))))
def R__law_pick := dRG (w__law_pick) 1 0
theorem ok__law_pick {P : Program} {w : World} {K : Frg} {mg : Str → Option Value} {base : Heap} {f : Addr} {fd : FuncData} (bf : Bf mg) (h__law_draw : FnD P w K mg base 1 "_law_draw" ["deal", "bound"] (spG dl K (R__law_draw))) (D0 : FunD K "_law_pick" "_law_pick" (defArgs s__law_pick) (defBody s__law_pick) (defScope s__law_pick) [] [] f fd) : FnOk P w K mg base (L2.CX P w) 2 f fd ["deal", "some"] (spG dl K (R__law_pick)) :=
  okG D0 sc__law_pick (w__law_pick) 0 rfl fun i cdv A outer s H E hr => by
    have tk : Takes (cxOf (L2.CX P w) P w K mg base ["deal", "some"] "_law_pick" (defScope s__law_pick) f cdv A outer s H E) (WE' E) := takes_of rfl rfl rfl rfl
    exact (pssd_one (psd_ret (pd_ix (pd_var 1) (pd_callG 0 h__law_draw (hr.mono (by decide)) tk (pas_cons (pd_len bf (pas_cons (pd_var 1) pas_nil)) pas_nil)))))

abbrev s__law_mixed : Stmt := top 49
theorem sc__law_mixed : FnScope ["deal", "things", "left", "found"] ["deal", "things"] (defScope s__law_mixed) := ⟨rfl, rfl, rfl, by decide +kernel, rfl, by decide +kernel, by decide +kernel⟩
def w__law_mixed : DW DlS := (wSeq (wPar [2, 3] (mOw (fCa dList (aCons (eVar 1) aNil)) (mOw (fLst aNil) mNil))) (wSeq (wWhile (bBor 2 (tB1 (eBin dNe (eVar 2) (eOf (fLst aNil))))) (wAppPop 3 2 (eCallG 0 (R__law_draw) (aCons (eBor 2 (eCa dLen (aCons (eVar 2) aNil))) aNil)))) (wFz 3 (wRet (eVar 3)))))
def R__law_mixed := dRG (w__law_mixed) 1 2
theorem ok__law_mixed {P : Program} {w : World} {K : Frg} {mg : Str → Option Value} {base : Heap} {f : Addr} {fd : FuncData} (bf : Bf mg) (h__law_draw : FnD P w K mg base 1 "_law_draw" ["deal", "bound"] (spG dl K (R__law_draw))) (D0 : FunD K "_law_mixed" "_law_mixed" (defArgs s__law_mixed) (defBody s__law_mixed) (defScope s__law_mixed) [] [] f fd) : FnOk P w K mg base (L2.CX P w) 2 f fd ["deal", "things"] (spG dl K (R__law_mixed)) :=
  okG D0 sc__law_mixed (w__law_mixed) 2 rfl fun i cdv A outer s H E hr => by
    have hp := passes_of (X := cxOf (L2.CX P w) P w K mg base ["deal", "things", "left", "found"] "_law_mixed" (defScope s__law_mixed) f cdv A outer s H E) rfl
    have tk : Takes (cxOf (L2.CX P w) P w K mg base ["deal", "things", "left", "found"] "_law_mixed" (defScope s__law_mixed) f cdv A outer s H E) (WE' E) := takes_of rfl rfl rfl rfl
    have fl : Flat (dl i).g := dl_flat i
    exact (pssd_cons (psd_par 2 3 (pms_ow (pf_lisc bf (pas_cons (pd_var 1) pas_nil)) (pms_ow (pf_lst pas_nil) pms_nil)) rfl sc__law_mixed.nd) (pssd_cons (psd_while hp (pb_bor 2 fl (pb_ne hr.units (pd_var 2) (pd_of (pf_lst pas_nil)))) (pssd_one (psd_appPop 3 2 (pd_callG 0 h__law_draw (hr.mono (by decide)) tk (pas_cons (pd_bor 2 fl (pd_len bf (pas_cons (pd_var 2) pas_nil))) pas_nil))))) (pssd_fz 3 (pssd_one (psd_ret (pd_var 3))))))

abbrev s__law_settings : Stmt := top 50
theorem sc__law_settings : FnScope ["many", "size", "rows", "part", "grown", "row", "content"] ["many", "size"] (defScope s__law_settings) := ⟨rfl, rfl, rfl, by decide +kernel, rfl, by decide +kernel, by decide +kernel⟩
def w__law_settings : DW Unit := (wSeq (wAsg (.nm 2) (eOf (fLst (aCons (eOf (fLst aNil)) aNil)))) (wSeq (wFor (.nm 3) (iOf (aCons (eVar 1) aNil) itR1) (wSeq (wAsgF 4 (fLst aNil)) (wSeq (wFor (.nm 5) (iOf (eVar 2) itemsD) (wExt 4 (fLc (iOf (aCons (eVar 0) aNil) itR1) (cStep (.nm 6) bYes (eBin dAdd (eVar 5) (eOf (fLst (aCons (eVar 6) aNil))))) [6]))) (wFz 4 (wAsg (.nm 2) (eVar 4)))))) (wRet (eVar 2))))
def R__law_settings := dR (w__law_settings) 2 5
theorem ok__law_settings {P : Program} {w : World} {K : Frg} {mg : Str → Option Value} {base : Heap} {f : Addr} {fd : FuncData} (bf : Bf mg)  (D0 : FunD K "_law_settings" "_law_settings" (defArgs s__law_settings) (defBody s__law_settings) (defScope s__law_settings) [] [] f fd) : FnOk P w K mg base (L2.CX P w) 1 f fd ["many", "size"] (spP K (R__law_settings)) :=
  okD D0 sc__law_settings (w__law_settings) 5 rfl fun cdv A outer s H E hr => by
    have hp := passes_of (X := cxOf (L2.CX P w) P w K mg base ["many", "size", "rows", "part", "grown", "row", "content"] "_law_settings" (defScope s__law_settings) f cdv A outer s H E) rfl
    exact (pssd_cons (psd_set (pd_of (pf_lst (pas_cons (pd_of (pf_lst pas_nil)) pas_nil))) sc__law_settings.nd) (pssd_cons (psd_for hp rfl (pid_range1 bf.range (pas_cons (pd_var 1) pas_nil)) (pgd_name sc__law_settings.nd) (pssd_cons (psd_setF (pf_lst pas_nil) sc__law_settings.nd) (pssd_cons (psd_for hp rfl (pid_seq (pd_var 2)) (pgd_name sc__law_settings.nd) (pssd_one (psd_ext 4 (pf_lc (own := [("content", 6)]) rfl sc__law_settings.nd (pid_range1 bf.range (pas_cons (pd_var 0) pas_nil)) (blkOk_by (by kernel_rfl)) (fun _ _ _ _ _ => (pgd_name sc__law_settings.nd)) (fun _ _ _ _ _ => ptsd_nil) (fun _ _ _ _ _ => (pd_add (pd_var 5) (pd_of (pf_lst (pas_cons (pd_var 6) pas_nil))))))))) (pssd_fz 4 (pssd_one (psd_set (pd_var 4) sc__law_settings.nd)))))) (pssd_one (psd_ret (pd_var 2)))))

abbrev s__law_bends : Stmt := top 51
theorem sc__law_bends : FnScope ["deal", "size", "kind", "one", "other", "ties", "three", "bends", "bits", "bend", "part"] ["deal", "size"] (defScope s__law_bends) := ⟨rfl, rfl, rfl, by decide +kernel, rfl, by decide +kernel, by decide +kernel⟩
def w__law_bends : DW DlS := (wSeq (wAsg (.nm 2) (eCallG 0 (R__law_pick) (aCons (eOf (fLst (aCons (eC (.str "none")) (aCons (eC (.str "pairs")) (aCons (eC (.str "pairs")) (aCons (eC (.str "pairs")) (aCons (eC (.str "three")) (aCons (eC (.str "any")) aNil)))))))) aNil))) (wSeq (wAsg (.nm 5) (eOf (fLc (iOf (aCons (eVar 1) aNil) itR1) (cStep (.nm 3) bYes (eOf (fLc (iOf (aCons (eVar 3) aNil) itR1) (cStep (.nm 4) bYes (eBin dGt (eCallG 0 (R__law_draw) (aCons (eC (.int 3)) aNil)) (eC (.int 0)))) [4]))) [3]))) (wSeq (wPar [6, 7] (mFz (eSl dSl (eCallG 0 (R__law_mixed) (aCons (eOf (fRg1 (eVar 1))) aNil)) oNo (oSome (eC (.int 3)))) (mOw (fLst aNil) mNil))) (wSeq (wFor (.nm 8) (iOf (eCall (R__law_settings) (aCons (eC (.int 2)) (aCons (eVar 1) aNil))) itemsD) (wSeq (wAsg (.nm 9) (eC (.int 0))) (wSeq (wIf (tB1 (eBin dEq (eVar 2) (eC (.str "pairs")))) (wFor (.nm 3) (iOf (aCons (eVar 1) aNil) itR1) (wAsg (.nm 9) (eBin dAdd (eVar 9) (eCa dSum (aCons (eOf (fLc (iOf (aCons (eVar 3) aNil) itR1) (cStep (.nm 4) (tB1 (eBin dIx (eBin dIx (eVar 5) (eVar 3)) (eVar 4))) (eBin dMulI (eBin dIx (eVar 8) (eVar 3)) (eBin dIx (eVar 8) (eVar 4)))) [4])) aNil))))) (wIf (tB1 (eBin dEq (eVar 2) (eC (.str "three")))) (wAsg (.nm 9) (eCa dMin (aCons (eOf (fLc (iOf (eVar 6) itemsD) (cStep (.nm 10) bYes (eBin dIx (eVar 8) (eVar 10))) [10])) aNil))) (wIf (tB1 (eBin dEq (eVar 2) (eC (.str "any")))) (wAsg (.nm 9) (eCallG 0 (R__law_draw) (aCons (eC (.int 2)) aNil))) wNext))) (wApp 7 (eBin dMod (eCa dInt1 (aCons (eVar 9) aNil)) (eC (.int 2))))))) (wFz 7 (wRet (eVar 7)))))))
def R__law_bends := dRG (w__law_bends) 1 9
theorem ok__law_bends {P : Program} {w : World} {K : Frg} {mg : Str → Option Value} {base : Heap} {f : Addr} {fd : FuncData} (bf : Bf mg) (h__law_pick : FnD P w K mg base 2 "_law_pick" ["deal", "some"] (spG dl K (R__law_pick))) (h__law_draw : FnD P w K mg base 1 "_law_draw" ["deal", "bound"] (spG dl K (R__law_draw))) (h__law_mixed : FnD P w K mg base 2 "_law_mixed" ["deal", "things"] (spG dl K (R__law_mixed))) (h__law_settings : FnD P w K mg base 1 "_law_settings" ["many", "size"] (spP K (R__law_settings))) (D0 : FunD K "_law_bends" "_law_bends" (defArgs s__law_bends) (defBody s__law_bends) (defScope s__law_bends) [] [] f fd) : FnOk P w K mg base (L2.CX P w) 3 f fd ["deal", "size"] (spG dl K (R__law_bends)) :=
  okG D0 sc__law_bends (w__law_bends) 9 rfl fun i cdv A outer s H E hr => by
    have hp := passes_of (X := cxOf (L2.CX P w) P w K mg base ["deal", "size", "kind", "one", "other", "ties", "three", "bends", "bits", "bend", "part"] "_law_bends" (defScope s__law_bends) f cdv A outer s H E) rfl
    have tk : Takes (cxOf (L2.CX P w) P w K mg base ["deal", "size", "kind", "one", "other", "ties", "three", "bends", "bits", "bend", "part"] "_law_bends" (defScope s__law_bends) f cdv A outer s H E) (WE' E) := takes_of rfl rfl rfl rfl
    exact (pssd_cons (psd_set (pd_callG 0 h__law_pick (hr.mono (by decide)) tk (pas_cons (pd_of (pf_lst (pas_cons pd_str (pas_cons pd_str (pas_cons pd_str (pas_cons pd_str (pas_cons pd_str (pas_cons pd_str pas_nil)))))))) pas_nil)) sc__law_bends.nd) (pssd_cons (psd_set (pd_of (pf_lc (own := [("one", 3)]) rfl sc__law_bends.nd (pid_range1 bf.range (pas_cons (pd_var 1) pas_nil)) (blkOk_by (by kernel_rfl)) (fun _ _ _ _ _ => (pgd_name sc__law_bends.nd)) (fun _ _ _ _ _ => ptsd_nil) (fun _ _ _ _ _ => (pd_of (pf_lc (own := [("other", 4)]) rfl sc__law_bends.nd (pid_range1 bf.range (pas_cons (pd_var 3) pas_nil)) (blkOk_by (by kernel_rfl)) (fun _ _ _ _ _ => (pgd_name sc__law_bends.nd)) (fun _ _ _ _ _ => ptsd_nil) (fun _ _ _ _ _ => (pd_gt (pd_callG 0 h__law_draw (hr.mono (by decide)) L2.takes0 (pas_cons pd_int pas_nil)) pd_int))))))) sc__law_bends.nd) (pssd_cons (psd_par 6 7 (pms_fz (pd_slice (pd_callG 0 h__law_mixed (hr.mono (by decide)) tk (pas_cons (pd_of (pf_rg1 rfl bf.list bf.range (pd_var 1))) pas_nil)) pdo_none (pdo_some pd_int)) (pms_ow (pf_lst pas_nil) pms_nil)) rfl sc__law_bends.nd) (pssd_cons (psd_for hp rfl (pid_seq (pd_call h__law_settings (hr.mono (by decide)) tk (pas_cons pd_int (pas_cons (pd_var 1) pas_nil)))) (pgd_name sc__law_bends.nd) (pssd_cons (psd_set pd_int sc__law_bends.nd) (pssd_cons (psd_if (pb_eq hr.units (pd_var 2) pd_str) (pssd_one (psd_for hp rfl (pid_range1 bf.range (pas_cons (pd_var 1) pas_nil)) (pgd_name sc__law_bends.nd) (pssd_one (psd_set (pd_add (pd_var 9) (pd_sum rfl bf (pas_cons (pd_of (pf_lc (own := [("other", 4)]) rfl sc__law_bends.nd (pid_range1 bf.range (pas_cons (pd_var 3) pas_nil)) (blkOk_by (by kernel_rfl)) (fun _ _ _ _ _ => (pgd_name sc__law_bends.nd)) (fun _ _ _ _ _ => (ptsd_one (pb_val (pd_ix (pd_ix (pd_var 5) (pd_var 3)) (pd_var 4))))) (fun _ _ _ _ _ => (pd_mul (pd_ix (pd_var 8) (pd_var 3)) (pd_ix (pd_var 8) (pd_var 4)))))) pas_nil))) sc__law_bends.nd)))) (pssd_one (psd_if (pb_eq hr.units (pd_var 2) pd_str) (pssd_one (psd_set (pd_min rfl bf (pas_cons (pd_of (pf_lc (own := [("part", 10)]) rfl sc__law_bends.nd (pid_seq (pd_var 6)) (blkOk_by (by kernel_rfl)) (fun _ _ _ _ _ => (pgd_name sc__law_bends.nd)) (fun _ _ _ _ _ => ptsd_nil) (fun _ _ _ _ _ => (pd_ix (pd_var 8) (pd_var 10))))) pas_nil)) sc__law_bends.nd)) (pssd_one (psd_if (pb_eq hr.units (pd_var 2) pd_str) (pssd_one (psd_set (pd_callG 0 h__law_draw (hr.mono (by decide)) tk (pas_cons pd_int pas_nil)) sc__law_bends.nd)) pssd_nil))))) (pssd_one (psd_app 7 (pd_mod (pd_intc bf (pas_cons (pd_var 9) pas_nil)) pd_int)))))) (pssd_fz 7 (pssd_one (psd_ret (pd_var 7))))))))

abbrev s__law_two_bits : Stmt := top 52
theorem sc__law_two_bits : FnScope ["deal", "size", "part", "rows", "names", "bends", "marks", "setting", "low", "high", "at", "content", "name"] ["deal", "size"] (defScope s__law_two_bits) := ⟨rfl, rfl, rfl, by decide +kernel, rfl, by decide +kernel, by decide +kernel⟩
def w__law_two_bits : DW DlS := (wSeq (wPar [3, 4] (mFz (eOf (fLc (iOf (aCons (eVar 1) aNil) itR1) (cStep (.nm 2) bYes (eCallG 0 (R__law_mixed) (aCons (eOf (fRg1 (eC (.int 4)))) aNil))) [2])) (mFz (eCallG 0 (R__law_mixed) (aCons (eOf (fRg1 (eC (.int 4)))) aNil)) mNil))) (wSeq (wPar [5, 6] (mFz (eCallG 0 (R__law_bends) (aCons (eVar 1) aNil)) (mOw (fLst aNil) mNil))) (wSeq (wFor (.nm 7) (iOf (eCall (R__law_settings) (aCons (eC (.int 4)) (aCons (eVar 1) aNil))) itemsD) (wSeq (wAsg (.tp [(.nm 8), (.nm 9), (.nm 10)]) (eTup (aCons (eC (.int 0)) (aCons (eC (.int 0)) (aCons (eC (.int 0)) aNil))))) (wSeq (wFor (.tp [(.nm 2), (.nm 11)]) (iOf (aCons (eVar 7) aNil) itEnum) (wSeq (wAsg (.nm 12) (eBin dIx (eBin dIx (eVar 3) (eVar 2)) (eVar 11))) (wPar [8, 9, 10] (mFz (eBin dAdd (eVar 8) (eVar 12)) (mFz (eBin dAdd (eVar 9) (eBin dFdiv (eVar 12) (eC (.int 2)))) (mFz (eBin dAdd (eBin dMulI (eVar 10) (eC (.int 2))) (eBin dFdiv (eVar 12) (eC (.int 2)))) mNil)))))) (wApp 6 (eBin dIx (eVar 4) (eBin dAdd (eBin dMulI (eBin dMod (eCa dInt1 (aCons (eVar 9) aNil)) (eC (.int 2))) (eC (.int 2))) (eBin dMod (eCa dInt1 (aCons (eBin dAdd (eVar 8) (eBin dIx (eVar 5) (eVar 10))) aNil)) (eC (.int 2))))))))) (wFz 6 (wRet (eVar 6))))))
def R__law_two_bits := dRG (w__law_two_bits) 1 11
theorem ok__law_two_bits {P : Program} {w : World} {K : Frg} {mg : Str → Option Value} {base : Heap} {f : Addr} {fd : FuncData} (bf : Bf mg) (h__law_mixed : FnD P w K mg base 2 "_law_mixed" ["deal", "things"] (spG dl K (R__law_mixed))) (h__law_bends : FnD P w K mg base 3 "_law_bends" ["deal", "size"] (spG dl K (R__law_bends))) (h__law_settings : FnD P w K mg base 1 "_law_settings" ["many", "size"] (spP K (R__law_settings))) (D0 : FunD K "_law_two_bits" "_law_two_bits" (defArgs s__law_two_bits) (defBody s__law_two_bits) (defScope s__law_two_bits) [] [] f fd) : FnOk P w K mg base (L2.CX P w) 4 f fd ["deal", "size"] (spG dl K (R__law_two_bits)) :=
  okG D0 sc__law_two_bits (w__law_two_bits) 11 rfl fun i cdv A outer s H E hr => by
    have hp := passes_of (X := cxOf (L2.CX P w) P w K mg base ["deal", "size", "part", "rows", "names", "bends", "marks", "setting", "low", "high", "at", "content", "name"] "_law_two_bits" (defScope s__law_two_bits) f cdv A outer s H E) rfl
    have tk : Takes (cxOf (L2.CX P w) P w K mg base ["deal", "size", "part", "rows", "names", "bends", "marks", "setting", "low", "high", "at", "content", "name"] "_law_two_bits" (defScope s__law_two_bits) f cdv A outer s H E) (WE' E) := takes_of rfl rfl rfl rfl
    exact (pssd_cons (psd_par 3 4 (pms_fz (pd_of (pf_lc (own := [("part", 2)]) rfl sc__law_two_bits.nd (pid_range1 bf.range (pas_cons (pd_var 1) pas_nil)) (blkOk_by (by kernel_rfl)) (fun _ _ _ _ _ => (pgd_name sc__law_two_bits.nd)) (fun _ _ _ _ _ => ptsd_nil) (fun _ _ _ _ _ => (pd_callG 0 h__law_mixed (hr.mono (by decide)) L2.takes0 (pas_cons (pd_of (pf_rg1 rfl bf.list bf.range pd_int)) pas_nil))))) (pms_fz (pd_callG 0 h__law_mixed (hr.mono (by decide)) tk (pas_cons (pd_of (pf_rg1 rfl bf.list bf.range pd_int)) pas_nil)) pms_nil)) rfl sc__law_two_bits.nd) (pssd_cons (psd_par 5 6 (pms_fz (pd_callG 0 h__law_bends (hr.mono (by decide)) tk (pas_cons (pd_var 1) pas_nil)) (pms_ow (pf_lst pas_nil) pms_nil)) rfl sc__law_two_bits.nd) (pssd_cons (psd_for hp rfl (pid_seq (pd_call h__law_settings (hr.mono (by decide)) tk (pas_cons pd_int (pas_cons (pd_var 1) pas_nil)))) (pgd_name sc__law_two_bits.nd) (pssd_cons (psd_asg (pd_tup (pas_cons pd_int (pas_cons pd_int (pas_cons pd_int pas_nil)))) (pgd_tup rfl (pgsd_cons (pgd_name sc__law_two_bits.nd) (pgsd_cons (pgd_name sc__law_two_bits.nd) (pgsd_cons (pgd_name sc__law_two_bits.nd) pgsd_nil))))) (pssd_cons (psd_for hp rfl (pid_enum bf.enumerate (pas_cons (pd_var 7) pas_nil)) (pgd_tup rfl (pgsd_cons (pgd_name sc__law_two_bits.nd) (pgsd_cons (pgd_name sc__law_two_bits.nd) pgsd_nil))) (pssd_cons (psd_set (pd_ix (pd_ix (pd_var 3) (pd_var 2)) (pd_var 11)) sc__law_two_bits.nd) (pssd_one (psd_par3 8 9 10 (pms_fz (pd_add (pd_var 8) (pd_var 12)) (pms_fz (pd_add (pd_var 9) (pd_fdiv (pd_var 12) pd_int)) (pms_fz (pd_add (pd_mul (pd_var 10) pd_int) (pd_fdiv (pd_var 12) pd_int)) pms_nil))) rfl sc__law_two_bits.nd)))) (pssd_one (psd_app 6 (pd_ix (pd_var 4) (pd_add (pd_mul (pd_mod (pd_intc bf (pas_cons (pd_var 9) pas_nil)) pd_int) pd_int) (pd_mod (pd_intc bf (pas_cons (pd_add (pd_var 8) (pd_ix (pd_var 5) (pd_var 10))) pas_nil)) pd_int)))))))) (pssd_fz 6 (pssd_one (psd_ret (pd_var 6)))))))

abbrev s__law_times : Stmt := top 53
theorem sc__law_times : FnScope ["many", "one", "other", "turn"] ["many", "one", "other"] (defScope s__law_times) := ⟨rfl, rfl, rfl, by decide +kernel, rfl, by decide +kernel, by decide +kernel⟩
def w__law_times : DW Unit := (wSeq (wAsg (.nm 3) (eIf (tB1 (eBin dEq (eBin dMod (eVar 1) (eC (.int 2))) (eC (.int 0)))) (eBin dFdiv (eVar 2) (eC (.int 2))) (eBin dSub (eC (.int 0)) (eBin dFdiv (eVar 2) (eC (.int 2)))))) (wRet (eBin dAdd (eBin dMulI (eBin dMod (eCa dInt1 (aCons (eBin dAdd (eBin dFdiv (eVar 1) (eC (.int 2))) (eVar 3)) aNil)) (eBin dFdiv (eVar 0) (eC (.int 2)))) (eC (.int 2))) (eBin dMod (eCa dInt1 (aCons (eBin dAdd (eVar 1) (eVar 2)) aNil)) (eC (.int 2))))))
def R__law_times := dR (w__law_times) 3 1
theorem ok__law_times {P : Program} {w : World} {K : Frg} {mg : Str → Option Value} {base : Heap} {f : Addr} {fd : FuncData} (bf : Bf mg)  (D0 : FunD K "_law_times" "_law_times" (defArgs s__law_times) (defBody s__law_times) (defScope s__law_times) [] [] f fd) : FnOk P w K mg base (L2.CX P w) 1 f fd ["many", "one", "other"] (spP K (R__law_times)) :=
  okD D0 sc__law_times (w__law_times) 1 rfl fun cdv A outer s H E hr => by
    exact (pssd_cons (psd_set (pd_if (pb_eq hr.units (pd_mod (pd_var 1) pd_int) pd_int) (pd_fdiv (pd_var 2) pd_int) (pd_sub pd_int (pd_fdiv (pd_var 2) pd_int))) sc__law_times.nd) (pssd_one (psd_ret (pd_add (pd_mul (pd_mod (pd_intc bf (pas_cons (pd_add (pd_fdiv (pd_var 1) pd_int) (pd_var 3)) pas_nil)) (pd_fdiv (pd_var 0) pd_int)) pd_int) (pd_mod (pd_intc bf (pas_cons (pd_add (pd_var 1) (pd_var 2)) pas_nil)) pd_int)))))

abbrev s__law_products : Stmt := top 54
theorem sc__law_products : FnScope ["deal", "many", "part", "rows", "names", "inner", "order", "marks", "setting", "x", "y", "z"] ["deal", "many"] (defScope s__law_products) := ⟨rfl, rfl, rfl, by decide +kernel, rfl, by decide +kernel, by decide +kernel⟩
def w__law_products : DW DlS := (wSeq (wAsg (.tp [(.nm 3), (.nm 4)]) (eTup (aCons (eOf (fLc (iOf (aCons (eC (.int 3)) aNil) itR1) (cStep (.nm 2) bYes (eCallG 0 (R__law_mixed) (aCons (eOf (fRg1 (eVar 1))) aNil))) [2])) (aCons (eCallG 0 (R__law_mixed) (aCons (eOf (fRg1 (eVar 1))) aNil)) aNil)))) (wSeq (wAsg (.nm 5) (eIf (tB1 (eBin dGt (eCallG 0 (R__law_draw) (aCons (eC (.int 3)) aNil)) (eC (.int 0)))) (eOf (fRg1 (eVar 1))) (eCallG 0 (R__law_mixed) (aCons (eOf (fRg1 (eVar 1))) aNil)))) (wSeq (wPar [6, 7] (mFz (eCallG 0 (R__law_mixed) (aCons (eOf (fLst (aCons (eC (.int 0)) (aCons (eC (.int 1)) (aCons (eC (.int 2)) aNil))))) aNil)) (mOw (fLst aNil) mNil))) (wSeq (wFor (.nm 8) (iOf (eCall (R__law_settings) (aCons (eVar 1) (aCons (eC (.int 3)) aNil))) itemsD) (wSeq (wAsg (.tp [(.nm 9), (.nm 10), (.nm 11)]) (eOf (fLc (iOf (eVar 6) itemsD) (cStep (.nm 2) bYes (eBin dIx (eBin dIx (eVar 3) (eVar 2)) (eBin dIx (eVar 8) (eVar 2)))) [2]))) (wApp 7 (eBin dIx (eVar 4) (eCall (R__law_times) (aCons (eVar 1) (aCons (eVar 9) (aCons (eBin dIx (eVar 5) (eCall (R__law_times) (aCons (eVar 1) (aCons (eVar 10) (aCons (eVar 11) aNil))))) aNil)))))))) (wFz 7 (wRet (eVar 7)))))))
def R__law_products := dRG (w__law_products) 1 10
theorem ok__law_products {P : Program} {w : World} {K : Frg} {mg : Str → Option Value} {base : Heap} {f : Addr} {fd : FuncData} (bf : Bf mg) (h__law_mixed : FnD P w K mg base 2 "_law_mixed" ["deal", "things"] (spG dl K (R__law_mixed))) (h__law_draw : FnD P w K mg base 1 "_law_draw" ["deal", "bound"] (spG dl K (R__law_draw))) (h__law_settings : FnD P w K mg base 1 "_law_settings" ["many", "size"] (spP K (R__law_settings))) (h__law_times : FnD P w K mg base 1 "_law_times" ["many", "one", "other"] (spP K (R__law_times))) (D0 : FunD K "_law_products" "_law_products" (defArgs s__law_products) (defBody s__law_products) (defScope s__law_products) [] [] f fd) : FnOk P w K mg base (L2.CX P w) 3 f fd ["deal", "many"] (spG dl K (R__law_products)) :=
  okG D0 sc__law_products (w__law_products) 10 rfl fun i cdv A outer s H E hr => by
    have hp := passes_of (X := cxOf (L2.CX P w) P w K mg base ["deal", "many", "part", "rows", "names", "inner", "order", "marks", "setting", "x", "y", "z"] "_law_products" (defScope s__law_products) f cdv A outer s H E) rfl
    have tk : Takes (cxOf (L2.CX P w) P w K mg base ["deal", "many", "part", "rows", "names", "inner", "order", "marks", "setting", "x", "y", "z"] "_law_products" (defScope s__law_products) f cdv A outer s H E) (WE' E) := takes_of rfl rfl rfl rfl
    exact (pssd_cons (psd_asg (pd_tup (pas_cons (pd_of (pf_lc (own := [("part", 2)]) rfl sc__law_products.nd (pid_range1 bf.range (pas_cons pd_int pas_nil)) (blkOk_by (by kernel_rfl)) (fun _ _ _ _ _ => (pgd_name sc__law_products.nd)) (fun _ _ _ _ _ => ptsd_nil) (fun _ _ _ _ _ => (pd_callG 0 h__law_mixed (hr.mono (by decide)) L2.takes0 (pas_cons (pd_of (pf_rg1 rfl bf.list bf.range (pd_var 1))) pas_nil))))) (pas_cons (pd_callG 0 h__law_mixed (hr.mono (by decide)) tk (pas_cons (pd_of (pf_rg1 rfl bf.list bf.range (pd_var 1))) pas_nil)) pas_nil))) (pgd_tup rfl (pgsd_cons (pgd_name sc__law_products.nd) (pgsd_cons (pgd_name sc__law_products.nd) pgsd_nil)))) (pssd_cons (psd_set (pd_if (pb_gt (pd_callG 0 h__law_draw (hr.mono (by decide)) tk (pas_cons pd_int pas_nil)) pd_int) (pd_of (pf_rg1 rfl bf.list bf.range (pd_var 1))) (pd_callG 0 h__law_mixed (hr.mono (by decide)) tk (pas_cons (pd_of (pf_rg1 rfl bf.list bf.range (pd_var 1))) pas_nil))) sc__law_products.nd) (pssd_cons (psd_par 6 7 (pms_fz (pd_callG 0 h__law_mixed (hr.mono (by decide)) tk (pas_cons (pd_of (pf_lst (pas_cons pd_int (pas_cons pd_int (pas_cons pd_int pas_nil))))) pas_nil)) (pms_ow (pf_lst pas_nil) pms_nil)) rfl sc__law_products.nd) (pssd_cons (psd_for hp rfl (pid_seq (pd_call h__law_settings (hr.mono (by decide)) tk (pas_cons (pd_var 1) (pas_cons pd_int pas_nil)))) (pgd_name sc__law_products.nd) (pssd_cons (psd_asg (pd_of (pf_lc (own := [("part", 2)]) rfl sc__law_products.nd (pid_seq (pd_var 6)) (blkOk_by (by kernel_rfl)) (fun _ _ _ _ _ => (pgd_name sc__law_products.nd)) (fun _ _ _ _ _ => ptsd_nil) (fun _ _ _ _ _ => (pd_ix (pd_ix (pd_var 3) (pd_var 2)) (pd_ix (pd_var 8) (pd_var 2)))))) (pgd_tup rfl (pgsd_cons (pgd_name sc__law_products.nd) (pgsd_cons (pgd_name sc__law_products.nd) (pgsd_cons (pgd_name sc__law_products.nd) pgsd_nil))))) (pssd_one (psd_app 7 (pd_ix (pd_var 4) (pd_call h__law_times (hr.mono (by decide)) tk (pas_cons (pd_var 1) (pas_cons (pd_var 9) (pas_cons (pd_ix (pd_var 5) (pd_call h__law_times (hr.mono (by decide)) tk (pas_cons (pd_var 1) (pas_cons (pd_var 10) (pas_cons (pd_var 11) pas_nil))))) pas_nil))))))))) (pssd_fz 7 (pssd_one (psd_ret (pd_var 7))))))))

abbrev s__law_board : Stmt := top 55
theorem sc__law_board : FnScope ["deal", "kind", "size", "many", "part", "rows", "setting", "content", "sums", "total"] ["deal"] (defScope s__law_board) := ⟨rfl, rfl, rfl, by decide +kernel, rfl, by decide +kernel, by decide +kernel⟩
def w__law_board : DW DlS := (wSeq (wAsg (.nm 1) (eCallG 0 (R__law_draw) (aCons (eC (.int 7)) aNil))) (wSeq (wIf (tB1 (eBin dLt (eVar 1) (eC (.int 3)))) (wSeq (wAsg (.nm 2) (eIf (tB1 (eBin dEq (eVar 1) (eC (.int 0)))) (eC (.int 4)) (eC (.int 3)))) (wRet (eTup (aCons (eC (.int 4)) (aCons (eVar 2) (aCons (eCallG 0 (R__law_two_bits) (aCons (eVar 2) aNil)) aNil)))))) wNext) (wSeq (wIf (tB1 (eBin dEq (eVar 1) (eC (.int 3)))) (wSeq (wAsg (.nm 3) (eCallG 0 (R__law_pick) (aCons (eOf (fLst (aCons (eC (.int 6)) (aCons (eC (.int 6)) (aCons (eC (.int 8)) aNil))))) aNil))) (wRet (eTup (aCons (eVar 3) (aCons (eC (.int 3)) (aCons (eCallG 0 (R__law_products) (aCons (eVar 3) aNil)) aNil)))))) wNext) (wSeq (wAsg (.tp [(.nm 3), (.nm 2)]) (eTup (aCons (eBin dAdd (eC (.int 2)) (eCallG 0 (R__law_draw) (aCons (eC (.int 5)) aNil))) (aCons (eBin dAdd (eC (.int 1)) (eCallG 0 (R__law_draw) (aCons (eC (.int 3)) aNil))) aNil)))) (wSeq (wAsg (.nm 5) (eOf (fLc (iOf (aCons (eBin dAdd (eVar 2) (eC (.int 1))) aNil) itR1) (cStep (.nm 4) bYes (eCallG 0 (R__law_mixed) (aCons (eOf (fRg1 (eVar 3))) aNil))) [4]))) (wSeq (wAsg (.nm 8) (eOf (fLc (iOf (eCall (R__law_settings) (aCons (eVar 3) (aCons (eVar 2) aNil))) itemsD) (cStep (.nm 6) bYes (eCa dSum (aCons (eOf (fLc (iOf (aCons (eVar 6) aNil) itEnum) (cStep (.tp [(.nm 4), (.nm 7)]) bYes (eBin dIx (eBin dIx (eVar 5) (eVar 4)) (eVar 7))) [4, 7])) aNil))) [6]))) (wRet (eTup (aCons (eVar 3) (aCons (eVar 2) (aCons (eOf (fLc (iOf (eVar 8) itemsD) (cStep (.nm 9) bYes (eBin dIx (eBin dIx (eVar 5) (eVar 2)) (eBin dMod (eCa dInt1 (aCons (eVar 9) aNil)) (eVar 3)))) [9])) aNil)))))))))))
def R__law_board := dRG (w__law_board) 0 9
theorem ok__law_board {P : Program} {w : World} {K : Frg} {mg : Str → Option Value} {base : Heap} {f : Addr} {fd : FuncData} (bf : Bf mg) (h__law_draw : FnD P w K mg base 1 "_law_draw" ["deal", "bound"] (spG dl K (R__law_draw))) (h__law_two_bits : FnD P w K mg base 4 "_law_two_bits" ["deal", "size"] (spG dl K (R__law_two_bits))) (h__law_pick : FnD P w K mg base 2 "_law_pick" ["deal", "some"] (spG dl K (R__law_pick))) (h__law_products : FnD P w K mg base 3 "_law_products" ["deal", "many"] (spG dl K (R__law_products))) (h__law_mixed : FnD P w K mg base 2 "_law_mixed" ["deal", "things"] (spG dl K (R__law_mixed))) (h__law_settings : FnD P w K mg base 1 "_law_settings" ["many", "size"] (spP K (R__law_settings))) (D0 : FunD K "_law_board" "_law_board" (defArgs s__law_board) (defBody s__law_board) (defScope s__law_board) [] [] f fd) : FnOk P w K mg base (L2.CX P w) 5 f fd ["deal"] (spG dl K (R__law_board)) :=
  okG D0 sc__law_board (w__law_board) 9 rfl fun i cdv A outer s H E hr => by
    have tk : Takes (cxOf (L2.CX P w) P w K mg base ["deal", "kind", "size", "many", "part", "rows", "setting", "content", "sums", "total"] "_law_board" (defScope s__law_board) f cdv A outer s H E) (WE' E) := takes_of rfl rfl rfl rfl
    exact (pssd_cons (psd_set (pd_callG 0 h__law_draw (hr.mono (by decide)) tk (pas_cons pd_int pas_nil)) sc__law_board.nd) (pssd_cons (psd_if (pb_lt (pd_var 1) pd_int) (pssd_cons (psd_set (pd_if (pb_eq hr.units (pd_var 1) pd_int) pd_int pd_int) sc__law_board.nd) (pssd_one (psd_ret (pd_tup (pas_cons pd_int (pas_cons (pd_var 2) (pas_cons (pd_callG 0 h__law_two_bits (hr.mono (by decide)) tk (pas_cons (pd_var 2) pas_nil)) pas_nil))))))) pssd_nil) (pssd_cons (psd_if (pb_eq hr.units (pd_var 1) pd_int) (pssd_cons (psd_set (pd_callG 0 h__law_pick (hr.mono (by decide)) tk (pas_cons (pd_of (pf_lst (pas_cons pd_int (pas_cons pd_int (pas_cons pd_int pas_nil))))) pas_nil)) sc__law_board.nd) (pssd_one (psd_ret (pd_tup (pas_cons (pd_var 3) (pas_cons pd_int (pas_cons (pd_callG 0 h__law_products (hr.mono (by decide)) tk (pas_cons (pd_var 3) pas_nil)) pas_nil))))))) pssd_nil) (pssd_cons (psd_asg (pd_tup (pas_cons (pd_add pd_int (pd_callG 0 h__law_draw (hr.mono (by decide)) tk (pas_cons pd_int pas_nil))) (pas_cons (pd_add pd_int (pd_callG 0 h__law_draw (hr.mono (by decide)) tk (pas_cons pd_int pas_nil))) pas_nil))) (pgd_tup rfl (pgsd_cons (pgd_name sc__law_board.nd) (pgsd_cons (pgd_name sc__law_board.nd) pgsd_nil)))) (pssd_cons (psd_set (pd_of (pf_lc (own := [("part", 4)]) rfl sc__law_board.nd (pid_range1 bf.range (pas_cons (pd_add (pd_var 2) pd_int) pas_nil)) (blkOk_by (by kernel_rfl)) (fun _ _ _ _ _ => (pgd_name sc__law_board.nd)) (fun _ _ _ _ _ => ptsd_nil) (fun _ _ _ _ _ => (pd_callG 0 h__law_mixed (hr.mono (by decide)) L2.takes0 (pas_cons (pd_of (pf_rg1 rfl bf.list bf.range (pd_var 3))) pas_nil))))) sc__law_board.nd) (pssd_cons (psd_slc [("setting", 6)] rfl sc__law_board.nd (pid_seq (pd_call h__law_settings (hr.mono (by decide)) tk (pas_cons (pd_var 3) (pas_cons (pd_var 2) pas_nil)))) (blkOk_by (by kernel_rfl)) (fun _ _ _ _ _ => (pgd_name sc__law_board.nd)) (fun _ _ _ _ _ => ptsd_nil) (fun _ _ _ _ _ => (pd_sum rfl bf (pas_cons (pd_of (pf_lc (own := [("part", 4), ("content", 7)]) rfl sc__law_board.nd (pid_enum bf.enumerate (pas_cons (pd_var 6) pas_nil)) (blkOk_by (by kernel_rfl)) (fun _ _ _ _ _ => (pgd_tup rfl (pgsd_cons (pgd_name sc__law_board.nd) (pgsd_cons (pgd_name sc__law_board.nd) pgsd_nil)))) (fun _ _ _ _ _ => ptsd_nil) (fun _ _ _ _ _ => (pd_ix (pd_ix (pd_var 5) (pd_var 4)) (pd_var 7))))) pas_nil)))) (pssd_one (psd_ret (pd_tup (pas_cons (pd_var 3) (pas_cons (pd_var 2) (pas_cons (pd_of (pf_lc (own := [("total", 9)]) rfl sc__law_board.nd (pid_seq (pd_var 8)) (blkOk_by (by kernel_rfl)) (fun _ _ _ _ _ => (pgd_name sc__law_board.nd)) (fun _ _ _ _ _ => ptsd_nil) (fun _ _ _ _ _ => (pd_ix (pd_ix (pd_var 5) (pd_var 2)) (pd_mod (pd_intc bf (pas_cons (pd_var 9) pas_nil)) (pd_var 3)))))) pas_nil))))))))))))

abbrev s__law_number : Stmt := top 58
theorem sc__law_number : FnScope ["many", "setting", "number", "content"] ["many", "setting"] (defScope s__law_number) := ⟨rfl, rfl, rfl, by decide +kernel, rfl, by decide +kernel, by decide +kernel⟩
def w__law_number : DW Unit := (wSeq (wAsg (.nm 2) (eC (.int 0))) (wSeq (wFor (.nm 3) (iOf (eVar 1) itemsD) (wAsg (.nm 2) (eBin dAdd (eBin dMulI (eVar 2) (eVar 0)) (eVar 3)))) (wRet (eVar 2))))
def R__law_number := dR (w__law_number) 2 2
theorem ok__law_number {P : Program} {w : World} {K : Frg} {mg : Str → Option Value} {base : Heap} {f : Addr} {fd : FuncData} (bf : Bf mg)  (D0 : FunD K "_law_number" "_law_number" (defArgs s__law_number) (defBody s__law_number) (defScope s__law_number) [] [] f fd) : FnOk P w K mg base (L2.CX P w) 1 f fd ["many", "setting"] (spP K (R__law_number)) :=
  okD D0 sc__law_number (w__law_number) 2 rfl fun cdv A outer s H E hr => by
    have hp := passes_of (X := cxOf (L2.CX P w) P w K mg base ["many", "setting", "number", "content"] "_law_number" (defScope s__law_number) f cdv A outer s H E) rfl
    exact (pssd_cons (psd_set pd_int sc__law_number.nd) (pssd_cons (psd_for hp rfl (pid_seq (pd_var 1)) (pgd_name sc__law_number.nd) (pssd_one (psd_set (pd_add (pd_mul (pd_var 2) (pd_var 0)) (pd_var 3)) sc__law_number.nd))) (pssd_one (psd_ret (pd_var 2)))))

abbrev s__law_unnoticed : Stmt := top 59
theorem sc__law_unnoticed : FnScope ["many", "size", "marks", "setting", "lot", "rows", "part", "grown", "row", "content", "some", "mark"] ["many", "size", "marks", "setting", "lot"] (defScope s__law_unnoticed) := ⟨rfl, rfl, rfl, by decide +kernel, rfl, by decide +kernel, by decide +kernel⟩
def w__law_unnoticed : DW Unit := (wSeq (wAsg (.nm 5) (eOf (fLst (aCons (eOf (fLst aNil)) aNil)))) (wSeq (wFor (.nm 6) (iOf (aCons (eVar 1) aNil) itR1) (wSeq (wAsgF 7 (fLst aNil)) (wSeq (wFor (.nm 8) (iOf (eVar 5) itemsD) (wSeq (wAsg (.nm 10) (eIf (tB1 (eBin (dIn false) (eVar 6) (eVar 4))) (eOf (fLc (iOf (aCons (eVar 0) aNil) itR1) (cStep (.nm 9) (tB1 (eBin dNe (eVar 9) (eBin dIx (eVar 3) (eVar 6)))) (eVar 9)) [9])) (eOf (fLst (aCons (eBin dIx (eVar 3) (eVar 6)) aNil))))) (wExt 7 (fLc (iOf (eVar 10) itemsD) (cStep (.nm 9) bYes (eBin dAdd (eVar 8) (eOf (fLst (aCons (eVar 9) aNil))))) [9])))) (wFz 7 (wAsg (.nm 5) (eVar 7)))))) (wSeq (wAsg (.nm 11) (eBin dIx (eVar 2) (eCall (R__law_number) (aCons (eVar 0) (aCons (eVar 3) aNil))))) (wRet (eOf (fLc (iOf (eVar 5) itemsD) (cStep (.nm 8) (tB1 (eBin dEq (eBin dIx (eVar 2) (eCall (R__law_number) (aCons (eVar 0) (aCons (eVar 8) aNil)))) (eVar 11))) (eCa dTuple (aCons (eVar 8) aNil))) [8]))))))
def R__law_unnoticed := dR (w__law_unnoticed) 5 7
theorem ok__law_unnoticed {P : Program} {w : World} {K : Frg} {mg : Str → Option Value} {base : Heap} {f : Addr} {fd : FuncData} (bf : Bf mg) (h__law_number : FnD P w K mg base 1 "_law_number" ["many", "setting"] (spP K (R__law_number))) (D0 : FunD K "_law_unnoticed" "_law_unnoticed" (defArgs s__law_unnoticed) (defBody s__law_unnoticed) (defScope s__law_unnoticed) [] [] f fd) : FnOk P w K mg base (L2.CX P w) 2 f fd ["many", "size", "marks", "setting", "lot"] (spP K (R__law_unnoticed)) :=
  okD D0 sc__law_unnoticed (w__law_unnoticed) 7 rfl fun cdv A outer s H E hr => by
    have hp := passes_of (X := cxOf (L2.CX P w) P w K mg base ["many", "size", "marks", "setting", "lot", "rows", "part", "grown", "row", "content", "some", "mark"] "_law_unnoticed" (defScope s__law_unnoticed) f cdv A outer s H E) rfl
    have tk : Takes (cxOf (L2.CX P w) P w K mg base ["many", "size", "marks", "setting", "lot", "rows", "part", "grown", "row", "content", "some", "mark"] "_law_unnoticed" (defScope s__law_unnoticed) f cdv A outer s H E) (WE' E) := takes_of rfl rfl rfl rfl
    exact (pssd_cons (psd_set (pd_of (pf_lst (pas_cons (pd_of (pf_lst pas_nil)) pas_nil))) sc__law_unnoticed.nd) (pssd_cons (psd_for hp rfl (pid_range1 bf.range (pas_cons (pd_var 1) pas_nil)) (pgd_name sc__law_unnoticed.nd) (pssd_cons (psd_setF (pf_lst pas_nil) sc__law_unnoticed.nd) (pssd_cons (psd_for hp rfl (pid_seq (pd_var 5)) (pgd_name sc__law_unnoticed.nd) (pssd_cons (psd_set (pd_if (pb_in (pd_var 6) (pd_var 4)) (pd_of (pf_lc (own := [("content", 9)]) rfl sc__law_unnoticed.nd (pid_range1 bf.range (pas_cons (pd_var 0) pas_nil)) (blkOk_by (by kernel_rfl)) (fun _ _ _ _ _ => (pgd_name sc__law_unnoticed.nd)) (fun _ _ _ _ _ => (ptsd_one (pb_ne hr.units (pd_var 9) (pd_ix (pd_var 3) (pd_var 6))))) (fun _ _ _ _ _ => (pd_var 9)))) (pd_of (pf_lst (pas_cons (pd_ix (pd_var 3) (pd_var 6)) pas_nil)))) sc__law_unnoticed.nd) (pssd_one (psd_ext 7 (pf_lc (own := [("content", 9)]) rfl sc__law_unnoticed.nd (pid_seq (pd_var 10)) (blkOk_by (by kernel_rfl)) (fun _ _ _ _ _ => (pgd_name sc__law_unnoticed.nd)) (fun _ _ _ _ _ => ptsd_nil) (fun _ _ _ _ _ => (pd_add (pd_var 8) (pd_of (pf_lst (pas_cons (pd_var 9) pas_nil)))))))))) (pssd_fz 7 (pssd_one (psd_set (pd_var 7) sc__law_unnoticed.nd)))))) (pssd_cons (psd_set (pd_ix (pd_var 2) (pd_call h__law_number (hr.mono (by decide)) tk (pas_cons (pd_var 0) (pas_cons (pd_var 3) pas_nil)))) sc__law_unnoticed.nd) (pssd_one (psd_ret (pd_of (pf_lc (own := [("row", 8)]) rfl sc__law_unnoticed.nd (pid_seq (pd_var 5)) (blkOk_by (by kernel_rfl)) (fun _ _ _ _ _ => (pgd_name sc__law_unnoticed.nd)) (fun _ _ _ _ _ => (ptsd_one (pb_eq hr.units (pd_ix (pd_var 2) (pd_call h__law_number (hr.mono (by decide)) L2.takes0 (pas_cons (pd_var 0) (pas_cons (pd_var 8) pas_nil)))) (pd_var 11)))) (fun _ _ _ _ _ => (pd_tupc bf (pas_cons (pd_var 8) pas_nil))))))))))

abbrev s__law_spoilt : Stmt := top 57
theorem sc__law_spoilt : FnScope ["deal", "many", "size", "marks", "at", "k", "mark", "spoilt"] ["deal", "many", "size", "marks"] (defScope s__law_spoilt) := ⟨rfl, rfl, rfl, by decide +kernel, rfl, by decide +kernel, by decide +kernel⟩
def w__law_spoilt (C_Board : Addr) : DW DlS := (wSeq (wAsg (.nm 4) (eCallG 0 (R__law_draw) (aCons (eCa dLen (aCons (eVar 3) aNil)) aNil))) (wSeq (wAsg (.nm 7) (eOf (fLc (iOf (aCons (eVar 3) aNil) itEnum) (cStep (.tp [(.nm 5), (.nm 6)]) bYes (eIf (tB1 (eBin dEq (eVar 5) (eVar 4))) (eBin dMod (eCa dInt1 (aCons (eBin dAdd (eVar 6) (eC (.int 1))) aNil)) (eVar 1)) (eVar 6))) [5, 6]))) (wRet (eOf (fMake C_Board (R_Board___init__ C_Board) (aCons (eVar 1) (aCons (eOf (fRep (fLst (aCons (eVar 1) aNil)) (eVar 2))) (aCons (eVar 7) aNil))))))))
def R__law_spoilt (C_Board : Addr) := dRG (w__law_spoilt C_Board) 3 4
theorem ok__law_spoilt {P : Program} {w : World} {K : Frg} {mg : Str → Option Value} {base : Heap} {f : Addr} {fd : FuncData} {C_Board : Addr} (bf : Bf mg) (h__law_draw : FnD P w K mg base 1 "_law_draw" ["deal", "bound"] (spG dl K (R__law_draw))) (h_Board : MkD P w K mg base 4 "Board" C_Board ["self", "many", "sizes", "marks"] (spG (slf K C_Board) K (R_Board___init__ C_Board))) (D0 : FunD K "_law_spoilt" "_law_spoilt" (defArgs s__law_spoilt) (defBody s__law_spoilt) (defScope s__law_spoilt) [] [] f fd) : FnOk P w K mg base (L2.CX P w) 6 f fd ["deal", "many", "size", "marks"] (spG dl K (R__law_spoilt C_Board)) :=
  okG D0 sc__law_spoilt (w__law_spoilt C_Board) 4 rfl fun i cdv A outer s H E hr => by
    have tk : Takes (cxOf (L2.CX P w) P w K mg base ["deal", "many", "size", "marks", "at", "k", "mark", "spoilt"] "_law_spoilt" (defScope s__law_spoilt) f cdv A outer s H E) (WE' E) := takes_of rfl rfl rfl rfl
    exact (pssd_cons (psd_set (pd_callG 0 h__law_draw (hr.mono (by decide)) tk (pas_cons (pd_len bf (pas_cons (pd_var 3) pas_nil)) pas_nil)) sc__law_spoilt.nd) (pssd_cons (psd_slc [("k", 5), ("mark", 6)] rfl sc__law_spoilt.nd (pid_enum bf.enumerate (pas_cons (pd_var 3) pas_nil)) (blkOk_by (by kernel_rfl)) (fun _ _ _ _ _ => (pgd_tup rfl (pgsd_cons (pgd_name sc__law_spoilt.nd) (pgsd_cons (pgd_name sc__law_spoilt.nd) pgsd_nil)))) (fun _ _ _ _ _ => ptsd_nil) (fun _ _ _ _ _ => (pd_if (pb_eq hr.units (pd_var 5) (pd_var 4)) (pd_mod (pd_intc bf (pas_cons (pd_add (pd_var 6) pd_int) pas_nil)) (pd_var 1)) (pd_var 6)))) (pssd_one (psd_ret (pd_of (pf_make h_Board (hr.mono (by decide)) tk (pas_cons (pd_var 1) (pas_cons (pd_of (pf_rep (pf_lst (pas_cons (pd_var 1) pas_nil)) (pd_var 2))) (pas_cons (pd_var 7) pas_nil)))))))))

abbrev s_lot_places : Stmt := top 31
theorem sc_lot_places : FnScope ["board", "lot", "places", "part", "step", "place", "content"] ["board", "lot"] (defScope s_lot_places) := ⟨rfl, rfl, rfl, by decide +kernel, rfl, by decide +kernel, by decide +kernel⟩
def w_lot_places (C_Board : Addr) : DW Unit := (wSeq (wAsg (.nm 2) (eOf (fLst (aCons (eC (.int 0)) aNil)))) (wSeq (wFor (.nm 3) (iOf (eVar 1) itemsD) (wSeq (wAsg (.nm 4) (eBin dIx (eFld C_Board "steps" (eVar 0)) (eVar 3))) (wAsg (.nm 2) (eOf (fLc (iOf (eVar 2) itemsD) (cStep2 (.nm 5) bYes (iOf (aCons (eBin dIx (eFld C_Board "sizes" (eVar 0)) (eVar 3)) aNil) itR1) (.nm 6) [6] bYes (eBin dAdd (eVar 5) (eBin dMulI (eVar 4) (eVar 6)))) [5, 6]))))) (wRet (eCa dTuple (aCons (eVar 2) aNil)))))
def R_lot_places (C_Board : Addr) := dR (w_lot_places C_Board) 2 5
theorem ok_lot_places {P : Program} {w : World} {K : Frg} {mg : Str → Option Value} {base : Heap} {f : Addr} {fd : FuncData} {C_Board : Addr} (bf : Bf mg) (c_Board : Cls K C_Board) (n_Board_steps : NoAttr K C_Board "steps") (n_Board_sizes : NoAttr K C_Board "sizes") (D0 : FunD K "lot_places" "lot_places" (defArgs s_lot_places) (defBody s_lot_places) (defScope s_lot_places) [] [] f fd) : FnOk P w K mg base (L2.CX P w) 1 f fd ["board", "lot"] (spP K (R_lot_places C_Board)) :=
  okD D0 sc_lot_places (w_lot_places C_Board) 5 rfl fun cdv A outer s H E hr => by
    have hp := passes_of (X := cxOf (L2.CX P w) P w K mg base ["board", "lot", "places", "part", "step", "place", "content"] "lot_places" (defScope s_lot_places) f cdv A outer s H E) rfl
    exact (pssd_cons (psd_set (pd_of (pf_lst (pas_cons pd_int pas_nil))) sc_lot_places.nd) (pssd_cons (psd_for hp rfl (pid_seq (pd_var 1)) (pgd_name sc_lot_places.nd) (pssd_cons (psd_set (pd_ix (pd_fld c_Board n_Board_steps (pd_var 0)) (pd_var 3)) sc_lot_places.nd) (pssd_one (psd_slc2 [("place", 5), ("content", 6)] [6] rfl sc_lot_places.nd (pid_seq (pd_var 2)) (blkOk_by (by kernel_rfl)) (fun _ _ _ _ _ => (pgd_name sc_lot_places.nd)) (fun _ _ _ _ _ => ptsd_nil) (fun _ _ _ _ _ => (pid_range1 bf.range (pas_cons (pd_ix (pd_fld c_Board n_Board_sizes (pd_var 0)) (pd_var 3)) pas_nil))) (fun _ _ _ _ _ => (pgd_name sc_lot_places.nd)) (fun _ _ _ _ _ => ptsd_nil) (fun _ _ _ _ _ => (pd_add (pd_var 5) (pd_mul (pd_var 4) (pd_var 6)))))))) (pssd_one (psd_ret (pd_tupc bf (pas_cons (pd_var 2) pas_nil))))))

abbrev s_rest_of : Stmt := top 30
theorem sc_rest_of : FnScope ["board", "lot", "part"] ["board", "lot"] (defScope s_rest_of) := ⟨rfl, rfl, rfl, by decide +kernel, rfl, by decide +kernel, by decide +kernel⟩
def w_rest_of (C_Board : Addr) : DW Unit := (wRet (eCa dTuple (aCons (eOf (fLc (iOf (aCons (eLenO C_Board (R_Board___len__ C_Board) (eVar 0)) aNil) itR1) (cStep (.nm 2) (tB1 (eBin (dIn true) (eVar 2) (eVar 1))) (eVar 2)) [2])) aNil)))
def R_rest_of (C_Board : Addr) := dR (w_rest_of C_Board) 2 1
theorem ok_rest_of {P : Program} {w : World} {K : Frg} {mg : Str → Option Value} {base : Heap} {f : Addr} {fd : FuncData} {C_Board : Addr} (bf : Bf mg) (h_Board___len__ : SpD P w K mg base 1 C_Board "__len__" (spP K (R_Board___len__ C_Board))) (D0 : FunD K "rest_of" "rest_of" (defArgs s_rest_of) (defBody s_rest_of) (defScope s_rest_of) [] [] f fd) : FnOk P w K mg base (L2.CX P w) 3 f fd ["board", "lot"] (spP K (R_rest_of C_Board)) :=
  okD D0 sc_rest_of (w_rest_of C_Board) 1 rfl fun cdv A outer s H E hr => by
    exact (pssd_one (psd_ret (pd_tupc bf (pas_cons (pd_of (pf_lc (own := [("part", 2)]) rfl sc_rest_of.nd (pid_range1 bf.range (pas_cons (pd_lenO h_Board___len__ (hr.mono (by decide)) bf.len (pd_var 0)) pas_nil)) (blkOk_by (by kernel_rfl)) (fun _ _ _ _ _ => (pgd_name sc_rest_of.nd)) (fun _ _ _ _ _ => (ptsd_one (pb_notIn (pd_var 2) (pd_var 1)))) (fun _ _ _ _ _ => (pd_var 2)))) pas_nil))))

abbrev s_lot_marks : Stmt := top 32
theorem sc_lot_marks : FnScope ["board", "lot", "others", "place", "other"] ["board", "lot"] (defScope s_lot_marks) := ⟨rfl, rfl, rfl, by decide +kernel, rfl, by decide +kernel, by decide +kernel⟩
def w_lot_marks (C_Board : Addr) : DW Unit := (wSeq (wAsg (.nm 2) (eCall (R_lot_places C_Board) (aCons (eVar 0) (aCons (eCall (R_rest_of C_Board) (aCons (eVar 0) (aCons (eVar 1) aNil))) aNil)))) (wRet (eCa dTuple (aCons (eOf (fLc (iOf (eCall (R_lot_places C_Board) (aCons (eVar 0) (aCons (eVar 1) aNil))) itemsD) (cStep (.nm 3) bYes (eCa dTuple (aCons (eOf (fLc (iOf (eVar 2) itemsD) (cStep (.nm 4) bYes (eBin dIx (eFld C_Board "marks" (eVar 0)) (eBin dAdd (eVar 3) (eVar 4)))) [4])) aNil))) [3])) aNil))))
def R_lot_marks (C_Board : Addr) := dR (w_lot_marks C_Board) 2 3
theorem ok_lot_marks {P : Program} {w : World} {K : Frg} {mg : Str → Option Value} {base : Heap} {f : Addr} {fd : FuncData} {C_Board : Addr} (bf : Bf mg) (h_lot_places : FnD P w K mg base 1 "lot_places" ["board", "lot"] (spP K (R_lot_places C_Board))) (h_rest_of : FnD P w K mg base 3 "rest_of" ["board", "lot"] (spP K (R_rest_of C_Board))) (c_Board : Cls K C_Board) (n_Board_marks : NoAttr K C_Board "marks") (D0 : FunD K "lot_marks" "lot_marks" (defArgs s_lot_marks) (defBody s_lot_marks) (defScope s_lot_marks) [] [] f fd) : FnOk P w K mg base (L2.CX P w) 4 f fd ["board", "lot"] (spP K (R_lot_marks C_Board)) :=
  okD D0 sc_lot_marks (w_lot_marks C_Board) 3 rfl fun cdv A outer s H E hr => by
    have tk : Takes (cxOf (L2.CX P w) P w K mg base ["board", "lot", "others", "place", "other"] "lot_marks" (defScope s_lot_marks) f cdv A outer s H E) (WE' E) := takes_of rfl rfl rfl rfl
    exact (pssd_cons (psd_set (pd_call h_lot_places (hr.mono (by decide)) tk (pas_cons (pd_var 0) (pas_cons (pd_call h_rest_of (hr.mono (by decide)) tk (pas_cons (pd_var 0) (pas_cons (pd_var 1) pas_nil))) pas_nil))) sc_lot_marks.nd) (pssd_one (psd_ret (pd_tupc bf (pas_cons (pd_of (pf_lc (own := [("place", 3)]) rfl sc_lot_marks.nd (pid_seq (pd_call h_lot_places (hr.mono (by decide)) tk (pas_cons (pd_var 0) (pas_cons (pd_var 1) pas_nil)))) (blkOk_by (by kernel_rfl)) (fun _ _ _ _ _ => (pgd_name sc_lot_marks.nd)) (fun _ _ _ _ _ => ptsd_nil) (fun _ _ _ _ _ => (pd_tupc bf (pas_cons (pd_of (pf_lc (own := [("other", 4)]) rfl sc_lot_marks.nd (pid_seq (pd_var 2)) (blkOk_by (by kernel_rfl)) (fun _ _ _ _ _ => (pgd_name sc_lot_marks.nd)) (fun _ _ _ _ _ => ptsd_nil) (fun _ _ _ _ _ => (pd_ix (pd_fld c_Board n_Board_marks (pd_var 0)) (pd_add (pd_var 3) (pd_var 4)))))) pas_nil))))) pas_nil)))))

abbrev s_part_lines : Stmt := top 33
theorem sc_part_lines : FnScope ["board", "part"] ["board", "part"] (defScope s_part_lines) := ⟨rfl, rfl, rfl, by decide +kernel, rfl, by decide +kernel, by decide +kernel⟩
def w_part_lines (C_Board : Addr) : DW Unit := (wRet (eCall (R_lot_marks C_Board) (aCons (eVar 0) (aCons (eCall (R_rest_of C_Board) (aCons (eVar 0) (aCons (eTup (aCons (eVar 1) aNil)) aNil))) aNil))))
def R_part_lines (C_Board : Addr) := dR (w_part_lines C_Board) 2 0
theorem ok_part_lines {P : Program} {w : World} {K : Frg} {mg : Str → Option Value} {base : Heap} {f : Addr} {fd : FuncData} {C_Board : Addr} (bf : Bf mg) (h_lot_marks : FnD P w K mg base 4 "lot_marks" ["board", "lot"] (spP K (R_lot_marks C_Board))) (h_rest_of : FnD P w K mg base 3 "rest_of" ["board", "lot"] (spP K (R_rest_of C_Board))) (D0 : FunD K "part_lines" "part_lines" (defArgs s_part_lines) (defBody s_part_lines) (defScope s_part_lines) [] [] f fd) : FnOk P w K mg base (L2.CX P w) 5 f fd ["board", "part"] (spP K (R_part_lines C_Board)) :=
  okD D0 sc_part_lines (w_part_lines C_Board) 0 rfl fun cdv A outer s H E hr => by
    have tk : Takes (cxOf (L2.CX P w) P w K mg base ["board", "part"] "part_lines" (defScope s_part_lines) f cdv A outer s H E) (WE' E) := takes_of rfl rfl rfl rfl
    exact (pssd_one (psd_ret (pd_call h_lot_marks (hr.mono (by decide)) tk (pas_cons (pd_var 0) (pas_cons (pd_call h_rest_of (hr.mono (by decide)) tk (pas_cons (pd_var 0) (pas_cons (pd_tup (pas_cons (pd_var 1) pas_nil)) pas_nil))) pas_nil)))))

abbrev s_twice_fault : Stmt := top 35
theorem sc_twice_fault : FnScope ["board", "part", "found", "places", "place", "line", "met", "content", "mark", "fault"] ["board", "part"] (defScope s_twice_fault) := ⟨rfl, rfl, rfl, by decide +kernel, rfl, by decide +kernel, by decide +kernel⟩
def w_twice_fault (C_Board : Addr) : DW Unit := (wSeq (wAsg (.nm 2) (eC .non)) (wSeq (wAsg (.nm 3) (eCall (R_lot_places C_Board) (aCons (eVar 0) (aCons (eCall (R_rest_of C_Board) (aCons (eVar 0) (aCons (eTup (aCons (eVar 1) aNil)) aNil))) aNil)))) (wSeq (wFor (.tp [(.nm 4), (.nm 5)]) (iOf (aCons (eVar 3) (aCons (eCall (R_part_lines C_Board) (aCons (eVar 0) (aCons (eVar 1) aNil))) aNil)) itZip) (wSeq (wAsgF 6 fDicK) (wFor (.tp [(.nm 7), (.nm 8)]) (iOf (aCons (eVar 5) aNil) itEnum) (wIf (bDInO 6 (eVar 8)) (wSeq (wAsg (.nm 9) (eTup (aCons (eBin dAdd (eVar 4) (eBin dMulI (eBin dIx (eFld C_Board "steps" (eVar 0)) (eVar 1)) (eDGetO 6 (eVar 8)))) (aCons (eVar 7) aNil)))) (wAsg (.nm 2) (eIf (bOr (tB1 (eBin dIsN (eVar 2) (eC .non))) (tB1 (eBin dLtT (eVar 9) (eVar 2)))) (eVar 9) (eVar 2)))) (wDPut 6 (eVar 8) (eVar 7)))))) (wRet (eVar 2)))))
def R_twice_fault (C_Board : Addr) := dR (w_twice_fault C_Board) 2 8
theorem ok_twice_fault {P : Program} {w : World} {K : Frg} {mg : Str → Option Value} {base : Heap} {f : Addr} {fd : FuncData} {C_Board : Addr} (bf : Bf mg) (h_lot_places : FnD P w K mg base 1 "lot_places" ["board", "lot"] (spP K (R_lot_places C_Board))) (h_rest_of : FnD P w K mg base 3 "rest_of" ["board", "lot"] (spP K (R_rest_of C_Board))) (h_part_lines : FnD P w K mg base 5 "part_lines" ["board", "part"] (spP K (R_part_lines C_Board))) (c_Board : Cls K C_Board) (n_Board_steps : NoAttr K C_Board "steps") (D0 : FunD K "twice_fault" "twice_fault" (defArgs s_twice_fault) (defBody s_twice_fault) (defScope s_twice_fault) [] [] f fd) : FnOk P w K mg base (L2.CX P w) 6 f fd ["board", "part"] (spP K (R_twice_fault C_Board)) :=
  okD D0 sc_twice_fault (w_twice_fault C_Board) 8 rfl fun cdv A outer s H E hr => by
    have hp := passes_of (X := cxOf (L2.CX P w) P w K mg base ["board", "part", "found", "places", "place", "line", "met", "content", "mark", "fault"] "twice_fault" (defScope s_twice_fault) f cdv A outer s H E) rfl
    have tk : Takes (cxOf (L2.CX P w) P w K mg base ["board", "part", "found", "places", "place", "line", "met", "content", "mark", "fault"] "twice_fault" (defScope s_twice_fault) f cdv A outer s H E) (WE' E) := takes_of rfl rfl rfl rfl
    exact (pssd_cons (psd_set pd_non sc_twice_fault.nd) (pssd_cons (psd_set (pd_call h_lot_places (hr.mono (by decide)) tk (pas_cons (pd_var 0) (pas_cons (pd_call h_rest_of (hr.mono (by decide)) tk (pas_cons (pd_var 0) (pas_cons (pd_tup (pas_cons (pd_var 1) pas_nil)) pas_nil))) pas_nil))) sc_twice_fault.nd) (pssd_cons (psd_for hp rfl (pid_zip bf.zip (pas_cons (pd_var 3) (pas_cons (pd_call h_part_lines (hr.mono (by decide)) tk (pas_cons (pd_var 0) (pas_cons (pd_var 1) pas_nil))) pas_nil))) (pgd_tup rfl (pgsd_cons (pgd_name sc_twice_fault.nd) (pgsd_cons (pgd_name sc_twice_fault.nd) pgsd_nil))) (pssd_cons (psd_setF pf_dicK sc_twice_fault.nd) (pssd_one (psd_for hp rfl (pid_enum bf.enumerate (pas_cons (pd_var 5) pas_nil)) (pgd_tup rfl (pgsd_cons (pgd_name sc_twice_fault.nd) (pgsd_cons (pgd_name sc_twice_fault.nd) pgsd_nil))) (pssd_one (psd_if (pb_dinO 6 (units1 hr) (pd_var 8)) (pssd_cons (psd_set (pd_tup (pas_cons (pd_add (pd_var 4) (pd_mul (pd_ix (pd_fld c_Board n_Board_steps (pd_var 0)) (pd_var 1)) (pd_dgetO 6 (units1 hr) (pd_var 8)))) (pas_cons (pd_var 7) pas_nil))) sc_twice_fault.nd) (pssd_one (psd_set (pd_if (pb_of (pbw_or (pb_isN (pd_var 2) pd_non) (pbw_or1 (pb_ltT hr.units0 (pd_var 9) (pd_var 2))))) (pd_var 9) (pd_var 2)) sc_twice_fault.nd))) (pssd_one (psd_dput 6 (units1 hr) (pd_var 7) (pd_var 8))))))))) (pssd_one (psd_ret (pd_var 2))))))

abbrev s_nth_setting : Stmt := top 22
theorem sc_nth_setting : FnScope ["sizes", "number", "row", "size"] ["sizes", "number"] (defScope s_nth_setting) := ⟨rfl, rfl, rfl, by decide +kernel, rfl, by decide +kernel, by decide +kernel⟩
def w_nth_setting : DW Unit := (wSeq (wAsgF 2 (fLst aNil)) (wSeq (wFor (.nm 3) (iOf (eVar 0) fun d => (itemsD d).map List.reverse) (wSeq (wApp 2 (eBin dMod (eVar 1) (eVar 3))) (wAsg (.nm 1) (eBin dFdiv (eVar 1) (eVar 3))))) (wRet (eTupRev (lOwn 2)))))
def R_nth_setting := dR (w_nth_setting) 2 2
theorem ok_nth_setting {P : Program} {w : World} {K : Frg} {mg : Str → Option Value} {base : Heap} {f : Addr} {fd : FuncData} (bf : Bf mg)  (D0 : FunD K "nth_setting" "nth_setting" (defArgs s_nth_setting) (defBody s_nth_setting) (defScope s_nth_setting) [] [] f fd) : FnOk P w K mg base (L2.CX P w) 1 f fd ["sizes", "number"] (spP K (R_nth_setting)) :=
  okD D0 sc_nth_setting (w_nth_setting) 2 rfl fun cdv A outer s H E hr => by
    have hp := passes_of (X := cxOf (L2.CX P w) P w K mg base ["sizes", "number", "row", "size"] "nth_setting" (defScope s_nth_setting) f cdv A outer s H E) rfl
    exact (pssd_cons (psd_setF (pf_lst pas_nil) sc_nth_setting.nd) (pssd_cons (psd_for hp rfl (pid_rev bf.reversed (pd_var 0)) (pgd_name sc_nth_setting.nd) (pssd_cons (psd_app 2 (pd_mod (pd_var 1) (pd_var 3))) (pssd_one (psd_set (pd_fdiv (pd_var 1) (pd_var 3)) sc_nth_setting.nd)))) (pssd_one (psd_ret (pd_tupRev rfl bf.tuple bf.reversed (pl_own 2))))))

abbrev s_fair_fault : Stmt := top 36
theorem sc_fair_fault : FnScope ["board", "part", "size", "found"] ["board"] (defScope s_fair_fault) := ⟨rfl, rfl, rfl, by decide +kernel, rfl, by decide +kernel, by decide +kernel⟩
def w_fair_fault (C_Board : Addr) : DW Unit := (wSeq (wFor (.tp [(.nm 1), (.nm 2)]) (iOf (aCons (eFld C_Board "sizes" (eVar 0)) aNil) itEnum) (wIf (tB1 (eBin dNe (eVar 2) (eFld C_Board "many" (eVar 0)))) (wRet (eTup (aCons (eC (.str "size")) (aCons (eVar 1) aNil)))) wNext)) (wSeq (wFor (.nm 1) (iOf (aCons (eLenO C_Board (R_Board___len__ C_Board) (eVar 0)) aNil) itR1) (wSeq (wAsg (.nm 3) (eCall (R_twice_fault C_Board) (aCons (eVar 0) (aCons (eVar 1) aNil)))) (wIf (tB1 (eBin dNotN (eVar 3) (eC .non))) (wRet (eTup (aCons (eC (.str "twice")) (aCons (eVar 1) (aCons (eCall (R_nth_setting) (aCons (eFld C_Board "sizes" (eVar 0)) (aCons (eBin dIx (eVar 3) (eC (.int 0))) aNil))) (aCons (eBin dIx (eVar 3) (eC (.int 1))) aNil)))))) wNext))) (wRet (eC .non))))
def R_fair_fault (C_Board : Addr) := dR (w_fair_fault C_Board) 1 3
theorem ok_fair_fault {P : Program} {w : World} {K : Frg} {mg : Str → Option Value} {base : Heap} {f : Addr} {fd : FuncData} {C_Board : Addr} (bf : Bf mg) (c_Board : Cls K C_Board) (n_Board_sizes : NoAttr K C_Board "sizes") (n_Board_many : NoAttr K C_Board "many") (h_Board___len__ : SpD P w K mg base 1 C_Board "__len__" (spP K (R_Board___len__ C_Board))) (h_twice_fault : FnD P w K mg base 6 "twice_fault" ["board", "part"] (spP K (R_twice_fault C_Board))) (h_nth_setting : FnD P w K mg base 1 "nth_setting" ["sizes", "number"] (spP K (R_nth_setting))) (D0 : FunD K "fair_fault" "fair_fault" (defArgs s_fair_fault) (defBody s_fair_fault) (defScope s_fair_fault) [] [] f fd) : FnOk P w K mg base (L2.CX P w) 7 f fd ["board"] (spP K (R_fair_fault C_Board)) :=
  okD D0 sc_fair_fault (w_fair_fault C_Board) 3 rfl fun cdv A outer s H E hr => by
    have hp := passes_of (X := cxOf (L2.CX P w) P w K mg base ["board", "part", "size", "found"] "fair_fault" (defScope s_fair_fault) f cdv A outer s H E) rfl
    have tk : Takes (cxOf (L2.CX P w) P w K mg base ["board", "part", "size", "found"] "fair_fault" (defScope s_fair_fault) f cdv A outer s H E) (WE' E) := takes_of rfl rfl rfl rfl
    exact (pssd_cons (psd_for hp rfl (pid_enum bf.enumerate (pas_cons (pd_fld c_Board n_Board_sizes (pd_var 0)) pas_nil)) (pgd_tup rfl (pgsd_cons (pgd_name sc_fair_fault.nd) (pgsd_cons (pgd_name sc_fair_fault.nd) pgsd_nil))) (pssd_one (psd_if (pb_ne hr.units (pd_var 2) (pd_fld c_Board n_Board_many (pd_var 0))) (pssd_one (psd_ret (pd_tup (pas_cons pd_str (pas_cons (pd_var 1) pas_nil))))) pssd_nil))) (pssd_cons (psd_for hp rfl (pid_range1 bf.range (pas_cons (pd_lenO h_Board___len__ (hr.mono (by decide)) bf.len (pd_var 0)) pas_nil)) (pgd_name sc_fair_fault.nd) (pssd_cons (psd_set (pd_call h_twice_fault (hr.mono (by decide)) tk (pas_cons (pd_var 0) (pas_cons (pd_var 1) pas_nil))) sc_fair_fault.nd) (pssd_one (psd_if (pb_notN (pd_var 3) pd_non) (pssd_one (psd_ret (pd_tup (pas_cons pd_str (pas_cons (pd_var 1) (pas_cons (pd_call h_nth_setting (hr.mono (by decide)) tk (pas_cons (pd_fld c_Board n_Board_sizes (pd_var 0)) (pas_cons (pd_ix (pd_var 3) pd_int) pas_nil))) (pas_cons (pd_ix (pd_var 3) pd_int) pas_nil))))))) pssd_nil)))) (pssd_one (psd_ret pd_non))))

abbrev s_Refused___init__ : Stmt := sub 6 0
abbrev s_need_fair : Stmt := top 37
theorem sc_need_fair : FnScope ["board", "fault"] ["board"] (defScope s_need_fair) := ⟨rfl, rfl, rfl, by decide +kernel, rfl, by decide +kernel, by decide +kernel⟩
def w_need_fair (C_Board : Addr) (C_Refused : Addr) : DW Unit := (wSeq (wAsg (.nm 1) (eCall (R_fair_fault C_Board) (aCons (eVar 0) aNil))) (wSeq (wIf (tB1 (eBin dNotN (eVar 1) (eC .non))) (wRaise C_Refused "at" (eVar 1)) wNext) (wRet (eVar 0))))
def R_need_fair (C_Board : Addr) (C_Refused : Addr) := dR (w_need_fair C_Board C_Refused) 1 1
theorem ok_need_fair {P : Program} {w : World} {K : Frg} {mg : Str → Option Value} {base : Heap} {f : Addr} {fd : FuncData} {C_Board : Addr} {C_Refused : Addr} (bf : Bf mg) (h_fair_fault : FnD P w K mg base 7 "fair_fault" ["board"] (spP K (R_fair_fault C_Board))) {B_Refused I_Refused : Addr} (x_Refused : ExRK K P mg "Refused" C_Refused B_Refused I_Refused "Refused.__init__" "at" s_Refused___init__) (z_Refused : ExS P "self" "at" "at" s_Refused___init__) (D0 : FunD K "need_fair" "need_fair" (defArgs s_need_fair) (defBody s_need_fair) (defScope s_need_fair) [] [] f fd) : FnOk P w K mg base (L2.CX P w) 8 f fd ["board"] (spP K (R_need_fair C_Board C_Refused)) :=
  okD D0 sc_need_fair (w_need_fair C_Board C_Refused) 1 rfl fun cdv A outer s H E hr => by
    have tk : Takes (cxOf (L2.CX P w) P w K mg base ["board", "fault"] "need_fair" (defScope s_need_fair) f cdv A outer s H E) (WE' E) := takes_of rfl rfl rfl rfl
    exact (pssd_cons (psd_set (pd_call h_fair_fault (hr.mono (by decide)) tk (pas_cons (pd_var 0) pas_nil)) sc_need_fair.nd) (pssd_cons (psd_if (pb_notN (pd_var 1) pd_non) (pssd_one (psd_raise (k := 0) x_Refused z_Refused (hr.mono (by decide)) rfl tk (pd_var 1))) pssd_nil) (pssd_one (psd_ret (pd_var 0)))))

abbrev s_with_content : Stmt := top 39
theorem sc_with_content : FnScope ["setting", "part", "content"] ["setting", "part", "content"] (defScope s_with_content) := ⟨rfl, rfl, rfl, by decide +kernel, rfl, by decide +kernel, by decide +kernel⟩
def w_with_content : DW Unit := (wRet (eBin dAdd (eBin dAdd (eCa dTuple (aCons (eSl dSl (eVar 0) oNo (oSome (eVar 1))) aNil)) (eTup (aCons (eVar 2) aNil))) (eCa dTuple (aCons (eSl dSl (eVar 0) (oSome (eBin dAdd (eVar 1) (eC (.int 1)))) oNo) aNil))))
def R_with_content := dR (w_with_content) 3 0
theorem ok_with_content {P : Program} {w : World} {K : Frg} {mg : Str → Option Value} {base : Heap} {f : Addr} {fd : FuncData} (bf : Bf mg)  (D0 : FunD K "with_content" "with_content" (defArgs s_with_content) (defBody s_with_content) (defScope s_with_content) [] [] f fd) : FnOk P w K mg base (L2.CX P w) 1 f fd ["setting", "part", "content"] (spP K (R_with_content)) :=
  okD D0 sc_with_content (w_with_content) 0 rfl fun cdv A outer s H E hr => by
    exact (pssd_one (psd_ret (pd_add (pd_add (pd_tupc bf (pas_cons (pd_slice (pd_var 0) pdo_none (pdo_some (pd_var 1))) pas_nil)) (pd_tup (pas_cons (pd_var 2) pas_nil))) (pd_tupc bf (pas_cons (pd_slice (pd_var 0) (pdo_some (pd_add (pd_var 1) pd_int)) pdo_none) pas_nil)))))

abbrev s_changed_many : Stmt := top 40
theorem sc_changed_many : FnScope ["many", "parts", "same", "away", "turn"] ["many", "parts"] (defScope s_changed_many) := ⟨rfl, rfl, rfl, by decide +kernel, rfl, by decide +kernel, by decide +kernel⟩
def w_changed_many : DW Unit := (wSeq (wAsg (.tp [(.nm 2), (.nm 3)]) (eTup (aCons (eC (.int 1)) (aCons (eC (.int 0)) aNil)))) (wSeq (wFor (.nm 4) (iOf (aCons (eVar 1) aNil) itR1) (wPar [2, 3] (mFz (eBin dMulI (eVar 3) (eBin dSub (eVar 0) (eC (.int 1)))) (mFz (eBin dAdd (eVar 2) (eBin dMulI (eVar 3) (eBin dSub (eVar 0) (eC (.int 2))))) mNil)))) (wRet (eTup (aCons (eVar 2) (aCons (eVar 3) aNil))))))
def R_changed_many := dR (w_changed_many) 2 3
theorem ok_changed_many {P : Program} {w : World} {K : Frg} {mg : Str → Option Value} {base : Heap} {f : Addr} {fd : FuncData} (bf : Bf mg)  (D0 : FunD K "changed_many" "changed_many" (defArgs s_changed_many) (defBody s_changed_many) (defScope s_changed_many) [] [] f fd) : FnOk P w K mg base (L2.CX P w) 1 f fd ["many", "parts"] (spP K (R_changed_many)) :=
  okD D0 sc_changed_many (w_changed_many) 3 rfl fun cdv A outer s H E hr => by
    have hp := passes_of (X := cxOf (L2.CX P w) P w K mg base ["many", "parts", "same", "away", "turn"] "changed_many" (defScope s_changed_many) f cdv A outer s H E) rfl
    exact (pssd_cons (psd_asg (pd_tup (pas_cons pd_int (pas_cons pd_int pas_nil))) (pgd_tup rfl (pgsd_cons (pgd_name sc_changed_many.nd) (pgsd_cons (pgd_name sc_changed_many.nd) pgsd_nil)))) (pssd_cons (psd_for hp rfl (pid_range1 bf.range (pas_cons (pd_var 1) pas_nil)) (pgd_name sc_changed_many.nd) (pssd_one (psd_par 2 3 (pms_fz (pd_mul (pd_var 3) (pd_sub (pd_var 0) pd_int)) (pms_fz (pd_add (pd_var 2) (pd_mul (pd_var 3) (pd_sub (pd_var 0) pd_int))) pms_nil)) rfl sc_changed_many.nd))) (pssd_one (psd_ret (pd_tup (pas_cons (pd_var 2) (pas_cons (pd_var 3) pas_nil)))))))

abbrev s_changed_left : Stmt := top 42
theorem sc_changed_left : FnScope ["board", "start", "setting", "left", "same", "away"] ["board", "start", "setting", "left"] (defScope s_changed_left) := ⟨rfl, rfl, rfl, by decide +kernel, rfl, by decide +kernel, by decide +kernel⟩
def w_changed_left (C_Board : Addr) : DW Unit := (wSeq (wAsg (.tp [(.nm 4), (.nm 5)]) (eCall (R_changed_many) (aCons (eFld C_Board "many" (eVar 0)) (aCons (eVar 3) aNil)))) (wRet (eIf (tB1 (eBin dEq (eCallO C_Board (R_Board___call__ C_Board) (eVar 0) (aCons (eVar 2) aNil)) (eCallO C_Board (R_Board___call__ C_Board) (eVar 0) (aCons (eVar 1) aNil)))) (eVar 4) (eVar 5))))
def R_changed_left (C_Board : Addr) := dR (w_changed_left C_Board) 4 2
theorem ok_changed_left {P : Program} {w : World} {K : Frg} {mg : Str → Option Value} {base : Heap} {f : Addr} {fd : FuncData} {C_Board : Addr} (bf : Bf mg) (h_changed_many : FnD P w K mg base 1 "changed_many" ["many", "parts"] (spP K (R_changed_many))) (c_Board : Cls K C_Board) (n_Board_many : NoAttr K C_Board "many") (h_Board___call__ : SpD P w K mg base 4 C_Board "__call__" (spP K (R_Board___call__ C_Board))) (D0 : FunD K "changed_left" "changed_left" (defArgs s_changed_left) (defBody s_changed_left) (defScope s_changed_left) [] [] f fd) : FnOk P w K mg base (L2.CX P w) 5 f fd ["board", "start", "setting", "left"] (spP K (R_changed_left C_Board)) :=
  okD D0 sc_changed_left (w_changed_left C_Board) 2 rfl fun cdv A outer s H E hr => by
    have tk : Takes (cxOf (L2.CX P w) P w K mg base ["board", "start", "setting", "left", "same", "away"] "changed_left" (defScope s_changed_left) f cdv A outer s H E) (WE' E) := takes_of rfl rfl rfl rfl
    exact (pssd_cons (psd_asg (pd_call h_changed_many (hr.mono (by decide)) tk (pas_cons (pd_fld c_Board n_Board_many (pd_var 0)) (pas_cons (pd_var 3) pas_nil))) (pgd_tup rfl (pgsd_cons (pgd_name sc_changed_left.nd) (pgsd_cons (pgd_name sc_changed_left.nd) pgsd_nil)))) (pssd_one (psd_ret (pd_if (pb_eq hr.units (pd_callO h_Board___call__ (hr.mono (by decide)) tk (pd_var 0) (pas_cons (pd_var 2) pas_nil)) (pd_callO h_Board___call__ (hr.mono (by decide)) tk (pd_var 0) (pas_cons (pd_var 1) pas_nil))) (pd_var 4) (pd_var 5)))))

abbrev s_unnoticed_number : Stmt := top 44
theorem sc_unnoticed_number : FnScope ["board", "setting", "wrong", "part", "lot", "number", "found", "at", "content"] ["board", "setting", "wrong"] (defScope s_unnoticed_number) := ⟨rfl, rfl, rfl, by decide +kernel, rfl, by decide +kernel, by decide +kernel⟩
def w_unnoticed_number (C_Board : Addr) (C_Refused : Addr) : DW Unit := (wSeq (wExpr (eCall (R_need_fair C_Board C_Refused) (aCons (eVar 0) aNil))) (wSeq (wAsg (.nm 4) (eCa dTuple (aCons (eOf (fLc (iOf (aCons (eLenO C_Board (R_Board___len__ C_Board) (eVar 0)) aNil) itR1) (cStep (.nm 3) (tB1 (eBin dNe (eBin dIx (eVar 1) (eVar 3)) (eBin dIx (eVar 2) (eVar 3)))) (eVar 3)) [3])) aNil))) (wSeq (wIf (bOr (tB1 (eBin dEq (eVar 4) (eTup aNil))) (tB1 (eBin dNe (eCallO C_Board (R_Board___call__ C_Board) (eVar 0) (aCons (eVar 1) aNil)) (eCallO C_Board (R_Board___call__ C_Board) (eVar 0) (aCons (eVar 2) aNil))))) (wRet (eC .non)) wNext) (wSeq (wPar [5, 6] (mFz (eC (.int 0)) (mFz (eCa dTuple (aCons (eVar 1) aNil)) mNil))) (wSeq (wFor (.tp [(.nm 7), (.nm 3)]) (iOf (aCons (eVar 4) aNil) itEnum) (wSeq (wFor (.nm 8) (iOf (aCons (eBin dIx (eVar 2) (eVar 3)) aNil) itR1) (wIf (tB1 (eBin dNe (eVar 8) (eBin dIx (eVar 1) (eVar 3)))) (wAug 5 (fun a b => a + b) (eCall (R_changed_left C_Board) (aCons (eVar 0) (aCons (eVar 1) (aCons (eCall (R_with_content) (aCons (eVar 6) (aCons (eVar 3) (aCons (eVar 8) aNil)))) (aCons (eBin dSub (eBin dSub (eCa dLen (aCons (eVar 4) aNil)) (eVar 7)) (eC (.int 1))) aNil)))))) wNext)) (wAsg (.nm 6) (eCall (R_with_content) (aCons (eVar 6) (aCons (eVar 3) (aCons (eBin dIx (eVar 2) (eVar 3)) aNil))))))) (wRet (eVar 5)))))))
def R_unnoticed_number (C_Board : Addr) (C_Refused : Addr) := dR (w_unnoticed_number C_Board C_Refused) 3 6
theorem ok_unnoticed_number {P : Program} {w : World} {K : Frg} {mg : Str → Option Value} {base : Heap} {f : Addr} {fd : FuncData} {C_Board : Addr} {C_Refused : Addr} (bf : Bf mg) (h_need_fair : FnD P w K mg base 8 "need_fair" ["board"] (spP K (R_need_fair C_Board C_Refused))) (h_Board___len__ : SpD P w K mg base 1 C_Board "__len__" (spP K (R_Board___len__ C_Board))) (c_Board : Cls K C_Board) (h_Board___call__ : SpD P w K mg base 4 C_Board "__call__" (spP K (R_Board___call__ C_Board))) (h_changed_left : FnD P w K mg base 5 "changed_left" ["board", "start", "setting", "left"] (spP K (R_changed_left C_Board))) (h_with_content : FnD P w K mg base 1 "with_content" ["setting", "part", "content"] (spP K (R_with_content))) (D0 : FunD K "unnoticed_number" "unnoticed_number" (defArgs s_unnoticed_number) (defBody s_unnoticed_number) (defScope s_unnoticed_number) [] [] f fd) : FnOk P w K mg base (L2.CX P w) 9 f fd ["board", "setting", "wrong"] (spP K (R_unnoticed_number C_Board C_Refused)) :=
  okD D0 sc_unnoticed_number (w_unnoticed_number C_Board C_Refused) 6 rfl fun cdv A outer s H E hr => by
    have hp := passes_of (X := cxOf (L2.CX P w) P w K mg base ["board", "setting", "wrong", "part", "lot", "number", "found", "at", "content"] "unnoticed_number" (defScope s_unnoticed_number) f cdv A outer s H E) rfl
    have tk : Takes (cxOf (L2.CX P w) P w K mg base ["board", "setting", "wrong", "part", "lot", "number", "found", "at", "content"] "unnoticed_number" (defScope s_unnoticed_number) f cdv A outer s H E) (WE' E) := takes_of rfl rfl rfl rfl
    exact (pssd_cons (psd_expr (pd_call h_need_fair (hr.mono (by decide)) tk (pas_cons (pd_var 0) pas_nil))) (pssd_cons (psd_set (pd_tupc bf (pas_cons (pd_of (pf_lc (own := [("part", 3)]) rfl sc_unnoticed_number.nd (pid_range1 bf.range (pas_cons (pd_lenO h_Board___len__ (hr.mono (by decide)) bf.len (pd_var 0)) pas_nil)) (blkOk_by (by kernel_rfl)) (fun _ _ _ _ _ => (pgd_name sc_unnoticed_number.nd)) (fun _ _ _ _ _ => (ptsd_one (pb_ne hr.units (pd_ix (pd_var 1) (pd_var 3)) (pd_ix (pd_var 2) (pd_var 3))))) (fun _ _ _ _ _ => (pd_var 3)))) pas_nil)) sc_unnoticed_number.nd) (pssd_cons (psd_if (pb_of (pbw_or (pb_eq hr.units (pd_var 4) (pd_tup pas_nil)) (pbw_or1 (pb_ne hr.units (pd_callO h_Board___call__ (hr.mono (by decide)) tk (pd_var 0) (pas_cons (pd_var 1) pas_nil)) (pd_callO h_Board___call__ (hr.mono (by decide)) tk (pd_var 0) (pas_cons (pd_var 2) pas_nil)))))) (pssd_one (psd_ret pd_non)) pssd_nil) (pssd_cons (psd_par 5 6 (pms_fz pd_int (pms_fz (pd_tupc bf (pas_cons (pd_var 1) pas_nil)) pms_nil)) rfl sc_unnoticed_number.nd) (pssd_cons (psd_for hp rfl (pid_enum bf.enumerate (pas_cons (pd_var 4) pas_nil)) (pgd_tup rfl (pgsd_cons (pgd_name sc_unnoticed_number.nd) (pgsd_cons (pgd_name sc_unnoticed_number.nd) pgsd_nil))) (pssd_cons (psd_for hp rfl (pid_range1 bf.range (pas_cons (pd_ix (pd_var 2) (pd_var 3)) pas_nil)) (pgd_name sc_unnoticed_number.nd) (pssd_one (psd_if (pb_ne hr.units (pd_var 8) (pd_ix (pd_var 1) (pd_var 3))) (pssd_one (psd_aug ip_add (pd_call h_changed_left (hr.mono (by decide)) tk (pas_cons (pd_var 0) (pas_cons (pd_var 1) (pas_cons (pd_call h_with_content (hr.mono (by decide)) tk (pas_cons (pd_var 6) (pas_cons (pd_var 3) (pas_cons (pd_var 8) pas_nil)))) (pas_cons (pd_sub (pd_sub (pd_len bf (pas_cons (pd_var 4) pas_nil)) (pd_var 7)) pd_int) pas_nil))))) sc_unnoticed_number.nd)) pssd_nil))) (pssd_one (psd_set (pd_call h_with_content (hr.mono (by decide)) tk (pas_cons (pd_var 6) (pas_cons (pd_var 3) (pas_cons (pd_ix (pd_var 2) (pd_var 3)) pas_nil)))) sc_unnoticed_number.nd)))) (pssd_one (psd_ret (pd_var 5))))))))

abbrev s_InvalidLot___init__ : Stmt := sub 4 0
abbrev s_need_lot : Stmt := top 29
theorem sc_need_lot : FnScope ["board", "value", "at", "part"] ["board", "value"] (defScope s_need_lot) := ⟨rfl, rfl, rfl, by decide +kernel, rfl, by decide +kernel, by decide +kernel⟩
def w_need_lot (C_InvalidLot : Addr) (C_Board : Addr) : DW Unit := (wSeq (wIf (bOr (bNot (tB1 (eCall (R_is_sequence) (aCons (eVar 1) aNil)))) (tB1 (eBin dEq (eCa dLen (aCons (eVar 1) aNil)) (eC (.int 0))))) (wRaise C_InvalidLot "at" (eUn dNeg (eC (.int 1)))) wNext) (wSeq (wFor (.tp [(.nm 2), (.nm 3)]) (iOf (aCons (eVar 1) aNil) itEnum) (wIf (bOr (bNot (tB1 (eCall (R_is_number) (aCons (eVar 3) aNil)))) (bOr (tB1 (eBin dGe (eVar 3) (eLenO C_Board (R_Board___len__ C_Board) (eVar 0)))) (bAnd (tB1 (eBin dGt (eVar 2) (eC (.int 0)))) (tB1 (eBin dLe (eVar 3) (eBin dIx (eVar 1) (eBin dSub (eVar 2) (eC (.int 1))))))))) (wRaise C_InvalidLot "at" (eVar 2)) wNext)) (wRet (eCa dTuple (aCons (eVar 1) aNil)))))
def R_need_lot (C_InvalidLot : Addr) (C_Board : Addr) := dR (w_need_lot C_InvalidLot C_Board) 2 2
theorem ok_need_lot {P : Program} {w : World} {K : Frg} {mg : Str → Option Value} {base : Heap} {f : Addr} {fd : FuncData} {C_InvalidLot : Addr} {C_Board : Addr} (bf : Bf mg) (h_is_sequence : FnD P w K mg base 1 "is_sequence" ["value"] (spP K (R_is_sequence))) {B_InvalidLot I_InvalidLot : Addr} (x_InvalidLot : ExRK K P mg "InvalidLot" C_InvalidLot B_InvalidLot I_InvalidLot "InvalidLot.__init__" "at" s_InvalidLot___init__) (z_InvalidLot : ExS P "self" "at" "at" s_InvalidLot___init__) (h_is_number : FnD P w K mg base 2 "is_number" ["value"] (spP K (R_is_number))) (h_Board___len__ : SpD P w K mg base 1 C_Board "__len__" (spP K (R_Board___len__ C_Board))) (D0 : FunD K "need_lot" "need_lot" (defArgs s_need_lot) (defBody s_need_lot) (defScope s_need_lot) [] [] f fd) : FnOk P w K mg base (L2.CX P w) 3 f fd ["board", "value"] (spP K (R_need_lot C_InvalidLot C_Board)) :=
  okD D0 sc_need_lot (w_need_lot C_InvalidLot C_Board) 2 rfl fun cdv A outer s H E hr => by
    have hp := passes_of (X := cxOf (L2.CX P w) P w K mg base ["board", "value", "at", "part"] "need_lot" (defScope s_need_lot) f cdv A outer s H E) rfl
    have tk : Takes (cxOf (L2.CX P w) P w K mg base ["board", "value", "at", "part"] "need_lot" (defScope s_need_lot) f cdv A outer s H E) (WE' E) := takes_of rfl rfl rfl rfl
    exact (pssd_cons (psd_if (pb_of (pbw_or (pb_not (pb_val (pd_call h_is_sequence (hr.mono (by decide)) tk (pas_cons (pd_var 1) pas_nil)))) (pbw_or1 (pb_eq hr.units (pd_len bf (pas_cons (pd_var 1) pas_nil)) pd_int)))) (pssd_one (psd_raise (k := 0) x_InvalidLot z_InvalidLot (hr.mono (by decide)) rfl tk (pd_neg pd_int))) pssd_nil) (pssd_cons (psd_for hp rfl (pid_enum bf.enumerate (pas_cons (pd_var 1) pas_nil)) (pgd_tup rfl (pgsd_cons (pgd_name sc_need_lot.nd) (pgsd_cons (pgd_name sc_need_lot.nd) pgsd_nil))) (pssd_one (psd_if (pb_of (pbw_or (pb_not (pb_val (pd_call h_is_number (hr.mono (by decide)) tk (pas_cons (pd_var 3) pas_nil)))) (pbw_or (pb_ge (pd_var 3) (pd_lenO h_Board___len__ (hr.mono (by decide)) bf.len (pd_var 0))) (pbw_or1 (pb_of (pbw_and (pb_gt (pd_var 2) pd_int) (pbw_and1 (pb_le (pd_var 3) (pd_ix (pd_var 1) (pd_sub (pd_var 2) pd_int)))))))))) (pssd_one (psd_raise (k := 0) x_InvalidLot z_InvalidLot (hr.mono (by decide)) rfl tk (pd_var 2))) pssd_nil))) (pssd_one (psd_ret (pd_tupc bf (pas_cons (pd_var 1) pas_nil))))))

abbrev s_unnoticed_many : Stmt := top 41
theorem sc_unnoticed_many : FnScope ["many", "parts"] ["many", "parts"] (defScope s_unnoticed_many) := ⟨rfl, rfl, rfl, by decide +kernel, rfl, by decide +kernel, by decide +kernel⟩
def w_unnoticed_many : DW Unit := (wRet (eBin dIx (eCall (R_changed_many) (aCons (eVar 0) (aCons (eVar 1) aNil))) (eC (.int 0))))
def R_unnoticed_many := dR (w_unnoticed_many) 2 0
theorem ok_unnoticed_many {P : Program} {w : World} {K : Frg} {mg : Str → Option Value} {base : Heap} {f : Addr} {fd : FuncData} (bf : Bf mg) (h_changed_many : FnD P w K mg base 1 "changed_many" ["many", "parts"] (spP K (R_changed_many))) (D0 : FunD K "unnoticed_many" "unnoticed_many" (defArgs s_unnoticed_many) (defBody s_unnoticed_many) (defScope s_unnoticed_many) [] [] f fd) : FnOk P w K mg base (L2.CX P w) 2 f fd ["many", "parts"] (spP K (R_unnoticed_many)) :=
  okD D0 sc_unnoticed_many (w_unnoticed_many) 0 rfl fun cdv A outer s H E hr => by
    have tk : Takes (cxOf (L2.CX P w) P w K mg base ["many", "parts"] "unnoticed_many" (defScope s_unnoticed_many) f cdv A outer s H E) (WE' E) := takes_of rfl rfl rfl rfl
    exact (pssd_one (psd_ret (pd_ix (pd_call h_changed_many (hr.mono (by decide)) tk (pas_cons (pd_var 0) (pas_cons (pd_var 1) pas_nil))) pd_int)))

abbrev s_InvalidSize___init__ : Stmt := sub 7 0
abbrev s_nth_unnoticed : Stmt := top 43
theorem sc_nth_unnoticed : FnScope ["board", "setting", "lot", "number", "found", "at", "part", "content", "tried", "further"] ["board", "setting", "lot", "number"] (defScope s_nth_unnoticed) := ⟨rfl, rfl, rfl, by decide +kernel, rfl, by decide +kernel, by decide +kernel⟩
def w_nth_unnoticed (C_Board : Addr) (C_Refused : Addr) (C_InvalidLot : Addr) (C_InvalidSize : Addr) : DW Unit := (wSeq (wExpr (eCall (R_need_fair C_Board C_Refused) (aCons (eVar 0) aNil))) (wSeq (wAsg (.nm 2) (eCall (R_need_lot C_InvalidLot C_Board) (aCons (eVar 0) (aCons (eVar 2) aNil)))) (wSeq (wIf (bOr (bNot (tB1 (eCall (R_is_number) (aCons (eVar 3) aNil)))) (tB1 (eBin dGe (eVar 3) (eCall (R_unnoticed_many) (aCons (eFld C_Board "many" (eVar 0)) (aCons (eCa dLen (aCons (eVar 2) aNil)) aNil)))))) (wRaise C_InvalidSize "word" (eC (.str "number"))) wNext) (wSeq (wAsg (.nm 4) (eCa dTuple (aCons (eVar 1) aNil))) (wSeq (wFor (.tp [(.nm 5), (.nm 6)]) (iOf (aCons (eVar 2) aNil) itEnum) (wFor (.nm 7) (iOf (aCons (eFld C_Board "many" (eVar 0)) aNil) itR1) (wIf (tB1 (eBin dNe (eVar 7) (eBin dIx (eVar 1) (eVar 6)))) (wSeq (wAsg (.nm 8) (eCall (R_with_content) (aCons (eVar 4) (aCons (eVar 6) (aCons (eVar 7) aNil))))) (wSeq (wAsg (.nm 9) (eCall (R_changed_left C_Board) (aCons (eVar 0) (aCons (eVar 1) (aCons (eVar 8) (aCons (eBin dSub (eBin dSub (eCa dLen (aCons (eVar 2) aNil)) (eVar 5)) (eC (.int 1))) aNil)))))) (wSeq (wIf (tB1 (eBin dLt (eVar 3) (eVar 9))) (wSeq (wAsg (.nm 4) (eVar 8)) wBreak) wNext) (wAug 3 (fun a b => a - b) (eVar 9))))) wNext))) (wRet (eVar 4)))))))
def R_nth_unnoticed (C_Board : Addr) (C_Refused : Addr) (C_InvalidLot : Addr) (C_InvalidSize : Addr) := dR (w_nth_unnoticed C_Board C_Refused C_InvalidLot C_InvalidSize) 4 6
theorem ok_nth_unnoticed {P : Program} {w : World} {K : Frg} {mg : Str → Option Value} {base : Heap} {f : Addr} {fd : FuncData} {C_Board : Addr} {C_Refused : Addr} {C_InvalidLot : Addr} {C_InvalidSize : Addr} (bf : Bf mg) (h_need_fair : FnD P w K mg base 8 "need_fair" ["board"] (spP K (R_need_fair C_Board C_Refused))) (h_need_lot : FnD P w K mg base 3 "need_lot" ["board", "value"] (spP K (R_need_lot C_InvalidLot C_Board))) (h_is_number : FnD P w K mg base 2 "is_number" ["value"] (spP K (R_is_number))) (h_unnoticed_many : FnD P w K mg base 2 "unnoticed_many" ["many", "parts"] (spP K (R_unnoticed_many))) (c_Board : Cls K C_Board) (n_Board_many : NoAttr K C_Board "many") {B_InvalidSize I_InvalidSize : Addr} (x_InvalidSize : ExRK K P mg "InvalidSize" C_InvalidSize B_InvalidSize I_InvalidSize "InvalidSize.__init__" "word" s_InvalidSize___init__) (z_InvalidSize : ExS P "self" "word" "word" s_InvalidSize___init__) (h_with_content : FnD P w K mg base 1 "with_content" ["setting", "part", "content"] (spP K (R_with_content))) (h_changed_left : FnD P w K mg base 5 "changed_left" ["board", "start", "setting", "left"] (spP K (R_changed_left C_Board))) (D0 : FunD K "nth_unnoticed" "nth_unnoticed" (defArgs s_nth_unnoticed) (defBody s_nth_unnoticed) (defScope s_nth_unnoticed) [] [] f fd) : FnOk P w K mg base (L2.CX P w) 9 f fd ["board", "setting", "lot", "number"] (spP K (R_nth_unnoticed C_Board C_Refused C_InvalidLot C_InvalidSize)) :=
  okD D0 sc_nth_unnoticed (w_nth_unnoticed C_Board C_Refused C_InvalidLot C_InvalidSize) 6 rfl fun cdv A outer s H E hr => by
    have hp := passes_of (X := cxOf (L2.CX P w) P w K mg base ["board", "setting", "lot", "number", "found", "at", "part", "content", "tried", "further"] "nth_unnoticed" (defScope s_nth_unnoticed) f cdv A outer s H E) rfl
    have tk : Takes (cxOf (L2.CX P w) P w K mg base ["board", "setting", "lot", "number", "found", "at", "part", "content", "tried", "further"] "nth_unnoticed" (defScope s_nth_unnoticed) f cdv A outer s H E) (WE' E) := takes_of rfl rfl rfl rfl
    exact (pssd_cons (psd_expr (pd_call h_need_fair (hr.mono (by decide)) tk (pas_cons (pd_var 0) pas_nil))) (pssd_cons (psd_set (pd_call h_need_lot (hr.mono (by decide)) tk (pas_cons (pd_var 0) (pas_cons (pd_var 2) pas_nil))) sc_nth_unnoticed.nd) (pssd_cons (psd_if (pb_of (pbw_or (pb_not (pb_val (pd_call h_is_number (hr.mono (by decide)) tk (pas_cons (pd_var 3) pas_nil)))) (pbw_or1 (pb_ge (pd_var 3) (pd_call h_unnoticed_many (hr.mono (by decide)) tk (pas_cons (pd_fld c_Board n_Board_many (pd_var 0)) (pas_cons (pd_len bf (pas_cons (pd_var 2) pas_nil)) pas_nil))))))) (pssd_one (psd_raise (k := 0) x_InvalidSize z_InvalidSize (hr.mono (by decide)) rfl tk pd_str)) pssd_nil) (pssd_cons (psd_set (pd_tupc bf (pas_cons (pd_var 1) pas_nil)) sc_nth_unnoticed.nd) (pssd_cons (psd_for hp rfl (pid_enum bf.enumerate (pas_cons (pd_var 2) pas_nil)) (pgd_tup rfl (pgsd_cons (pgd_name sc_nth_unnoticed.nd) (pgsd_cons (pgd_name sc_nth_unnoticed.nd) pgsd_nil))) (pssd_one (psd_for hp rfl (pid_range1 bf.range (pas_cons (pd_fld c_Board n_Board_many (pd_var 0)) pas_nil)) (pgd_name sc_nth_unnoticed.nd) (pssd_one (psd_if (pb_ne hr.units (pd_var 7) (pd_ix (pd_var 1) (pd_var 6))) (pssd_cons (psd_set (pd_call h_with_content (hr.mono (by decide)) tk (pas_cons (pd_var 4) (pas_cons (pd_var 6) (pas_cons (pd_var 7) pas_nil)))) sc_nth_unnoticed.nd) (pssd_cons (psd_set (pd_call h_changed_left (hr.mono (by decide)) tk (pas_cons (pd_var 0) (pas_cons (pd_var 1) (pas_cons (pd_var 8) (pas_cons (pd_sub (pd_sub (pd_len bf (pas_cons (pd_var 2) pas_nil)) (pd_var 5)) pd_int) pas_nil))))) sc_nth_unnoticed.nd) (pssd_cons (psd_if (pb_lt (pd_var 3) (pd_var 9)) (pssd_cons (psd_set (pd_var 8) sc_nth_unnoticed.nd) (pssd_one psd_break)) pssd_nil) (pssd_one (psd_aug ip_sub (pd_var 9) sc_nth_unnoticed.nd))))) pssd_nil))))) (pssd_one (psd_ret (pd_var 4))))))))


end K82
namespace K82
open PySem PySem.Spec PyProof.Rows L2 Pl RT Mt
local macro_rules | `(tactic| walk_at "ev") => `(tactic| try simp only [go_C, go_var, go_bin, go_un, go_and, go_or, go_not, go_tB1, go_if, go_bAnd, go_bOr, go_bNot, go_yes, go_nil, go_cons, go_tup, go_lst, Pl.go_of, go_Ca, go_fCa, go_fld, go_call, go_callKw, go_callG, go_lOf, go_lOwn, go_ixL, go_bor, go_bBor, go_sl, go_oNo, go_oSome, go_tupRev, go_revL, go_it, go_lc, go_cStep, go_cStep2, go_chain, go_mNil, go_mFz, go_mOw, go_rep, go_rg1, go_make, go_lenO, go_callO, go_dgetO, go_dinO, go_dicK, go_dicT, go_idx, go_eLam, go_eLamM, go_callPk, ex_inTups, ex_repT, ex_eqNil, ex_eqT, ex_eqL, ex_eqNilTI, ex_neNilTI, ex_sorted, ex_neNilI, ex_neNilT, ex_any, cut_pop, cut_last, ex_ltT, Option.isSome_some, Option.isSome_none, go_d1, go_d0ix, go_d0ne,
  ex_onI, ex_add, ex_eqI, ex_neI, ex_neB, ex_neL, ex_neT, ex_neL1, ex_neL11, List.filterMap_cons, List.filterMap_nil, ex_int1, ex_bl, ex_int, ex_someI, ex_R1, ex_R2, ex_itL, ex_itT, ex_itF, ex_revL, ex_revT, ex_enL, ex_enT, ex_zTL, ex_zTT, ex_zLT, ex_zLL, ex_lenL, ex_lenT, ex_tupL, ex_tupT, ex_lisL, ex_lisT, ex_lstD, ex_lstF, ex_abs, ex_neg, ex_ixL, ex_ixT, ex_slL, ex_slT, ex_slF, ex_addL, ex_addT, ex_isN, ex_notN, ex_sum, ex_inI, ex_inIT, fld_many, fld_sizes, fld_marks, fld_steps, isNon_non, isNon_tup, isNon_lst, isNon_int, isNon_str, isNon_bl, mulC_iff, PySem.sizeLine_eq, decide_true, decide_false, Nat.zero_le, Bool.not_eq_true', decide_eq_false_iff_not, ite_not, dEnd_rt, rtE_rt, gEnd_rt, dEnd_nx, gEnd_nx, or_ite1, or_ite2, or_ite3, or_ite4, onI_bl, isi_ii, isi_ib, isi_tt, isi_Llt, isi_Tlt, Oc.ok.injEq,
  Int.toNat_natCast, Int.zero_add, put_nm, put_tpT, put_tpL, puts_nil, puts_cons, Option.bind_some, OD.d, wipeE, pick, Function.comp_apply,
  env0, List.map_cons, List.map_nil, List.replicate, List.cons_append, List.nil_append, List.set_cons_succ, List.set_cons_zero, List.getElem?_cons_zero, List.getElem?_cons_succ, Option.some.injEq, SV.fz.injEq, SV.ow.injEq, OD.lst.injEq, exists_eq_left', exists_eq_left, exists_and_left, exists_eq', true_and, and_true, D.bl.injEq, D.int.injEq, D.lst.injEq, D.tup.injEq, reduceCtorEq, false_and, and_false, or_false, false_or, if_true, if_false, Bool.false_eq_true, Bool.not_true, Bool.not_false, reduceIte, decide_eq_true_eq, List.length_cons, List.length_nil, List.length_map, List.length_range, setsE])
local macro_rules | `(tactic| walk_at "st") => `(tactic| (repeat (first | with_reducible refine gw_seq ?_ | with_reducible refine gw_next ?_ | ((first | with_reducible refine gw_set ?_ | with_reducible refine gw_asg ?_ | with_reducible refine gw_asgF ?_ | with_reducible refine gw_ret ?_ | with_reducible refine gw_retN ?_ | with_reducible refine gw_if ?_ | with_reducible refine gw_for ?_ | with_reducible refine gw_par ?_ | with_reducible refine gw_expr ?_ | rw [if_pos (by omega)] | rw [if_neg (by omega)] | with_reducible refine And.intro (by omega) ?_ | omega); try walk_at "ev"))))
local macro_rules | `(tactic| walk_at "ones") => `(tactic| repeat (first | with_reducible apply ones_seq | with_reducible apply ones_while | with_reducible apply ones_for | with_reducible apply ones_if | with_reducible apply ones_asg | with_reducible apply ones_asgF | with_reducible apply ones_fz | with_reducible apply ones_par | with_reducible apply ones_app | with_reducible apply ones_ext | with_reducible apply ones_appPop | with_reducible apply ones_put | with_reducible apply ones_dput | with_reducible apply ones_d0pop | with_reducible apply ones_d0popTo | with_reducible apply ones_d0app | with_reducible apply ones_d1set | with_reducible apply ones_ret | with_reducible apply ones_retN | with_reducible apply ones_next | with_reducible apply ones_break | with_reducible apply ones_cont | with_reducible apply ones_never | with_reducible apply ones_expr))
local macro_rules | `(tactic| walk_at "sz") => `(tactic| first | omega | (simp; done) | (simp; omega))
theorem ev_is_sequence_L (ds : List D) : R_is_sequence [.lst ds] (.ok (.bl true)) := by
  refine ⟨rfl, gw_ret ?_⟩
  walk_at "ev"
  decide
theorem ev_is_sequence_T (ds : List D) : R_is_sequence [.tup ds] (.ok (.bl true)) := by
  refine ⟨rfl, gw_ret ?_⟩
  walk_at "ev"
  decide
theorem ev_is_integer (i : Int) : R_is_integer [.int i] (.ok (.bl true)) := by
  refine ⟨rfl, gw_ret ?_⟩
  walk_at "ev"
theorem ev_is_number (i : Int) : R_is_number [.int i] (.ok (.bl (decide (0 ≤ i)))) := by
  refine ⟨rfl, gw_ret ?_⟩
  walk_at "ev"
  refine ⟨_, ev_is_integer i, ?_⟩
  walk_at "ev"
theorem ev_wrong_size (m n : Nat) (hm : 1 ≤ m) (hn : 1 ≤ n ∧ n ≤ 8) : R_wrong_size [.lst ((List.replicate n (m : Int)).map .int)] (.ok .non) := by
  refine ⟨rfl, ?_⟩
  unfold w_wrong_size
  walk_at "st"
  refine ⟨_, ev_is_sequence_L _, ?_⟩
  walk_at "ev"
  rw [List.length_replicate]
  walk_at "st"
  rw [enumD_map]
  refine gf_map (fun _ env _ => ∃ a b, env = [SV.fz (D.lst ((List.replicate n (m : Int)).map .int)), a, b]) ⟨_, _, rfl⟩ ?_ ?_
  · rintro pr ⟨x, k⟩ po env s e ⟨a, b, rfl⟩
    have hx : x = m := by
      have h1 : (x, k) ∈ (List.replicate n (m : Int)).zipIdx := by rw [e]; simp
      exact List.eq_of_mem_replicate (List.fst_mem_of_mem_zipIdx h1)
    subst hx
    refine ⟨_, rfl, fun De' hn _ _ _ _ => ?_⟩
    walk_at "st"
    refine ⟨_, ev_is_integer _, ?_⟩
    walk_at "ev"
    walk_at "st"
    exact hn _ _ ⟨_, _, rfl⟩
  · rintro env s ⟨a, b, rfl⟩
    walk_at "st"
theorem ev_settings_count (ns : List Int) (hb : ∀ n ∈ ns, 0 ≤ n ∧ n < 2 ^ 32) : R_settings_count [.lst (ns.map .int)] (.ok (.int (ns.foldl (· * ·) 1))) := by
  refine ⟨rfl, ?_⟩
  unfold w_settings_count
  walk_at "st"
  refine gf_map (fun pr env _ => ∃ y, env = [SV.fz (.lst (ns.map .int)), .fz (.int (pr.foldl (· * ·) 1)), y]) ⟨_, rfl⟩ ?_ ?_
  · rintro pr x po env s e ⟨y, rfl⟩
    have := hb x (by rw [e]; simp)
    refine ⟨_, rfl, fun De' hn _ _ _ _ => ?_⟩
    walk_at "st"
    refine hn _ _ ⟨.fz (.int x), ?_⟩
    simp
  · rintro env s ⟨y, rfl⟩
    walk_at "st"
theorem ev_wrong_mark (ms : List Int) (k m : Int) (hk : k = ms.length) (hb : ∀ n ∈ ms, 0 ≤ n ∧ n < m) : R_wrong_mark [.lst (ms.map .int), .int k, .int m] (.ok .non) := by
  subst hk
  refine ⟨rfl, ?_⟩
  unfold w_wrong_mark
  walk_at "st"
  refine ⟨_, ev_is_sequence_L _, ?_⟩
  walk_at "ev"
  walk_at "st"
  rw [enumD_map]
  refine gf_map (fun _ env _ => ∃ a b, env = [SV.fz (D.lst (ms.map .int)), .fz (.int ms.length), .fz (.int m), a, b]) ⟨_, _, rfl⟩ ?_ ?_
  · rintro pr ⟨x, k⟩ po env s e ⟨a, b, rfl⟩
    have hx := hb x (List.fst_mem_of_mem_zipIdx (x := (x, k)) (l := ms) (k := 0) (by rw [e]; simp))
    refine ⟨_, rfl, fun De' hn _ _ _ _ => ?_⟩
    walk_at "st"
    refine ⟨_, ev_is_number _, ?_⟩
    walk_at "ev"
    walk_at "st"
    exact hn _ _ ⟨_, _, rfl⟩
  · rintro env s ⟨a, b, rfl⟩
    walk_at "st"
theorem ev_steps_of (m n : Nat) (hm : m < 2 ^ 32) (hn : n ≤ 8) : R_steps_of [.tup ((List.replicate n (m : Int)).map .int)] (.ok (.tup (((List.range n).map fun i => ((m ^ (n - 1 - i) : Nat) : Int)).map .int))) := by
  refine ⟨rfl, ?_⟩
  unfold w_steps_of
  walk_at "st"
  rw [← List.map_reverse]
  refine gf_map (fun pr env _ => ∃ y, env = [SV.fz (.tup ((List.replicate n (m : Int)).map .int)), .ow (.lst (((List.range pr.length).map fun i => ((m ^ i : Nat) : Int)).map .int)), .fz (.int (m ^ pr.length : Nat)), y]) ⟨_, rfl⟩ ?_ ?_
  · rintro pr x po env s e ⟨y, rfl⟩
    have hx : x = m := by
      have h1 : x ∈ (List.replicate n (m : Int)).reverse := by rw [e]; simp
      exact List.eq_of_mem_replicate (List.mem_reverse.mp h1)
    have hl : pr.length < n := by
      have := congrArg List.length e
      simp at this
      omega
    subst hx
    refine ⟨_, rfl, fun De' hn _ _ _ _ => ?_⟩
    walk_at "st"
    refine gw_app rfl (by rw [PySem.sizeLine_eq]; simp; omega) ?_
    walk_at "ev"
    walk_at "st"
    refine hn _ _ ⟨.fz (.int m), ?_⟩
    simp [List.range_succ, Nat.pow_succ]
  · rintro env s ⟨y, rfl⟩
    walk_at "st"
    rw [← List.map_reverse, ← List.map_reverse]
    congr 1
    apply List.ext_getElem
    · simp
    · intro i h1 h2
      simp

theorem foldl_rep (m : Nat) : ∀ (n : Nat) (a : Int), (List.replicate n (m : Int)).foldl (· * ·) a = a * (m ^ n : Nat)
  | 0, a => by simp
  | n + 1, a => by
    rw [List.replicate_succ, List.foldl_cons, foldl_rep m n, Nat.pow_succ]
    simp only [Int.natCast_mul]
    grind
theorem ev_Board (C : Addr) (m n : Nat) (ms : List Int) (hm : 2 ≤ m ∧ m ≤ 8) (hn : 1 ≤ n ∧ n ≤ 8) (hc : m ^ n ≤ 20000) (hl : ms.length = m ^ n) (hb : ∀ x ∈ ms, 0 ≤ x ∧ x < m) :
    R_Board___init__ C [] [.int m, .lst ((List.replicate n (m : Int)).map .int), .lst (ms.map .int)] (.ok .non) (bdS m n ms) := by
  refine ⟨rfl, ?_⟩
  unfold w_Board___init__
  walk_at "st"
  refine ⟨_, ev_is_integer _, ?_⟩
  walk_at "ev"
  walk_at "st"
  refine ⟨_, ev_wrong_size m n (by omega) hn, ?_⟩
  walk_at "ev"
  walk_at "st"
  refine ⟨_, ev_settings_count _ (fun x hx => by rw [List.eq_of_mem_replicate hx]; omega), ?_⟩
  walk_at "ev"
  rw [foldl_rep]
  walk_at "st"
  refine ⟨_, ev_wrong_mark ms _ m (by rw [hl, Int.one_mul]) hb, ?_⟩
  walk_at "ev"
  walk_at "st"
  refine ⟨rfl, go_run ?_⟩
  walk_at "ev"
  refine ⟨by omega, by omega, rfl, go_run ?_⟩
  walk_at "ev"
  refine ⟨_, _, ⟨rfl, _, rfl, rfl⟩, _, ev_steps_of m n (by omega) (by omega), ?_, rfl⟩
  exact show 3 < 1000 by decide
theorem ev_len (C : Addr) (m n : Nat) (ms : List Int) : R_Board___len__ C [bdD C m n ms] (.ok (.int n)) := by
  refine ⟨rfl, ?_⟩
  unfold w_Board___len__
  walk_at "st"
  rw [List.length_replicate]
theorem ev_wrong_content (m n : Nat) (s : List Int) (v : Val m n s) : R_wrong_content [.tup ((List.replicate n (m : Int)).map .int), .tup (s.map .int)] (.ok .non) := by
  refine ⟨rfl, ?_⟩
  unfold w_wrong_content
  walk_at "st"
  refine ⟨_, ev_is_sequence_T _, ?_⟩
  walk_at "ev"
  rw [List.length_replicate, v.1]
  walk_at "ev"
  walk_at "st"
  rw [enumD_map]
  refine gf_map (fun _ env _ => ∃ a b, env = [.fz (.tup ((List.replicate n (m : Int)).map .int)), SV.fz (D.tup (s.map .int)), a, b]) ⟨_, _, rfl⟩ ?_ ?_
  · rintro pr ⟨x, k⟩ po env s' e ⟨a, b, rfl⟩
    have hm : (x, k) ∈ s.zipIdx := by rw [e]; simp
    have hx := v.2 x (List.fst_mem_of_mem_zipIdx hm)
    have hk : k < n := by
      have := List.snd_lt_of_mem_zipIdx hm
      rw [← v.1]; omega
    refine ⟨_, rfl, fun De' hn _ _ _ _ => ?_⟩
    walk_at "st"
    refine ⟨_, ev_is_number _, ?_⟩
    walk_at "ev"
    walk_at "st"
    refine ex_at (x := (m : Int)) (by omega) (by simp [hk]) ?_
    walk_at "ev"
    walk_at "st"
    exact hn _ _ ⟨_, _, rfl⟩
  · rintro env s ⟨a, b, rfl⟩
    walk_at "st"
theorem ev_setting_number (m n : Nat) (hm : m < 2 ^ 32) (s : List Int) (v : s.length = n) : R_setting_number [.tup ((List.replicate n (m : Int)).map .int), .tup (s.map .int)] (.ok (.int (num m s))) := by
  refine ⟨rfl, ?_⟩
  unfold w_setting_number
  walk_at "st"
  rw [zipD_map]
  refine gf_map (fun pr env _ => ∃ a b, env = [.fz (.tup ((List.replicate n (m : Int)).map .int)), SV.fz (D.tup (s.map .int)), .fz (.int (num m (pr.map (·.2)))), a, b]) ⟨_, _, rfl⟩ ?_ ?_
  · rintro pr ⟨x, k⟩ po env s' e ⟨a, b, rfl⟩
    have hx : x = m := by
      have h1 : (x, k) ∈ (List.replicate n (m : Int)).zip s := by rw [e]; simp
      exact List.eq_of_mem_replicate (List.of_mem_zip h1).1
    subst hx
    refine ⟨_, rfl, fun De' hn _ _ _ _ => ?_⟩
    walk_at "st"
    refine hn _ _ ⟨.fz (.int m), .fz (.int k), ?_⟩
    simp [num_snoc]
  · rintro env s' ⟨a, b, rfl⟩
    walk_at "st"
    rw [List.map_snd_zip (by simp [v])]
theorem ev_call (C : Addr) (m n : Nat) (hm : m < 2 ^ 32) (s : List Int) (v : Val m n s) (f : List Int → Int) : R_Board___call__ C [bdD C m n ((sets m n).map f), .tup (s.map .int)] (.ok (.int (f s))) := by
  refine ⟨rfl, ?_⟩
  unfold w_Board___call__
  walk_at "st"
  refine ⟨_, ev_wrong_content m n s v, ?_⟩
  walk_at "ev"
  walk_at "st"
  refine ⟨_, ev_setting_number m n hm s v.1, ?_⟩
  walk_at "ev"
  refine ex_at (x := f s) (num_lt v).1 (by rw [List.getElem?_map, sets_get v]; rfl) rfl
end K82
namespace K82
open PySem PySem.Spec PyProof.Rows L2 Pl RT Mt
local macro_rules | `(tactic| walk_at "ev") => `(tactic| try simp only [go_C, go_var, go_bin, go_un, go_and, go_or, go_not, go_tB1, go_if, go_bAnd, go_bOr, go_bNot, go_yes, go_nil, go_cons, go_tup, go_lst, Pl.go_of, go_Ca, go_fCa, go_fld, go_call, go_callKw, go_callG, go_lOf, go_lOwn, go_ixL, go_bor, go_bBor, go_sl, go_oNo, go_oSome, go_tupRev, go_revL, go_it, go_lc, go_cStep, go_cStep2, go_chain, go_mNil, go_mFz, go_mOw, go_rep, go_rg1, go_make, go_lenO, go_callO, go_dgetO, go_dinO, go_dicK, go_dicT, go_idx, go_eLam, go_eLamM, go_callPk, ex_inTups, ex_repT, ex_eqNil, ex_eqT, ex_eqL, ex_eqNilTI, ex_neNilTI, ex_sorted, ex_neNilI, ex_neNilT, ex_any, cut_pop, cut_last, ex_ltT, Option.isSome_some, Option.isSome_none, go_d1, go_d0ix, go_d0ne,
  ex_onI, ex_add, ex_eqI, ex_neI, ex_neB, ex_neL, ex_neT, ex_neL1, ex_neL11, List.filterMap_cons, List.filterMap_nil, ex_int1, ex_bl, ex_int, ex_someI, ex_R1, ex_R2, ex_itL, ex_itT, ex_itF, ex_revL, ex_revT, ex_enL, ex_enT, ex_zTL, ex_zTT, ex_zLT, ex_zLL, ex_lenL, ex_lenT, ex_tupL, ex_tupT, ex_lisL, ex_lisT, ex_lstD, ex_lstF, ex_abs, ex_neg, ex_ixL, ex_ixT, ex_slL, ex_slT, ex_slF, ex_addL, ex_addT, ex_isN, ex_notN, ex_sum, ex_inI, ex_inIT, fld_many, fld_sizes, fld_marks, fld_steps, isNon_non, isNon_tup, isNon_lst, isNon_int, isNon_str, isNon_bl, mulC_iff, PySem.sizeLine_eq, decide_true, decide_false, Nat.zero_le, Bool.not_eq_true', decide_eq_false_iff_not, ite_not, dEnd_rt, rtE_rt, gEnd_rt, dEnd_nx, gEnd_nx, or_ite1, or_ite2, or_ite3, or_ite4, onI_bl, isi_ii, isi_ib, isi_tt, isi_Llt, isi_Tlt, Oc.ok.injEq,
  Int.toNat_natCast, Int.zero_add, put_nm, put_tpT, put_tpL, puts_nil, puts_cons, Option.bind_some, OD.d, wipeE, pick, Function.comp_apply,
  env0, List.map_cons, List.map_nil, List.replicate, List.cons_append, List.nil_append, List.set_cons_succ, List.set_cons_zero, List.getElem?_cons_zero, List.getElem?_cons_succ, Option.some.injEq, SV.fz.injEq, SV.ow.injEq, OD.lst.injEq, exists_eq_left', exists_eq_left, exists_and_left, exists_eq', true_and, and_true, D.bl.injEq, D.int.injEq, D.lst.injEq, D.tup.injEq, reduceCtorEq, false_and, and_false, or_false, false_or, if_true, if_false, Bool.false_eq_true, Bool.not_true, Bool.not_false, reduceIte, decide_eq_true_eq, List.length_cons, List.length_nil, List.length_map, List.length_range, setsE])
local macro_rules | `(tactic| walk_at "st") => `(tactic| (repeat (first | with_reducible refine gw_seq ?_ | with_reducible refine gw_next ?_ | ((first | with_reducible refine gw_set ?_ | with_reducible refine gw_asg ?_ | with_reducible refine gw_asgF ?_ | with_reducible refine gw_ret ?_ | with_reducible refine gw_retN ?_ | with_reducible refine gw_if ?_ | with_reducible refine gw_for ?_ | with_reducible refine gw_par ?_ | with_reducible refine gw_expr ?_ | rw [if_pos (by omega)] | rw [if_neg (by omega)] | with_reducible refine And.intro (by omega) ?_ | omega); try walk_at "ev"))))
local macro_rules | `(tactic| walk_at "ones") => `(tactic| repeat (first | with_reducible apply ones_seq | with_reducible apply ones_while | with_reducible apply ones_for | with_reducible apply ones_if | with_reducible apply ones_asg | with_reducible apply ones_asgF | with_reducible apply ones_fz | with_reducible apply ones_par | with_reducible apply ones_app | with_reducible apply ones_ext | with_reducible apply ones_appPop | with_reducible apply ones_put | with_reducible apply ones_dput | with_reducible apply ones_d0pop | with_reducible apply ones_d0popTo | with_reducible apply ones_d0app | with_reducible apply ones_d1set | with_reducible apply ones_ret | with_reducible apply ones_retN | with_reducible apply ones_next | with_reducible apply ones_break | with_reducible apply ones_cont | with_reducible apply ones_never | with_reducible apply ones_expr))
local macro_rules | `(tactic| walk_at "sz") => `(tactic| first | omega | (simp; done) | (simp; omega))
/-- a draw state that may be met -/
def Vd (s : DlS) : Prop := s.1.length ≤ 64 ∧ 0 ≤ s.2 ∧ s.2 < 2 ^ 32
theorem ev_deal (ns : List Int) (hn : ns.length ≤ 63) : ∃ x, R__law_deal [.frl (ns.map .int), .int 0] x ∧ Vd x := by
  have hb : ∀ (cs : List Int) (b : Int), 0 ≤ b ∧ b < 2 ^ 32 → 0 ≤ cs.foldl (fun b c => (b * 40014 + c % 2147483549 + 29) % 2147483563) b ∧ cs.foldl (fun b c => (b * 40014 + c % 2147483549 + 29) % 2147483563) b < 2 ^ 32 := by
    intro cs
    induction cs with
    | nil => exact fun b h => h
    | cons c cs ih => exact fun b h => ih _ (by simp only; omega)
  refine ⟨((((ns.take 57).map fun c => if c < 0 then -c else c).filter fun c => decide (10 ^ 18 ≤ c)).reverse, ((ns.take 57).map fun c => if c < 0 then -c else c).foldl (fun b c => (b * 40014 + c % 2147483549 + 29) % 2147483563) 33550337), ⟨rfl, ?_⟩, ?_⟩
  · unfold w__law_deal
    walk_at "st"
    rw [cut_both (by omega) (by omega)]
    have hl : (ns.drop (0 : Int).toNat).take ((57 : Int).toNat - (0 : Int).toNat) = ns.take 57 := by simp
    rw [hl]
    refine ⟨_, _, coll_mapE D.int (fun c => if c < 0 then -c else c) (fun x _ => ?_), ?_⟩
    · walk_at "ev"
    generalize hcs : (ns.take 57).map (fun c => if c < 0 then -c else c) = cs
    have hcl : cs.length ≤ 57 := by rw [← hcs]; simp; omega
    walk_at "ev"
    walk_at "st"
    refine gf_map (fun pr env _ => ∃ a, env = [SV.fz (.frl (ns.map .int)), .fz (.int 0), a, .fz (.lst (cs.map .int)), .fz (.int (pr.foldl (fun b c => (b * 40014 + c % 2147483549 + 29) % 2147483563) 33550337))]) ⟨_, rfl⟩ ?_ ?_
    · rintro pr x po env s e ⟨a, rfl⟩
      refine ⟨_, rfl, fun De' hn _ _ _ _ => ?_⟩
      walk_at "st"
      refine hn _ _ ⟨.fz (.int x), ?_⟩
      simp
    · rintro env s ⟨a, rfl⟩
      refine go_run ?_
      walk_at "ev"
      refine ⟨_, _, coll_fltE D.int (fun c => decide (10 ^ 18 ≤ c)) (fun c => c) (fun x _ => ?_), ?_⟩
      · walk_at "ev"
        refine ⟨by decide, ?_⟩
        by_cases h : (10 : Int) ^ 18 ≤ x
        · rw [if_pos (by simpa using h), if_pos (by simpa using h)]
          walk_at "ev"
        · rw [if_neg (by simpa using h), if_neg (by simpa using h)]
          walk_at "ev"
      · rw [List.map_id']
        have hl2 : (cs.filter fun c => decide (10 ^ 18 ≤ c)).length ≤ cs.length := List.length_filter_le ..
        walk_at "ev"
        rw [← List.map_reverse]
        exact ⟨by omega, _, _, rfl, rfl⟩
  · refine ⟨?_, (hb _ _ (by omega)).1, (hb _ _ (by omega)).2⟩
    have := List.length_filter_le (fun c : Int => decide (10 ^ 18 ≤ c)) ((ns.take 57).map fun c => if c < 0 then -c else c)
    simp only [List.length_reverse, List.length_map, List.length_take] at this ⊢
    omega
theorem ones_draw : Ones w__law_draw := by
  unfold w__law_draw
  walk_at "ones"
theorem ev_draw (s : DlS) (b : Int) (hv : Vd s) (hb : 0 < b ∧ b < 2 ^ 30) : ∃ v s', R__law_draw s [.int b] (.ok (.int v)) s' ∧ (0 ≤ v ∧ v < b) ∧ Vd s' := by
  have hmod : ∀ x : Int, 0 ≤ x % b ∧ x % b < b := fun x => ⟨Int.emod_nonneg _ (by omega), Int.emod_lt_of_pos _ hb.1⟩
  have tl : ∀ z : DlS, Vd z → wSeq (wIf (bD0ne 0) (wSeq (wD0popTo 0 2) (wSeq (wD0app 0 (eBin dFdiv (eVar 2) (eVar 1))) (wRet (eBin dMod (eCa dInt1 (aCons (eVar 2) aNil)) (eVar 1))))) wNext)
      (wSeq (wD1set 0 (eBin dMod (eCa dInt1 (aCons (eBin dAdd (eBin dMulI (eD1 0) (eC (D.int 40014))) (eC (D.int 73))) aNil)) (eC (D.int 2147483563)))) (wRet (eBin dMod (eCa dInt1 (aCons (eBin dFdiv (eD1 0) (eC (D.int 128))) aNil)) (eVar 1))))
      (rtE fun d s' => (∃ v, d = D.int v ∧ 0 ≤ v ∧ v < b) ∧ Vd s') [SV.gh, SV.fz (D.int b), SV.no] z := by
    intro z hz
    have hz2 := hz.2
    walk_at "st"
    by_cases hne : z.1 = []
    · rw [if_pos hne]
      walk_at "st"
      refine gw_d1set rfl ?_
      walk_at "ev"
      walk_at "st"
      refine ⟨hmod _, ?_⟩
      refine ⟨hz.1, ?_⟩
      simp only
      omega
    · rw [if_neg hne]
      walk_at "st"
      refine gw_d0popTo rfl hne (gw_seq (gw_d0app rfl ?_))
      walk_at "ev"
      have hl : z.1.dropLast.length < 64 := by
        have := List.length_pos_iff.mpr hne
        have := hz.1
        rw [List.length_dropLast]
        omega
      walk_at "st"
      refine ⟨hmod _, ?_, hz.2⟩
      simp only [List.length_append, List.length_cons, List.length_nil]
      omega
  have : ∃ d s', R__law_draw s [.int b] (.ok d) s' ∧ (∃ v, d = .int v ∧ 0 ≤ v ∧ v < b) ∧ Vd s' := by
    refine dRG_of ones_draw rfl ?_
    unfold w__law_draw
    refine gw_seq (gw_while (fun m e z => m = z.1.length ∧ e = [.gh, .fz (.int b), .no] ∧ Vd z) (m0 := s.1.length) ⟨rfl, rfl, hv⟩ ?_)
    rintro m env z ⟨rfl, rfl, hz⟩
    walk_at "ev"
    by_cases hne : z.1 = []
    · rw [if_pos hne]
      exact tl z hz
    · rw [if_neg hne]
      refine ⟨_, at_last hne, ?_⟩
      by_cases h0 : z.1.getLast hne = 0
      · rw [if_pos h0]
        refine gw_d0pop rfl hne ?_
        have := List.length_pos_iff.mpr hne
        refine ⟨_, ?_, rfl, rfl, ?_, hz.2⟩
        · simp only [List.length_dropLast]; omega
        · have := hz.1
          simp only [List.length_dropLast]; omega
      · rw [if_neg h0]
        exact tl z hz
  obtain ⟨d, s', h1, ⟨v, rfl, h2⟩, h3⟩ := this
  exact ⟨v, s', h1, h2, h3⟩
theorem ev_pick {α : Type} (g : α → D) (s : DlS) (xs : List α) (hv : Vd s) (hx : xs ≠ [] ∧ xs.length < 2 ^ 30) : ∃ x s', R__law_pick s [.lst (xs.map g)] (.ok (g x)) s' ∧ x ∈ xs ∧ Vd s' := by
  have hl := List.length_pos_iff.mpr hx.1
  obtain ⟨v, s', h1, h2, h3⟩ := ev_draw s xs.length hv (by omega)
  have hv : v.toNat < xs.length := by omega
  refine ⟨xs[v.toNat], s', ⟨rfl, ?_⟩, List.getElem_mem hv, h3⟩
  unfold w__law_pick
  walk_at "st"
  refine ⟨_, _, h1, ?_⟩
  walk_at "ev"
  exact ex_at h2.1 (List.getElem?_eq_getElem hv) rfl
theorem ones_mixed : Ones w__law_mixed := by
  unfold w__law_mixed
  walk_at "ones"
theorem ev_mixed {α : Type} (g : α → D) (s : DlS) (xs : List α) (hv : Vd s) (hx : xs.length < 2 ^ 20) (hp : ∀ ys : List α, (∀ y ∈ ys, y ∈ xs) → ys.length ≤ xs.length → Pln (.lst (ys.map g))) :
    ∃ (ys : List α) (s' : DlS), R__law_mixed s [.lst (xs.map g)] (.ok (.lst (ys.map g))) s' ∧ ys.Perm xs ∧ Vd s' := by
  have : ∃ d s', R__law_mixed s [.lst (xs.map g)] (.ok d) s' ∧ (∃ ys : List α, d = .lst (ys.map g) ∧ ys.Perm xs) ∧ Vd s' := by
    refine dRG_of ones_mixed rfl ?_
    unfold w__law_mixed
    walk_at "st"
    refine gw_while (fun m e z => ∃ ys left : List α, m = left.length ∧ e = [.gh, .fz (.lst (xs.map g)), .ow (.lst (left.map g)), .ow (.lst (ys.map g))] ∧ (ys ++ left).Perm xs ∧ Vd z) (m0 := xs.length) ⟨[], xs, rfl, rfl, .refl _, hv⟩ ?_
    rintro m env z ⟨ys, left, rfl, rfl, hperm, hz⟩
    walk_at "ev"
    have hlen : ys.length + left.length = xs.length := by rw [← hperm.length_eq]; simp
    rw [ex_neNil (hp left (fun y hy => hperm.mem_iff.mp (List.mem_append_right _ hy)) (by omega))]
    walk_at "ev"
    by_cases hne : left = []
    · subst hne
      rw [if_pos (by simp)]
      refine gw_fz rfl ?_
      walk_at "st"
      exact ⟨⟨ys, rfl, by simpa using hperm⟩, hz⟩
    · rw [if_neg (by simpa using hne)]
      have hl := List.length_pos_iff.mpr hne
      obtain ⟨v, s', h1, h2, h3⟩ := ev_draw z left.length hz (by omega)
      refine gw_appPop (by decide) rfl rfl (by simp [PySem.sizeLine_eq]; omega) ?_
      walk_at "ev"
      have hk : v.toNat < left.length := by omega
      refine ⟨rfl, _, _, h1, v, rfl, by omega, by omega, v.toNat, seqIndex_get (by omega) hk, g left[v.toNat], by simp [hk], (left.eraseIdx v.toNat).length, ?_, ys ++ [left[v.toNat]], left.eraseIdx v.toNat, rfl, ?_, ?_, h3⟩
      · rw [List.length_eraseIdx_of_lt hk]; omega
      · rw [List.map_append, map_eraseIdx]; rfl
      · rw [List.append_assoc]
        exact (List.Perm.append_left ys (perm_eraseIdx left v.toNat hk)).trans hperm
  obtain ⟨d, s', h1, ⟨v, rfl, h2⟩, h3⟩ := this
  exact ⟨v, s', h1, h2, h3⟩
theorem ev_mixedI (s : DlS) (xs : List Int) (hv : Vd s) (hx : xs.length < 2 ^ 20) : ∃ (ys : List Int) (s' : DlS), R__law_mixed s [.lst (xs.map .int)] (.ok (.lst (ys.map .int))) s' ∧ ys.Perm xs ∧ Vd s' := ev_mixed D.int s xs hv hx fun ys _ _ => pln_lis ys
theorem sets_snoc (m k : Nat) : sets m (k + 1) = (sets m k).flatMap fun t => (ir m).map fun c => t ++ [c] := by
  rw [sets, List.replicate_succ', vecs_snoc]; rfl
theorem ir_map {α : Type} (f : Int → α) (m : Nat) : (ir m).map f = (List.range m).map fun i : Nat => f i := by rw [ir, List.map_map]; rfl
theorem ev_settings (m n : Nat) (hm : 0 < m ∧ m < 2 ^ 20) (hn : n < 2 ^ 10) (hz : m ^ n ≤ 20000) : R__law_settings [.int m, .int n] (.ok (.lst ((sets m n).map fun s => .lst (s.map .int)))) := by
  refine ⟨rfl, ?_⟩
  unfold w__law_settings
  walk_at "st"
  have e0 : (sets m 0).map (fun s => D.lst (s.map .int)) = [D.lst []] := by simp [sets, vecs]
  refine gr (fun k env _ => ∃ a b c d, env = [.fz (.int m), .fz (.int n), .fz (.lst ((sets m k).map fun s => .lst (s.map .int))), a, b, c, d]) ⟨_, _, _, _, by rw [e0]⟩ ?_ ?_
  · rintro k env s hk ⟨a, b, c, d, rfl⟩
    refine ⟨_, rfl, fun De' hn' => ?_⟩
    have hlen : m ^ (k + 1) ≤ 20000 := Nat.le_trans (Nat.pow_le_pow_right hm.1 (by omega)) hz
    walk_at "st"
    refine gm (fun pr env _ => ∃ c d, env = [.fz (.int m), .fz (.int n), .fz (.lst ((sets m k).map fun s => .lst (s.map .int))), .fz (.int k), .ow (.lst ((pr.flatMap fun t => (ir m).map fun c => t ++ [c]).map fun s => .lst (s.map .int))), c, d]) ⟨_, _, rfl⟩ ?_ ?_
    · rintro pr x po env s e ⟨c, d, rfl⟩
      refine ⟨_, rfl, fun De' hn' => gw_ext rfl ?_⟩
      have hpl : pr.length < m ^ k := by
        have := congrArg List.length e
        rw [sets_len] at this
        simp at this
        omega
      have hpo : (pr.flatMap fun t => (ir m).map fun c => t ++ [c]).length = pr.length * m := by
        rw [List.length_flatMap]
        simp only [List.length_map, ir_len]
        rw [List.map_const', List.sum_replicate_nat]
      have hxl : x.length = k := by
        have := vecs_val hm.1 (t := x) (bs := List.replicate k true) (by rw [show vecs m (List.replicate k true) = sets m k from rfl, e]; simp)
        simpa using this.1
      walk_at "ev"
      refine ⟨by omega, _, _, coll_map (h := fun c : Nat => D.lst ((x ++ [(c : Int)]).map .int)) (fun c _ => ?_), ?_⟩
      · walk_at "ev"
        refine ⟨by omega, by omega, ?_⟩
        simp
      · refine ⟨by simp; omega, ?_, ?_⟩
        · simp only [List.length_map, List.length_range, hpo]
          have : (pr.length + 1) * m ≤ m ^ k * m := Nat.mul_le_mul_right m hpl
          have e2 : m ^ (k + 1) = m ^ k * m := Nat.pow_succ ..
          rw [Nat.add_mul] at this
          omega
        · refine hn' _ _ ⟨.fz (.lst (x.map .int)), d, ?_⟩
          simp only [List.flatMap_append, List.map_append, List.flatMap_cons, List.flatMap_nil, List.append_nil, List.map_map, ir_map, Function.comp_def]
    · rintro env s ⟨c, d, rfl⟩
      refine gw_fz rfl ?_
      walk_at "st"
      rw [sets_snoc] at hn'
      exact hn' _ _ ⟨_, _, _, _, rfl⟩
  · rintro env s ⟨a, b, c, d, rfl⟩
    walk_at "st"
theorem ones_bends : Ones w__law_bends := by
  unfold w__law_bends
  walk_at "ones"
theorem ev_bends (s : DlS) (n : Nat) (hv : Vd s) (hn : 1 ≤ n ∧ n ≤ 4) : ∃ (bs : List Int) (s' : DlS), R__law_bends s [.int n] (.ok (.lst (bs.map .int))) s' ∧ bs.length = 2 ^ n ∧ Vd s' := by
  have : ∃ d s', R__law_bends s [.int n] (.ok d) s' ∧ (∃ bs : List Int, d = .lst (bs.map .int) ∧ bs.length = 2 ^ n) ∧ Vd s' := by
    refine dRG_of ones_bends rfl ?_
    unfold w__law_bends
    walk_at "st"
    obtain ⟨kind, s1, h1, h2, h3⟩ := ev_pick D.str s [("none" : Str), "pairs", "pairs", "pairs", "three", "any"] hv ⟨by simp, by decide⟩
    have hok : PyData.strOk kind = true := by
      simp only [List.mem_cons, List.not_mem_nil, or_false] at h2
      rcases h2 with rfl | rfl | rfl | rfl | rfl | rfl <;> decide +kernel
    refine ⟨_, _, h1, ?_⟩
    walk_at "ev"
    walk_at "st"
    obtain ⟨ties, s2, c1, c2, c3, hv2⟩ := coll_draw (g := fun i : Nat => D.int i) (step := cStep (TP.nm 3) bYes (eOf (fLc (iOf (aCons (eVar 3) aNil) itR1) (cStep (TP.nm 4) bYes (eBin dGt (eCallG 0 R__law_draw (aCons (eC (D.int 3)) aNil)) (eC (D.int 0)))) [4]))
      [SV.gh, SV.fz (D.int n), SV.fz (D.str kind), SV.no, SV.no, SV.no, SV.no, SV.no, SV.no, SV.no, SV.no]) (fun bl : List Bool => D.lst (bl.map .bl)) (fun i bl => bl.length = i) Vd (xs := List.range n) (s := s1) h3 (by
      intro x hx s hs
      walk_at "ev"
      have hx := List.mem_range.mp hx
      refine ⟨by omega, ?_⟩
      obtain ⟨bl, s4, d1, d2, d3, hv4⟩ := coll_draw (g := fun i : Nat => D.int i) (step := cStep (TP.nm 4) bYes (eBin dGt (eCallG 0 R__law_draw (aCons (eC (D.int 3)) aNil)) (eC (D.int 0))) [SV.gh, SV.fz (D.int n), SV.fz (D.str kind), SV.fz (D.int x), SV.no, SV.no, SV.no, SV.no, SV.no, SV.no, SV.no]) D.bl (fun _ _ => True) Vd (xs := List.range x) (s := s) hs (by
        intro y hy s hs
        obtain ⟨v, s5, g1, g2, g3⟩ := ev_draw s 3 hs (by omega)
        walk_at "ev"
        refine ⟨_, _, g1, ?_⟩
        walk_at "ev"
        exact ⟨_, rfl, g3⟩)
      exact ⟨_, _, d1, by simp [d2]; omega, bl, rfl, by simpa using d2, hv4⟩)
    refine ⟨_, _, c1, ?_⟩
    have hl2 : ties.length = n := by simpa using c2
    obtain ⟨th, s3, m1, m2, hv3⟩ := ev_mixedI s2 (ir n) hv2 (by rw [ir_len]; omega)
    have hth : ∀ x ∈ th.take 3, 0 ≤ x ∧ x < n := fun x hx => mem_ir.mp (m2.mem_iff.mp (List.mem_of_mem_take hx))
    have hne : th.take 3 ≠ [] := by
      intro e
      have h5 := m2.length_eq
      rw [ir_len] at h5
      have e2 := congrArg List.length e
      rw [List.length_take, List.length_nil] at e2
      omega
    rw [ir_map D.int] at m1
    refine ⟨by simp [hl2]; omega, ?_⟩
    walk_at "st"
    refine ⟨_, _, m1, ?_⟩
    walk_at "ev"
    rw [cut_to (by omega)]
    generalize hth3 : th.take (3 : Int).toNat = t3
    walk_at "ev"
    have ht3 : ∀ x ∈ t3, 0 ≤ x ∧ x < (n : Int) := by rw [← hth3]; exact hth
    have hne3 : t3 ≠ [] := by rw [← hth3]; exact hne
    walk_at "st"
    refine ⟨_, ev_settings 2 n (by omega) (by omega) (Nat.le_trans (Nat.pow_le_pow_right (by omega) hn.2) (by decide)), ?_⟩
    walk_at "ev"
    have hsl : (sets 2 n).length ≤ 16 := by
      rw [sets_len]
      exact Nat.le_trans (Nat.pow_le_pow_right (by omega) hn.2) (by decide)
    refine gm (fun pr env z => Vd z ∧ ∃ (bs : List Int) (a b c d e : SV), bs.length = pr.length ∧ env = [.gh, .fz (.int n), .fz (.str kind), a, b, .fz (.lst (ties.map fun bl => D.lst (bl.map .bl))), .fz (.lst (t3.map .int)), .ow (.lst (bs.map .int)), c, d, e]) ⟨hv3, [], _, _, _, _, _, rfl, rfl⟩ ?_ ?_
    · rintro pr bits po env z e ⟨hz, bs, a, b, c, d, e', hbl, rfl⟩
      refine ⟨_, rfl, fun De' hn' => ?_⟩
      have hprl : pr.length < 16 := by
        have := congrArg List.length e
        simp at this
        omega
      have hbv : Val 2 n bits := by
        have := vecs_val (m := 2) (by omega) (t := bits) (bs := List.replicate n true) (by rw [show vecs 2 (List.replicate n true) = sets 2 n from rfl, e]; simp)
        simpa using this
      have fin : ∀ (bend : Int) (a b e' : SV) (z : DlS), Vd z → wApp 7 (eBin dMod (eCa dInt1 (aCons (eVar 9) aNil)) (eC (.int 2))) De' [.gh, .fz (.int n), .fz (.str kind), a, b, .fz (.lst (ties.map fun bl => D.lst (bl.map .bl))), .fz (.lst (t3.map .int)), .ow (.lst (bs.map .int)), .fz (.lst (bits.map .int)), .fz (.int bend), e'] z := by
        intro bend a b e' z hz
        refine gw_app rfl (by simp [PySem.sizeLine_eq]; omega) ?_
        walk_at "ev"
        exact ⟨by omega, hn' _ _ ⟨hz, bs ++ [bend % 2], a, b, _, _, e', by simp [hbl], by rw [List.map_append]; rfl⟩⟩
      walk_at "st"
      rw [ex_eqS hok (by decide +kernel)]
      walk_at "ev"
      by_cases k1 : (kind == ("pairs" : Str)) = true
      · rw [if_pos k1]
        walk_at "st"
        refine gr (fun k env z => Vd z ∧ ∃ (bend : Int) (a b e' : SV), env = [.gh, .fz (.int n), .fz (.str kind), a, b, .fz (.lst (ties.map fun bl => D.lst (bl.map .bl))), .fz (.lst (t3.map .int)), .ow (.lst (bs.map .int)), .fz (.lst (bits.map .int)), .fz (.int bend), e']) ⟨hz, _, _, _, _, rfl⟩ ?_ ?_
        · rintro k env z hk ⟨hz, bend, a, b, e', rfl⟩
          refine ⟨_, rfl, fun De' hn' => ?_⟩
          walk_at "st"
          obtain ⟨c1', g1', g2'⟩ := hbv.get (p := k) hk
          have hk2 : k < ties.length := by omega
          have htk := c3 k k ties[k] (List.getElem?_range hk) (List.getElem?_eq_getElem hk2)
          refine ⟨_, _, coll_fltE D.int (fun i : Nat => (ties[k]).getD i false) (fun i : Nat => c1' * lk bits i) (fun i hi => ?_), ?_⟩
          · have hi := List.mem_range.mp hi
            walk_at "ev"
            refine ⟨_, at_nat (by rw [List.getElem?_map, List.getElem?_eq_getElem hk2]; rfl), ?_⟩
            walk_at "ev"
            refine ⟨_, at_nat (by rw [List.getElem?_map, List.getElem?_eq_getElem (show i < (ties[k]).length by omega)]; rfl), ?_⟩
            walk_at "ev"
            have hg : (ties[k]).getD i false = (ties[k])[i]'(by omega) := by simp [List.getD_eq_getElem?_getD, List.getElem?_eq_getElem (show i < (ties[k]).length by omega)]
            rw [hg]
            obtain ⟨c2', g1'', g2''⟩ := hbv.get (p := i) (by omega)
            by_cases hb : ((ties[k])[i]'(by omega)) = true
            · rw [if_pos hb, if_pos hb]
              refine ⟨_, at_nat (by rw [List.getElem?_map, g1']; rfl), ?_⟩
              refine ⟨_, at_nat (by rw [List.getElem?_map, g1'']; rfl), ?_⟩
              walk_at "ev"
              refine ⟨by omega, ?_⟩
              simp [lk, g1'']
            · rw [if_neg hb, if_neg hb]
              walk_at "ev"
          · have hfl := List.length_filter_le (fun i : Nat => (ties[k]).getD i false) (List.range k)
            rw [List.length_range] at hfl
            refine ⟨by simp only [List.length_map]; omega, ?_⟩
            walk_at "ev"
            exact hn' _ _ ⟨hz, _, _, _, _, rfl⟩
        · rintro env z ⟨hz, bend, a, b, e', rfl⟩
          exact fin bend a b e' z hz
      · rw [if_neg k1]
        walk_at "st"
        rw [ex_eqS hok (by decide +kernel)]
        walk_at "ev"
        by_cases k2 : (kind == ("three" : Str)) = true
        · rw [if_pos k2]
          walk_at "st"
          refine ⟨_, _, coll_mapE D.int (fun x => lk bits x) (fun x hx => ?_), ?_⟩
          · walk_at "ev"
            obtain ⟨c, g1, g2⟩ := hbv.get (p := x.toNat) (by have := ht3 x hx; omega)
            refine ex_at (ht3 x hx).1 g1 ?_
            simp [lk, g1]
          · obtain ⟨y, ys, hy⟩ := List.exists_cons_of_ne_nil hne3
            have htl : t3.length ≤ 4 := by
              rw [← hth3]
              simp only [List.length_take]
              omega
            refine ⟨by simp; omega, ?_⟩
            exact ⟨_, by rw [hy]; exact min_some, fin _ _ _ _ _ hz⟩
        · rw [if_neg k2]
          walk_at "st"
          rw [ex_eqS hok (by decide +kernel)]
          walk_at "ev"
          by_cases k3 : (kind == ("any" : Str)) = true
          · rw [if_pos k3]
            obtain ⟨v, s5, g1, g2, g3⟩ := ev_draw z 2 hz (by omega)
            walk_at "st"
            refine ⟨_, _, g1, ?_⟩
            walk_at "ev"
            exact fin _ _ _ _ _ g3
          · rw [if_neg k3]
            walk_at "st"
            exact fin _ _ _ _ _ hz
    · rintro env z ⟨hz, bs, a, b, c, d, e, hbl, rfl⟩
      refine gw_fz rfl ?_
      walk_at "st"
      exact ⟨⟨bs, rfl, by rw [hbl, sets_len]⟩, hz⟩
  obtain ⟨d, s', h1, ⟨v, rfl, h2⟩, h3⟩ := this
  exact ⟨v, s', h1, h2, h3⟩
end K82
namespace K82
open PySem PySem.Spec PyProof.Rows L2 Pl RT Mt
local macro_rules | `(tactic| walk_at "ev") => `(tactic| try simp only [go_C, go_var, go_bin, go_un, go_and, go_or, go_not, go_tB1, go_if, go_bAnd, go_bOr, go_bNot, go_yes, go_nil, go_cons, go_tup, go_lst, Pl.go_of, go_Ca, go_fCa, go_fld, go_call, go_callKw, go_callG, go_lOf, go_lOwn, go_ixL, go_bor, go_bBor, go_sl, go_oNo, go_oSome, go_tupRev, go_revL, go_it, go_lc, go_cStep, go_cStep2, go_chain, go_mNil, go_mFz, go_mOw, go_rep, go_rg1, go_make, go_lenO, go_callO, go_dgetO, go_dinO, go_dicK, go_dicT, go_idx, go_eLam, go_eLamM, go_callPk, ex_inTups, ex_repT, ex_eqNil, ex_eqT, ex_eqL, ex_eqNilTI, ex_neNilTI, ex_sorted, ex_neNilI, ex_neNilT, ex_any, cut_pop, cut_last, ex_ltT, Option.isSome_some, Option.isSome_none, go_d1, go_d0ix, go_d0ne,
  ex_onI, ex_add, ex_eqI, ex_neI, ex_neB, ex_neL, ex_neT, ex_neL1, ex_neL11, List.filterMap_cons, List.filterMap_nil, ex_int1, ex_bl, ex_int, ex_someI, ex_R1, ex_R2, ex_itL, ex_itT, ex_itF, ex_revL, ex_revT, ex_enL, ex_enT, ex_zTL, ex_zTT, ex_zLT, ex_zLL, ex_lenL, ex_lenT, ex_tupL, ex_tupT, ex_lisL, ex_lisT, ex_lstD, ex_lstF, ex_abs, ex_neg, ex_ixL, ex_ixT, ex_slL, ex_slT, ex_slF, ex_addL, ex_addT, ex_isN, ex_notN, ex_sum, ex_inI, ex_inIT, fld_many, fld_sizes, fld_marks, fld_steps, isNon_non, isNon_tup, isNon_lst, isNon_int, isNon_str, isNon_bl, mulC_iff, PySem.sizeLine_eq, decide_true, decide_false, Nat.zero_le, Bool.not_eq_true', decide_eq_false_iff_not, ite_not, dEnd_rt, rtE_rt, gEnd_rt, dEnd_nx, gEnd_nx, or_ite1, or_ite2, or_ite3, or_ite4, onI_bl, isi_ii, isi_ib, isi_tt, isi_Llt, isi_Tlt, Oc.ok.injEq,
  Int.toNat_natCast, Int.zero_add, put_nm, put_tpT, put_tpL, puts_nil, puts_cons, Option.bind_some, OD.d, wipeE, pick, Function.comp_apply,
  env0, List.map_cons, List.map_nil, List.replicate, List.cons_append, List.nil_append, List.set_cons_succ, List.set_cons_zero, List.getElem?_cons_zero, List.getElem?_cons_succ, Option.some.injEq, SV.fz.injEq, SV.ow.injEq, OD.lst.injEq, exists_eq_left', exists_eq_left, exists_and_left, exists_eq', true_and, and_true, D.bl.injEq, D.int.injEq, D.lst.injEq, D.tup.injEq, reduceCtorEq, false_and, and_false, or_false, false_or, if_true, if_false, Bool.false_eq_true, Bool.not_true, Bool.not_false, reduceIte, decide_eq_true_eq, List.length_cons, List.length_nil, List.length_map, List.length_range, setsE])
local macro_rules | `(tactic| walk_at "st") => `(tactic| (repeat (first | with_reducible refine gw_seq ?_ | with_reducible refine gw_next ?_ | ((first | with_reducible refine gw_set ?_ | with_reducible refine gw_asg ?_ | with_reducible refine gw_asgF ?_ | with_reducible refine gw_ret ?_ | with_reducible refine gw_retN ?_ | with_reducible refine gw_if ?_ | with_reducible refine gw_for ?_ | with_reducible refine gw_par ?_ | with_reducible refine gw_expr ?_ | rw [if_pos (by omega)] | rw [if_neg (by omega)] | with_reducible refine And.intro (by omega) ?_ | omega); try walk_at "ev"))))
local macro_rules | `(tactic| walk_at "ones") => `(tactic| repeat (first | with_reducible apply ones_seq | with_reducible apply ones_while | with_reducible apply ones_for | with_reducible apply ones_if | with_reducible apply ones_asg | with_reducible apply ones_asgF | with_reducible apply ones_fz | with_reducible apply ones_par | with_reducible apply ones_app | with_reducible apply ones_ext | with_reducible apply ones_appPop | with_reducible apply ones_put | with_reducible apply ones_dput | with_reducible apply ones_d0pop | with_reducible apply ones_d0popTo | with_reducible apply ones_d0app | with_reducible apply ones_d1set | with_reducible apply ones_ret | with_reducible apply ones_retN | with_reducible apply ones_next | with_reducible apply ones_break | with_reducible apply ones_cont | with_reducible apply ones_never | with_reducible apply ones_expr))
local macro_rules | `(tactic| walk_at "sz") => `(tactic| first | omega | (simp; done) | (simp; omega))
abbrev lisD (xs : List Int) : D := .lst (xs.map .int)
theorem ones_two_bits : Ones w__law_two_bits := by
  unfold w__law_two_bits
  walk_at "ones"
/-- rows that are drawn -/
theorem rows_of {m n : Nat} {rows : List (List Int)} (h1 : rows.length = n) (h2 : ∀ (i x : Nat) (z : List Int), (List.range n)[i]? = some x → rows[i]? = some z → Pm m z) : Rows m n rows := ⟨h1, fun r hr => by
  obtain ⟨i, hi⟩ := List.mem_iff_getElem?.mp hr
  have : i < n := by rw [← h1]; exact (List.getElem?_eq_some_iff.mp hi).1
  exact h2 i i r (List.getElem?_range this) hi⟩
theorem mem_split {α : Type} {l pr po : List α} {x : α} (e : l = pr ++ x :: po) : x ∈ l := by rw [e]; simp
theorem sets_mem {m n : Nat} (hm : 0 < m) {s : List Int} (h : s ∈ sets m n) : Val m n s := by simpa using vecs_val hm h
theorem ev_two_bits (s : DlS) (n : Nat) (hv : Vd s) (hn : 1 ≤ n ∧ n ≤ 4) : ∃ (f : List Int → Int) (s' : DlS), R__law_two_bits s [.int n] (.ok (lisD ((sets 4 n).map f))) s' ∧ FairF 4 n f ∧ Vd s' := by
  have : ∃ d s', R__law_two_bits s [.int n] (.ok d) s' ∧ (∃ f, d = lisD ((sets 4 n).map f) ∧ FairF 4 n f) ∧ Vd s' := by
    refine dRG_of ones_two_bits rfl ?_
    unfold w__law_two_bits
    walk_at "st"
    obtain ⟨rows, s1, c1, c2, c3, hv1⟩ := coll_draw (g := fun i : Nat => D.int i) (step := cStep (TP.nm 2) bYes (eCallG 0 R__law_mixed (aCons (eOf (fRg1 (eC (D.int 4)))) aNil)) [SV.gh, SV.fz (D.int n), SV.no, SV.no, SV.no, SV.no, SV.no, SV.no, SV.no, SV.no, SV.no, SV.no, SV.no]) lisD (fun _ l => Pm 4 l) Vd (xs := List.range n) (s := s) hv (by
      intro x hx s hs
      walk_at "ev"
      obtain ⟨l, s2, m1, m2, m3⟩ := ev_mixedI s (ir 4) hs (by rw [ir_len]; omega)
      rw [ir_map D.int] at m1
      exact ⟨by omega, _, _, m1, l, rfl, m2, m3⟩)
    have hr := rows_of (by simpa using c2) c3
    refine ⟨_, _, c1, by simp [hr.1]; omega, by omega, ?_⟩
    obtain ⟨names, s2, m1, m2, hv2⟩ := ev_mixedI s1 (ir 4) hv1 (by rw [ir_len]; omega)
    rw [ir_map D.int] at m1
    refine ⟨_, _, m1, ?_⟩
    walk_at "st"
    obtain ⟨bends, s3, b1, b2, hv3⟩ := ev_bends s2 n hv2 hn
    refine ⟨_, _, b1, ?_⟩
    walk_at "ev"
    walk_at "st"
    have hz : 4 ^ n ≤ 256 := Nat.le_trans (Nat.pow_le_pow_right (by omega) hn.2) (by decide)
    refine ⟨_, ev_settings 4 n (by omega) (by omega) (by omega), ?_⟩
    walk_at "ev"
    have hfair := fair_twoBits (bends := bends) hr m2
    generalize hf : twoBits rows names bends = f at hfair
    refine gm (fun pr env z => Vd z ∧ ∃ (a b c d e g j : SV), env = [.gh, .fz (.int n), a, .fz (.lst (rows.map lisD)), .fz (lisD names), .fz (lisD bends), .ow (.lst ((pr.map f).map .int)), b, c, d, e, g, j]) ⟨hv3, _, _, _, _, _, _, _, rfl⟩ ?_ ?_
    · rintro pr x po env z e ⟨hz, a, b, c, d, e', g, j, rfl⟩
      refine ⟨_, rfl, fun De' hn' => ?_⟩
      have hx := sets_mem (by omega) (mem_split e)
      have hprl : pr.length < 256 := by
        have := congrArg List.length e
        rw [sets_len] at this
        simp at this
        omega
      walk_at "st"
      refine ge (fun k env z' => z' = z ∧ ∃ (a b c : SV), env = [.gh, .fz (.int n), a, .fz (.lst (rows.map lisD)), .fz (lisD names), .fz (lisD bends), .ow (.lst ((pr.map f).map .int)), .fz (lisD x), .fz (.int (tb (rows.take k) (x.take k) (0, 0, 0)).1), .fz (.int (tb (rows.take k) (x.take k) (0, 0, 0)).2.1), .fz (.int (tb (rows.take k) (x.take k) (0, 0, 0)).2.2), b, c]) ⟨rfl, _, _, _, rfl⟩ ?_ ?_
      · rintro k y env z' hy ⟨rfl, a, b, c, rfl⟩
        refine ⟨_, rfl, fun De' hn' => ?_⟩
        have hk : k < n := by rw [← hx.1]; exact (List.getElem?_eq_some_iff.mp hy).1
        have hk2 : k < rows.length := by rw [hr.1]; exact hk
        have hrk := List.getElem?_eq_getElem hk2
        have hpm := hr.2 _ (List.getElem_mem hk2)
        have hyb := hx.2 y (List.mem_of_getElem? hy)
        rw [tb_take k rows x _ _ y hrk hy] at hn'
        walk_at "st"
        refine ⟨_, at_nat (by rw [List.getElem?_map, hrk]; rfl), ?_⟩
        walk_at "ev"
        refine ex_at hyb.1 (hpm.get hyb) ?_
        walk_at "st"
        exact hn' _ _ ⟨rfl, _, _, _, rfl⟩
      · rintro env z' ⟨rfl, a, b, c, rfl⟩
        refine gw_app rfl (by simp [PySem.sizeLine_eq]; omega) ?_
        rw [show rows.take x.length = rows by rw [hx.1, ← hr.1, List.take_length], List.take_length]
        have hat := tb_at rfl (0, 0, 0) 0 hr hx (by simp)
        rw [Nat.zero_add] at hat
        generalize hT : tb rows x (0, 0, 0) = T at hat
        walk_at "ev"
        refine ⟨by omega, by omega, ex_at (x := lk bends T.2.2) hat.1 ?_ ?_⟩
        · have : T.2.2.toNat < bends.length := by rw [b2]; omega
          rw [lk, List.getD_eq_getElem?_getD, List.getElem?_eq_getElem this]; rfl
        · walk_at "ev"
          refine ⟨by omega, ?_⟩
          have hb4 : 0 ≤ T.2.1 % 2 * 2 + (T.1 + lk bends T.2.2) % 2 ∧ T.2.1 % 2 * 2 + (T.1 + lk bends T.2.2) % 2 < (4 : Nat) := by omega
          refine ex_at hb4.1 (Pm.get m2 hb4) ?_
          have e2 : f x = lk names (T.2.1 % 2 * 2 + (T.1 + lk bends T.2.2) % 2) := by rw [← hf]; unfold twoBits; rw [hT]
          simp only [List.map_append, List.map_cons, List.map_nil, e2] at hn'
          exact hn' _ _ ⟨hz, _, _, _, _, _, _, _, rfl⟩
    · rintro env z ⟨hz, a, b, c, d, e', g, j, rfl⟩
      refine gw_fz rfl ?_
      walk_at "st"
      exact ⟨⟨f, rfl, hfair⟩, hz⟩
  obtain ⟨d, s', h1, ⟨v, rfl, h2⟩, h3⟩ := this
  exact ⟨v, s', h1, h2, h3⟩
theorem ev_times (many one other : Int) (h1 : 0 ≤ one ∧ one < 16) (h2 : 0 ≤ other ∧ other < 16) (hm : 2 ≤ many ∧ many < 16) : R__law_times [.int many, .int one, .int other] (.ok (.int (times many one other))) := by
  have hb : ∀ x : Int, 0 ≤ x % (many / 2) ∧ x % (many / 2) < 16 := fun x => ⟨Int.emod_nonneg _ (by omega), Int.lt_of_lt_of_le (Int.emod_lt_of_pos _ (by omega)) (by omega)⟩
  refine ⟨rfl, ?_⟩
  unfold w__law_times times
  have a1 := hb (one / 2 + other / 2)
  have a2 := hb (one / 2 + (0 - other / 2))
  walk_at "st"
  split
  · walk_at "st"
  · walk_at "st"
theorem ones_products : Ones w__law_products := by
  unfold w__law_products
  walk_at "ones"
theorem ev_products (s : DlS) (m : Nat) (hv : Vd s) (hm : m = 6 ∨ m = 8) : ∃ (f : List Int → Int) (s' : DlS), R__law_products s [.int m] (.ok (lisD ((sets m 3).map f))) s' ∧ FairF m 3 f ∧ Vd s' := by
  have : ∃ d s', R__law_products s [.int m] (.ok d) s' ∧ (∃ f, d = lisD ((sets m 3).map f) ∧ FairF m 3 f) ∧ Vd s' := by
    refine dRG_of ones_products rfl ?_
    unfold w__law_products
    walk_at "st"
    obtain ⟨rows, s1, c1, c2, c3, hv1⟩ := coll_draw (g := fun i : Nat => D.int i) (step := cStep (TP.nm 2) bYes (eCallG 0 R__law_mixed (aCons (eOf (fRg1 (eVar 1))) aNil)) [SV.gh, SV.fz (D.int m), SV.no, SV.no, SV.no, SV.no, SV.no, SV.no, SV.no, SV.no, SV.no, SV.no]) lisD (fun _ l => Pm m l) Vd (xs := List.range 3) (s := s) hv (by
      intro x hx s hs
      walk_at "ev"
      obtain ⟨l, s2, m1, m2, m3⟩ := ev_mixedI s (ir m) hs (by rw [ir_len]; omega)
      rw [ir_map D.int] at m1
      exact ⟨by omega, _, _, m1, l, rfl, m2, m3⟩)
    have hr := rows_of (by simpa using c2) c3
    refine ⟨_, _, c1, by simp [hr.1], by omega, ?_⟩
    obtain ⟨names, s2, m1, m2, hv2⟩ := ev_mixedI s1 (ir m) hv1 (by rw [ir_len]; omega)
    rw [ir_map D.int] at m1
    refine ⟨_, _, m1, ?_⟩
    walk_at "ev"
    refine ⟨by omega, gw_seq (gw_set (Go.mono (Q := fun d z => ∃ inner, d = lisD inner ∧ Pm m inner ∧ Vd z) ?_ ?_))⟩
    · obtain ⟨v, s3, d1, d2, hv3⟩ := ev_draw s2 3 hv2 (by omega)
      walk_at "ev"
      refine ⟨_, _, d1, ?_⟩
      walk_at "ev"
      by_cases h : 0 < v
      · rw [if_pos h]
        exact ⟨by omega, ir m, (ir_map D.int m).symm, .refl _, hv3⟩
      · rw [if_neg h]
        obtain ⟨inner, s4, i1, i2, hv4⟩ := ev_mixedI s3 (ir m) hv3 (by rw [ir_len]; omega)
        rw [ir_map D.int] at i1
        exact ⟨by omega, _, _, i1, inner, rfl, i2, hv4⟩
    rintro d s3 ⟨inner, rfl, hi, hv3⟩
    obtain ⟨order, s4, o1, o2, hv4⟩ := ev_mixedI s3 [0, 1, 2] hv3 (by decide)
    walk_at "st"
    refine ⟨_, _, o1, ?_⟩
    walk_at "ev"
    walk_at "st"
    have hz : m ^ 3 ≤ 512 := by rcases hm with rfl | rfl <;> decide
    refine ⟨_, ev_settings m 3 (by omega) (by omega) (by omega), ?_⟩
    walk_at "ev"
    have ho : order.Perm (ir 3) := o2
    obtain ⟨x, y, z, rfl⟩ : ∃ x y z, order = [x, y, z] := by
      have := o2.length_eq
      match order, this with
      | [x, y, z], _ => exact ⟨x, y, z, rfl⟩
    have hfair := fair_prods hm hr m2 hi ho
    have m2' : Pm m names := m2
    generalize hf : prods m rows names inner x y z = f at hfair
    have hord : ∀ p ∈ [x, y, z], 0 ≤ p ∧ p < (3 : Int) := fun p hp => by simpa using mem_ir.mp (ho.mem_iff.mp hp)
    refine gm (fun pr env s => Vd s ∧ ∃ (a b c d e : SV), env = [.gh, .fz (.int m), a, .fz (.lst (rows.map lisD)), .fz (lisD names), .fz (lisD inner), .fz (lisD [x, y, z]), .ow (.lst ((pr.map f).map .int)), b, c, d, e]) ⟨hv4, _, _, _, _, _, rfl⟩ ?_ ?_
    · rintro pr t po env s ee ⟨hz', a, b, c, d, e, rfl⟩
      refine ⟨_, rfl, fun De' hn' => ?_⟩
      have ht := sets_mem (by omega) (mem_split ee)
      have hprl : pr.length < 512 := by
        have := congrArg List.length ee
        rw [sets_len] at this
        simp at this
        omega
      walk_at "st"
      have hstep : ∀ p ∈ [x, y, z], 0 ≤ at2 rows t p ∧ at2 rows t p < m := fun p hp => at2_rng hr ht (hord p hp)
      refine ⟨_, _, coll_mapE (g := D.int) (xs := [x, y, z]) D.int (fun p => at2 rows t p) (fun p hp => ?_), ?_⟩
      · walk_at "ev"
        have hp3 := hord p hp
        have hk2 : p.toNat < rows.length := by rw [hr.1]; omega
        have hrk := List.getElem?_eq_getElem hk2
        obtain ⟨c, g1, g2⟩ := ht.get (p := p.toNat) (by omega)
        refine ex_at hp3.1 hrk ?_
        refine ex_at hp3.1 g1 ?_
        walk_at "ev"
        refine ex_at g2.1 ((hr.2 _ (List.getElem_mem hk2)).get g2) ?_
        unfold at2
        rw [List.getD_eq_getElem?_getD, hrk, show lk t p = c by rw [lk, List.getD_eq_getElem?_getD, g1]; rfl]
        rfl
      · walk_at "ev"
        have hx := hstep x (by simp)
        have hy := hstep y (by simp)
        have hz := hstep z (by simp)
        have t1 := times_rng hm (at2 rows t y) (at2 rows t z)
        have i1 := hi.inj.1 _ t1.1 t1.2
        have t2 := times_rng hm (at2 rows t x) (lk inner (times m (at2 rows t y) (at2 rows t z)))
        refine ⟨by omega, gw_app rfl (by simp [PySem.sizeLine_eq]; omega) ?_⟩
        walk_at "ev"
        refine ⟨_, ev_times m _ _ (by omega) (by omega) (by omega), ?_⟩
        refine ex_at t1.1 (hi.get t1) ?_
        refine ⟨_, ev_times m _ _ (by omega) (by omega) (by omega), ?_⟩
        refine ex_at t2.1 (m2'.get t2) ?_
        have e2 : f t = lk names (times m (at2 rows t x) (lk inner (times m (at2 rows t y) (at2 rows t z)))) := by rw [← hf]; rfl
        simp only [List.map_append, List.map_cons, List.map_nil, e2] at hn'
        exact hn' _ _ ⟨hz', _, _, _, _, _, rfl⟩
    · rintro env s ⟨hz, a, b, c, d, e, rfl⟩
      refine gw_fz rfl ?_
      walk_at "st"
      exact ⟨⟨f, rfl, hfair⟩, hz⟩
  obtain ⟨d, s', h1, ⟨v, rfl, h2⟩, h3⟩ := this
  exact ⟨v, s', h1, h2, h3⟩
theorem ones_board : Ones w__law_board := by
  unfold w__law_board
  walk_at "ones"
/-- what a drawn board is -/
structure Brd (m n : Nat) (f : List Int → Int) : Prop where
  hm : 2 ≤ m ∧ m ≤ 8
  hn : 1 ≤ n ∧ n ≤ 4
  hz : m ^ n ≤ 520
  fair : FairF m n f
theorem ev_board (s : DlS) (hv : Vd s) : ∃ (m n : Nat) (f : List Int → Int) (s' : DlS), R__law_board s [] (.ok (.tup [.int m, .int n, lisD ((sets m n).map f)])) s' ∧ Brd m n f ∧ Vd s' := by
  have : ∃ d s', R__law_board s [] (.ok d) s' ∧ (∃ (m n : Nat) (f : List Int → Int), d = .tup [.int m, .int n, lisD ((sets m n).map f)] ∧ Brd m n f) ∧ Vd s' := by
    refine dRG_of ones_board rfl ?_
    unfold w__law_board
    walk_at "st"
    obtain ⟨kind, s1, d1, d2, hv1⟩ := ev_draw s 7 hv (by omega)
    refine ⟨_, _, d1, ?_⟩
    walk_at "ev"
    walk_at "st"
    by_cases k3 : kind < 3
    · rw [if_pos k3]
      by_cases k0 : kind = 0
      · walk_at "st"
        walk_at "st"
        obtain ⟨f, s2, e1, e2, hv2⟩ := ev_two_bits s1 4 hv1 (by omega)
        refine ⟨_, _, e1, ?_⟩
        walk_at "st"
        exact ⟨⟨4, 4, f, rfl, by omega, by omega, by decide, e2⟩, hv2⟩
      · walk_at "st"
        walk_at "st"
        obtain ⟨f, s2, e1, e2, hv2⟩ := ev_two_bits s1 3 hv1 (by omega)
        refine ⟨_, _, e1, ?_⟩
        walk_at "st"
        exact ⟨⟨4, 3, f, rfl, by omega, by omega, by decide, e2⟩, hv2⟩
    · rw [if_neg k3]
      walk_at "st"
      by_cases k4 : kind = 3
      · rw [if_pos k4]
        walk_at "st"
        obtain ⟨many, s2, p1, p2, hv2⟩ := ev_pick D.int s1 [6, 6, 8] hv1 (by decide)
        refine ⟨_, _, p1, ?_⟩
        walk_at "ev"
        walk_at "st"
        have hm : ∃ m : Nat, many = m ∧ (m = 6 ∨ m = 8) := by
          simp only [List.mem_cons, List.not_mem_nil, or_false] at p2
          rcases p2 with rfl | rfl | rfl
          · exact ⟨6, rfl, .inl rfl⟩
          · exact ⟨6, rfl, .inl rfl⟩
          · exact ⟨8, rfl, .inr rfl⟩
        obtain ⟨m, rfl, hm⟩ := hm
        obtain ⟨f, s3, e1, e2, hv3⟩ := ev_products s2 m hv2 hm
        refine ⟨_, _, e1, ?_⟩
        walk_at "st"
        exact ⟨⟨m, 3, f, rfl, by omega, by omega, by rcases hm with rfl | rfl <;> decide, e2⟩, hv3⟩
      · rw [if_neg k4]
        walk_at "st"
        obtain ⟨v, s2, v1, v2, hv2⟩ := ev_draw s1 5 hv1 (by omega)
        refine ⟨_, _, v1, ?_⟩
        walk_at "ev"
        obtain ⟨u, s3, u1, u2, hv3⟩ := ev_draw s2 3 hv2 (by omega)
        refine ⟨_, _, u1, ?_⟩
        walk_at "ev"
        obtain ⟨m, hm, hm2⟩ : ∃ m : Nat, 2 + v = m ∧ 2 ≤ m ∧ m ≤ 6 := ⟨(2 + v).toNat, by omega, by omega⟩
        obtain ⟨n, hn, hn2⟩ : ∃ n : Nat, 1 + u = n ∧ 1 ≤ n ∧ n ≤ 3 := ⟨(1 + u).toNat, by omega, by omega⟩
        rw [hm, hn]
        walk_at "st"
        rw [show ((n : Int) + 1).toNat = n + 1 by omega]
        obtain ⟨rows, s4, c1, c2, c3, hv4⟩ := coll_draw (g := fun i : Nat => D.int i) (step := cStep (TP.nm 4) bYes (eCallG 0 R__law_mixed (aCons (eOf (fRg1 (eVar 3))) aNil)) [SV.gh, SV.fz (D.int kind), SV.fz (D.int n), SV.fz (D.int m), SV.no, SV.no, SV.no, SV.no, SV.no, SV.no]) lisD (fun _ l => Pm m l) Vd (xs := List.range (n + 1)) (s := s3) hv3 (by
          intro x hx s hs
          walk_at "ev"
          obtain ⟨l, s2, m1, m2, m3⟩ := ev_mixedI s (ir m) hs (by rw [ir_len]; omega)
          rw [ir_map D.int] at m1
          exact ⟨by omega, _, _, m1, l, rfl, m2, m3⟩)
        have hr0 := rows_of (by simpa using c2) c3
        refine ⟨_, _, c1, by simp [hr0.1]; omega, ?_⟩
        walk_at "st"
        have hz : m ^ n ≤ 216 := Nat.le_trans (Nat.pow_le_pow_right (by omega) hn2.2) (Nat.le_trans (Nat.pow_le_pow_left hm2.2 3) (by decide))
        refine ⟨_, ev_settings m n (by omega) (by omega) (by omega), ?_⟩
        walk_at "ev"
        obtain ⟨rs, names, rfl, hr, hnm⟩ : ∃ rs names, rows = rs ++ [names] ∧ Rows m n rs ∧ Pm m names := by
          have hne : rows ≠ [] := fun e => by have := hr0.1; rw [e] at this; simp at this
          refine ⟨rows.dropLast, rows.getLast hne, (List.dropLast_concat_getLast hne).symm, ⟨by rw [List.length_dropLast, hr0.1]; omega, fun r hr => hr0.2 r (List.dropLast_subset _ hr)⟩, hr0.2 _ (List.getLast_mem hne)⟩
        have hfair := fair_sumB (by omega) hr hnm
        have hsl : (sets m n).length ≤ 216 := by rw [sets_len]; exact hz
        refine ⟨_, _, coll_mapE D.int (fun t => rsum rs t) (fun t ht => ?_), ?_⟩
        · have ht := sets_mem (by omega) ht
          have hlr : (rs ++ [names]).length = n + 1 := hr0.1
          walk_at "ev"
          rw [enumD_map]
          refine ⟨_, _, coll_mapE D.int (fun p => lk ((rs ++ [names]).getD p.2 []) p.1) (fun p hp => ?_), ?_⟩
          · obtain ⟨c, k⟩ := p
            have hk : k < n := by have := List.snd_lt_of_mem_zipIdx hp; rw [← ht.1]; omega
            have hc := ht.2 c (List.fst_mem_of_mem_zipIdx hp)
            have hk2 : k < (rs ++ [names]).length := by omega
            have hrk := List.getElem?_eq_getElem hk2
            walk_at "ev"
            refine ⟨_, at_nat (by rw [List.getElem?_map, hrk]; rfl), ?_⟩
            walk_at "ev"
            refine ex_at hc.1 ((hr0.2 _ (List.getElem_mem hk2)).get hc) ?_
            simp only [List.getD_eq_getElem?_getD, hrk, Option.getD_some]
          · have hzl : (t.zipIdx).length ≤ 3 := by rw [List.length_zipIdx, ht.1]; exact hn2.2
            refine ⟨by simp only [List.length_map]; omega, ?_⟩
            walk_at "ev"
            rw [rsum_idx _ t 0 (by rw [hlr, ht.1]; omega), List.drop_zero, rsum_app rs t _ (by rw [ht.1, hr.1])]
        · refine ⟨by simp only [List.length_map]; omega, ?_⟩
          walk_at "st"
          refine ⟨_, _, coll_mapE D.int (fun x => lk names (x % m)) (fun x hx => ?_), ?_⟩
          · have hxm : 0 ≤ x % m ∧ x % m < m := ⟨Int.emod_nonneg _ (by omega), Int.emod_lt_of_pos _ (by omega)⟩
            walk_at "ev"
            refine ⟨_, at_nat (by rw [List.getElem?_map, List.getElem?_append_right (by rw [hr.1]; exact Nat.le_refl _), hr.1]; simp; rfl), ?_⟩
            walk_at "st"
            exact ex_at hxm.1 (hnm.get hxm) rfl
          · refine ⟨by simp only [List.length_map]; omega, ?_⟩
            walk_at "st"
            refine ⟨⟨m, n, _, ?_, by omega, by omega, by omega, hfair⟩, hv4⟩
            simp [lisD, sumB]
  obtain ⟨d, s', h1, ⟨m, n, f, rfl, h2⟩, h3⟩ := this
  exact ⟨m, n, f, s', h1, h2, h3⟩
end K82
namespace K82
open PySem PySem.Spec PyProof.Rows L2 Pl RT Mt
local macro_rules | `(tactic| walk_at "ev") => `(tactic| try simp only [go_C, go_var, go_bin, go_un, go_and, go_or, go_not, go_tB1, go_if, go_bAnd, go_bOr, go_bNot, go_yes, go_nil, go_cons, go_tup, go_lst, Pl.go_of, go_Ca, go_fCa, go_fld, go_call, go_callKw, go_callG, go_lOf, go_lOwn, go_ixL, go_bor, go_bBor, go_sl, go_oNo, go_oSome, go_tupRev, go_revL, go_it, go_lc, go_cStep, go_cStep2, go_chain, go_mNil, go_mFz, go_mOw, go_rep, go_rg1, go_make, go_lenO, go_callO, go_dgetO, go_dinO, go_dicK, go_dicT, go_idx, go_eLam, go_eLamM, go_callPk, ex_inTups, ex_repT, ex_eqNil, ex_eqT, ex_eqL, ex_eqNilTI, ex_neNilTI, ex_sorted, ex_neNilI, ex_neNilT, ex_any, cut_pop, cut_last, ex_ltT, Option.isSome_some, Option.isSome_none, go_d1, go_d0ix, go_d0ne,
  ex_onI, ex_add, ex_eqI, ex_neI, ex_neB, ex_neL, ex_neT, ex_neL1, ex_neL11, List.filterMap_cons, List.filterMap_nil, ex_int1, ex_bl, ex_int, ex_someI, ex_R1, ex_R2, ex_itL, ex_itT, ex_itF, ex_revL, ex_revT, ex_enL, ex_enT, ex_zTL, ex_zTT, ex_zLT, ex_zLL, ex_lenL, ex_lenT, ex_tupL, ex_tupT, ex_lisL, ex_lisT, ex_lstD, ex_lstF, ex_abs, ex_neg, ex_ixL, ex_ixT, ex_slL, ex_slT, ex_slF, ex_addL, ex_addT, ex_isN, ex_notN, ex_sum, ex_inI, ex_inIT, fld_many, fld_sizes, fld_marks, fld_steps, isNon_non, isNon_tup, isNon_lst, isNon_int, isNon_str, isNon_bl, mulC_iff, PySem.sizeLine_eq, decide_true, decide_false, Nat.zero_le, Bool.not_eq_true', decide_eq_false_iff_not, ite_not, dEnd_rt, rtE_rt, gEnd_rt, dEnd_nx, gEnd_nx, or_ite1, or_ite2, or_ite3, or_ite4, onI_bl, isi_ii, isi_ib, isi_tt, isi_Llt, isi_Tlt, Oc.ok.injEq,
  Int.toNat_natCast, Int.zero_add, put_nm, put_tpT, put_tpL, puts_nil, puts_cons, Option.bind_some, OD.d, wipeE, pick, Function.comp_apply,
  env0, List.map_cons, List.map_nil, List.replicate, List.cons_append, List.nil_append, List.set_cons_succ, List.set_cons_zero, List.getElem?_cons_zero, List.getElem?_cons_succ, Option.some.injEq, SV.fz.injEq, SV.ow.injEq, OD.lst.injEq, exists_eq_left', exists_eq_left, exists_and_left, exists_eq', true_and, and_true, D.bl.injEq, D.int.injEq, D.lst.injEq, D.tup.injEq, reduceCtorEq, false_and, and_false, or_false, false_or, if_true, if_false, Bool.false_eq_true, Bool.not_true, Bool.not_false, reduceIte, decide_eq_true_eq, List.length_cons, List.length_nil, List.length_map, List.length_range, setsE])
local macro_rules | `(tactic| walk_at "st") => `(tactic| (repeat (first | with_reducible refine gw_seq ?_ | with_reducible refine gw_next ?_ | ((first | with_reducible refine gw_set ?_ | with_reducible refine gw_asg ?_ | with_reducible refine gw_asgF ?_ | with_reducible refine gw_ret ?_ | with_reducible refine gw_retN ?_ | with_reducible refine gw_if ?_ | with_reducible refine gw_for ?_ | with_reducible refine gw_par ?_ | with_reducible refine gw_expr ?_ | rw [if_pos (by omega)] | rw [if_neg (by omega)] | with_reducible refine And.intro (by omega) ?_ | omega); try walk_at "ev"))))
local macro_rules | `(tactic| walk_at "ones") => `(tactic| repeat (first | with_reducible apply ones_seq | with_reducible apply ones_while | with_reducible apply ones_for | with_reducible apply ones_if | with_reducible apply ones_asg | with_reducible apply ones_asgF | with_reducible apply ones_fz | with_reducible apply ones_par | with_reducible apply ones_app | with_reducible apply ones_ext | with_reducible apply ones_appPop | with_reducible apply ones_put | with_reducible apply ones_dput | with_reducible apply ones_d0pop | with_reducible apply ones_d0popTo | with_reducible apply ones_d0app | with_reducible apply ones_d1set | with_reducible apply ones_ret | with_reducible apply ones_retN | with_reducible apply ones_next | with_reducible apply ones_break | with_reducible apply ones_cont | with_reducible apply ones_never | with_reducible apply ones_expr))
local macro_rules | `(tactic| walk_at "sz") => `(tactic| first | omega | (simp; done) | (simp; omega))
abbrev tupD (xs : List Int) : D := .tup (xs.map .int)
abbrev bdf (C : Addr) (m n : Nat) (f : List Int → Int) : D := bdD C m n ((sets m n).map f)
/-- the parts of a lot -/
def lotL (n : Nat) (P : Nat → Bool) : List Int := ((List.range n).filter P).map fun i : Nat => (i : Int)
theorem lotL_mem {n : Nat} {P : Nat → Bool} {p : Nat} : (p : Int) ∈ lotL n P ↔ p < n ∧ P p = true := by
  simp only [lotL, List.mem_map, List.mem_filter, List.mem_range]
  constructor
  · rintro ⟨q, h, e⟩
    have : q = p := by omega
    exact this ▸ h
  · exact fun h => ⟨p, h, rfl⟩
theorem ev_rest_of (C : Addr) (m n : Nat) (f : List Int → Int) (P : Nat → Bool) (hn : n ≤ 8) : R_rest_of C [bdf C m n f, tupD (lotL n P)] (.ok (tupD (lotL n fun p => !P p))) := by
  refine ⟨rfl, ?_⟩
  unfold w_rest_of
  walk_at "st"
  refine ⟨rfl, _, ev_len C m n _, by omega, by omega, by omega, _, _, coll_fltE D.int (fun p : Nat => !P p) (fun p : Nat => (p : Int)) (fun p hp => ?_), ?_⟩
  · rw [Int.toNat_natCast] at hp
    have hp := List.mem_range.mp hp
    walk_at "ev"
    by_cases h : P p = true
    · rw [if_pos (lotL_mem.mpr ⟨hp, h⟩), if_neg (by simp [h])]
      walk_at "ev"
    · rw [if_neg (fun z => h (lotL_mem.mp z).2), if_pos (by simp [h])]
      walk_at "ev"
  · have hl := List.length_filter_le (fun p : Nat => !P p) (List.range n)
    rw [List.length_range] at hl
    walk_at "ev"
    refine ⟨by omega, ?_⟩
    rfl
theorem lotL_get {n : Nat} {P : Nat → Bool} {k : Nat} {x : Int} (h : (lotL n P)[k]? = some x) : ∃ p : Nat, x = p ∧ p < n ∧ P p = true ∧ ∀ q : Nat, ((q : Int) ∈ (lotL n P).take (k + 1) ↔ (q : Int) ∈ (lotL n P).take k ∨ q = p) ∧ ((q : Int) ∈ (lotL n P).take k → q < p) := by
  unfold lotL at h ⊢
  rw [List.getElem?_map] at h
  obtain ⟨p, hp, rfl⟩ := Option.map_eq_some_iff.mp h
  obtain ⟨hk, e⟩ := List.getElem?_eq_some_iff.mp hp
  have hm := List.mem_of_getElem? hp
  rw [List.mem_filter, List.mem_range] at hm
  refine ⟨p, rfl, hm.1, hm.2, fun q => ?_⟩
  rw [← List.map_take, ← List.map_take]
  have inj : ∀ l : List Nat, ((q : Int) ∈ l.map fun i : Nat => (i : Int)) ↔ q ∈ l := fun l => by
    rw [List.mem_map]
    constructor
    · rintro ⟨a, ha, e⟩
      have : a = q := by omega
      exact this ▸ ha
    · exact fun h => ⟨q, h, rfl⟩
  rw [inj, inj]
  constructor
  · rw [List.take_succ_eq_append_getElem hk, e]
    simp
  · intro hq
    have hs : ((List.range n).filter P).Pairwise (· < ·) := List.pairwise_lt_range.filter P
    obtain ⟨j, hj⟩ := List.mem_iff_getElem?.mp hq
    obtain ⟨hj1, hj2⟩ := List.getElem?_eq_some_iff.mp hj
    rw [List.length_take] at hj1
    rw [List.getElem_take] at hj2
    rw [← hj2, ← e]
    exact List.pairwise_iff_getElem.mp hs j k (by omega) hk (by omega)
theorem ev_lot_places (C : Addr) (m n : Nat) (f : List Int → Int) (P : Nat → Bool) (hm : 2 ≤ m ∧ m ≤ 8) (hn : n ≤ 8) (hz : m ^ n ≤ 20000) : R_lot_places C [bdf C m n f, tupD (lotL n P)] (.ok (tupD ((vecs m (bits n P)).map (num m)))) := by
  refine ⟨rfl, ?_⟩
  unfold w_lot_places
  walk_at "st"
  have b0 : (vecs m (bits n fun p => decide ((p : Int) ∈ (lotL n P).take 0))).map (num m) = [0] := by
    have : bits n (fun p => decide ((p : Int) ∈ (lotL n P).take 0)) = List.replicate n false := by
      refine List.eq_replicate_iff.mpr ⟨bits_len _ _, fun b hb => ?_⟩
      simp [bits] at hb
      exact hb.2
    rw [this, vecs_false, List.map_cons, List.map_nil, num_zero]
  have hpow : ∀ bs : List Bool, bs.length = n → (vecs m bs).length ≤ 20000 := by
    intro bs hbs
    have : ∀ bs : List Bool, (vecs m bs).length ≤ m ^ bs.length := by
      intro bs
      induction bs with
      | nil => simp [vecs]
      | cons b bs ih =>
        simp only [vecs, List.length_flatMap, List.length_map]
        rw [List.map_const', List.sum_replicate_nat, List.length_cons, Nat.pow_succ, Nat.mul_comm]
        refine Nat.mul_le_mul ih ?_
        cases b <;> simp [ir_len]; omega
    exact Nat.le_trans (this bs) (hbs ▸ hz)
  refine gi (g := D.int) (xs := lotL n P) (fun k env _ => ∃ a b c d, env = [.fz (bdf C m n f), .fz (tupD (lotL n P)), .fz (lisD ((vecs m (bits n fun p => decide ((p : Int) ∈ (lotL n P).take k))).map (num m))), a, b, c, d]) ⟨_, _, _, _, by rw [b0]; rfl⟩ ?_ ?_
  · rintro k x env s hx ⟨a, b, c, d, rfl⟩
    refine ⟨_, rfl, fun De' hn' => ?_⟩
    obtain ⟨p, rfl, hp, hP, hq⟩ := lotL_get hx
    have hpp : m ^ (n - 1 - p) ≤ 20000 := Nat.le_trans (Nat.pow_le_pow_right (by omega) (by omega)) hz
    have hbits : (bits n fun q => decide ((q : Int) ∈ (lotL n P).take (k + 1))) = (bits n fun q => decide ((q : Int) ∈ (lotL n P).take k)).set p true := by
      apply List.ext_getElem?
      intro j
      by_cases hj : j < n
      · rw [bits_get hj]
        by_cases e : p = j
        · subst e
          rw [List.getElem?_set_self (by rw [bits_len]; exact hp)]
          simp [(hq p).1]
        · rw [List.getElem?_set_ne e, bits_get hj]
          simp only [Option.some.injEq, decide_eq_decide]
          rw [(hq j).1]
          constructor
          · exact fun h => h.resolve_right fun z => e z.symm
          · exact .inl
      · rw [List.getElem?_eq_none (by rw [bits_len]; omega), List.getElem?_eq_none (by rw [List.length_set, bits_len]; omega)]
    have hstep := vecs_step m (bits n fun q => decide ((q : Int) ∈ (lotL n P).take k)) p (by rw [bits_len]; exact hp) (fun j hj => by
      by_cases hjn : j < n
      · rw [bits_get hjn]
        simp only [ne_eq, Option.some.injEq, decide_eq_true_eq]
        exact fun z => by have := (hq j).2 z; omega
      · rw [List.getElem?_eq_none (by rw [bits_len]; omega)]; simp)
    rw [hbits] at hn'
    walk_at "st"
    refine ex_at (x := ((m ^ (n - 1 - p) : Nat) : Int)) (by omega) (by simp [hp]) ?_
    walk_at "st"
    rw [bits_len] at hstep
    have hlen1 := hpow ((bits n fun q => decide ((q : Int) ∈ (lotL n P).take k)).set p true) (by rw [List.length_set, bits_len])
    rw [← List.length_map (f := num m), ← hstep] at hlen1
    refine ⟨_, _, coll_fm (g := D.int) (h := fun y => ((ir m).map fun c => y + (m ^ (n - 1 - p) : Nat) * c).map D.int) (fun y hy => ?_), ?_⟩
    · walk_at "ev"
      refine ex_at (x := (m : Int)) (by omega) (by simp [hp]) ?_
      walk_at "ev"
      refine ⟨by omega, _, _, coll_mapE D.int (fun c : Nat => y + (m ^ (n - 1 - p) : Nat) * (c : Int)) (fun c hc => ?_), ?_⟩
      · have hc := List.mem_range.mp hc
        walk_at "ev"
        omega
      · rw [ir_map]
    · rw [← List.map_flatMap, List.flatMap_map]
      rw [hstep] at hlen1 ⊢
      refine ⟨by rw [List.length_map]; rw [List.length_map] at hlen1; simp only [List.length_map]; omega, hn' _ _ ⟨_, _, _, _, rfl⟩⟩
  · rintro env s ⟨a, b, c, d, rfl⟩
    have e : (bits n fun p => decide ((p : Int) ∈ (lotL n P).take (lotL n P).length)) = bits n P := by
      unfold bits
      refine List.map_congr_left fun p hp => ?_
      rw [List.take_length]
      have hp := List.mem_range.mp hp
      by_cases h : P p = true
      · rw [h, decide_eq_true (lotL_mem.mpr ⟨hp, h⟩)]
      · rw [decide_eq_false (fun z => h (lotL_mem.mp z).2)]; simpa using h
    rw [e]
    walk_at "st"
/-- what lies beside -/
theorem zip_val {m n : Nat} {P : Nat → Bool} (hm : 0 < m) {t u : List Int} (ht : t ∈ vecs m (bits n P)) (hu : u ∈ vecs m (bits n fun p => !P p)) : Val m n (List.zipWith (· + ·) t u) := by
  have vt := vecs_val hm ht
  have vu := vecs_val hm hu
  rw [bits_len] at vt vu
  refine ⟨by rw [List.length_zipWith, vt.1, vu.1, Nat.min_self], fun c hc => ?_⟩
  obtain ⟨p, hp⟩ := List.mem_iff_getElem?.mp hc
  rw [List.getElem?_zipWith] at hp
  split at hp
  · rename_i a b ha hb
    have hpn : p < n := by rw [← vt.1]; exact (List.getElem?_eq_some_iff.mp ha).1
    have ra := vt.2 a (List.mem_of_getElem? ha)
    have rb := vu.2 b (List.mem_of_getElem? hb)
    cases h : P p with
    | true =>
      have := vecs_zero (p := p) hu (by rw [bits_get hpn, h]; rfl)
      rw [hb] at this
      cases this
      cases hp
      omega
    | false =>
      have := vecs_zero (p := p) ht (by rw [bits_get hpn, h])
      rw [ha] at this
      cases this
      cases hp
      omega
  · cases hp
theorem ev_lot_marks (C : Addr) (m n : Nat) (f : List Int → Int) (P : Nat → Bool) (hm : 2 ≤ m ∧ m ≤ 8) (hn : n ≤ 8) (hz : m ^ n ≤ 20000) :
    R_lot_marks C [bdf C m n f, tupD (lotL n P)] (.ok (.tup ((vecs m (bits n P)).map fun t => tupD ((vecs m (bits n fun p => !P p)).map fun u => f (List.zipWith (· + ·) t u))))) := by
  have hpow : ∀ bs : List Bool, bs.length = n → (vecs m bs).length ≤ 20000 := by
    intro bs hbs
    have : ∀ bs : List Bool, (vecs m bs).length ≤ m ^ bs.length := by
      intro bs
      induction bs with
      | nil => simp [vecs]
      | cons b bs ih =>
        simp only [vecs, List.length_flatMap, List.length_map]
        rw [List.map_const', List.sum_replicate_nat, List.length_cons, Nat.pow_succ, Nat.mul_comm]
        refine Nat.mul_le_mul ih ?_
        cases b <;> simp [ir_len]; omega
    exact Nat.le_trans (this bs) (hbs ▸ hz)
  refine ⟨rfl, ?_⟩
  unfold w_lot_marks
  walk_at "st"
  refine ⟨_, ev_rest_of C m n f P hn, _, ev_lot_places C m n f _ hm hn hz, ?_⟩
  walk_at "st"
  refine ⟨_, ev_lot_places C m n f P hm hn hz, ?_⟩
  walk_at "ev"
  rw [List.map_map]
  have h1 := hpow (bits n P) (bits_len _ _)
  have h2 := hpow (bits n fun p => !P p) (bits_len _ _)
  refine ⟨_, _, coll_map (h := fun t => tupD ((vecs m (bits n fun p => !P p)).map fun u => f (List.zipWith (· + ·) t u))) (fun t ht => ?_), ?_⟩
  · walk_at "ev"
    rw [List.map_map]
    refine ⟨_, _, coll_mapE D.int (fun u => f (List.zipWith (· + ·) t u)) (fun u hu => ?_), ?_⟩
    · have hv := zip_val (by omega) ht hu
      have vt := vecs_val (by omega) ht
      have vu := vecs_val (by omega) hu
      walk_at "ev"
      rw [← num_add m t u (by rw [vt.1, vu.1, bits_len, bits_len])]
      exact ex_at (x := f (List.zipWith (· + ·) t u)) (num_lt hv).1 (by rw [List.getElem?_map, sets_get hv]; rfl) rfl
    · walk_at "ev"
      omega
  · walk_at "ev"
    omega
/-- all parts but one -/
theorem lot_one {n p : Nat} (hp : p < n) : lotL n (fun q => decide (q = p)) = [(p : Int)] := by
  unfold lotL
  rw [Mt.filter_one (a := p) List.nodup_range (List.mem_range.mpr hp) (fun x _ => by simp)]
  rfl
theorem bits_one {n p : Nat} (hp : p < n) : bits n (fun q => decide (q = p)) = (List.replicate n false).set p true := by
  apply List.ext_getElem?
  intro j
  by_cases hj : j < n
  · rw [bits_get hj]
    by_cases e : p = j
    · subst e
      rw [List.getElem?_set_self (by simp; exact hp)]; simp
    · rw [List.getElem?_set_ne e]
      simp [hj, Ne.symm e]
  · rw [List.getElem?_eq_none (by rw [bits_len]; omega), List.getElem?_eq_none (by simp; omega)]
theorem ev_part_lines (C : Addr) (m n p : Nat) (f : List Int → Int) (hp : p < n) (hm : 2 ≤ m ∧ m ≤ 8) (hn : n ≤ 8) (hz : m ^ n ≤ 20000) :
    R_part_lines C [bdf C m n f, .int p] (.ok (.tup ((base m n p).map fun t => tupD (line m f p t)))) := by
  refine ⟨rfl, ?_⟩
  unfold w_part_lines
  walk_at "st"
  have h1 := ev_rest_of C m n f (fun q => decide (q = p)) hn
  rw [lot_one hp] at h1
  refine ⟨_, h1, _, ev_lot_marks C m n f _ hm hn hz, ?_⟩
  have e1 : (fun q : Nat => !decide (q = p)) = fun q => decide (q ≠ p) := by funext q; simp
  have e2 : (fun q : Nat => !!decide (q = p)) = fun q => decide (q = p) := by funext q; simp
  walk_at "ev"
  rw [e1, e2, bits_one hp, vecs_one m n p hp]
  refine List.map_congr_left fun t ht => ?_
  obtain ⟨v, h0⟩ := base_val (by omega) hp ht
  unfold line tupD
  congr 2
  rw [List.map_map]
  refine List.map_congr_left fun c _ => ?_
  have := zip_set t p c h0
  rw [v.1] at this
  simp only [Function.comp_apply, this]
/-- what is met -/
def MetOk (ks : List Key) (ds : List D) (l : List Int) : Prop := ks.length = ds.length ∧ ks.length ≤ l.length ∧ ∀ x : Int, (x ∈ l → ∃ v : Int, dGetK ks ds (.inl x) = some (.int v)) ∧ (x ∉ l → dGetK ks ds (.inl x) = none)
theorem dget_none {κ : Type} [DecidableEq κ] : ∀ {ks : List κ} {ds : List D} {k : κ}, ks.length = ds.length → dGetK ks ds k = none → k ∉ ks
  | [], _, _, _, _ => by simp
  | k' :: ks, [], _, h, _ => by simp at h
  | k' :: ks, d :: ds, k, h, e => by
    by_cases c : k' = k
    · simp [dGetK, c] at e
    · simp only [dGetK, if_neg c] at e
      simp only [List.mem_cons, not_or]
      exact ⟨Ne.symm c, dget_none (by simpa using h) e⟩
theorem dget_app {κ : Type} [DecidableEq κ] : ∀ {ks : List κ} {ds : List D} {k k' : κ} {x : D}, ks.length = ds.length → k ∉ ks → dGetK (ks ++ [k]) (ds ++ [x]) k' = if k = k' then some x else dGetK ks ds k'
  | [], [], k, k', x, _, _ => by simp [dGetK]
  | [], _ :: _, _, _, _, h, _ => by simp at h
  | _ :: _, [], _, _, _, h, _ => by simp at h
  | a :: ks, d :: ds, k, k', x, h, hn => by
    simp only [List.mem_cons, not_or] at hn
    have ih := dget_app (k' := k') (x := x) (show ks.length = ds.length by simpa using h) hn.2
    simp only [List.cons_append, dGetK, ih]
    by_cases c : a = k'
    · have : k ≠ k' := fun z => hn.1 (z.trans c.symm)
      simp [c, this]
    · simp [c]
theorem MetOk.put {ks : List Key} {ds : List D} {l : List Int} {x v : Int} (h : MetOk ks ds l) (hx : x ∉ l) : ∃ ks' ds', putKD ks ds (.inl x) (.int v) = (ks', ds') ∧ MetOk ks' ds' (l ++ [x]) := by
  have hn : (Sum.inl x : Key) ∉ ks := dget_none h.1 ((h.2.2 x).2 hx)
  refine ⟨_, _, by rw [putKD, if_neg hn], ?_⟩
  refine ⟨by simp [h.1], by simp [h.2.1], fun y => ?_⟩
  rw [dget_app h.1 hn]
  by_cases c : x = y
  · subst c
    simp
  · have c1 : (Sum.inl x : Key) ≠ Sum.inl y := fun z => c (Sum.inl.inj z)
    rw [if_neg c1]
    simp only [List.mem_append, List.mem_singleton]
    exact ⟨fun h1 => (h.2.2 y).1 (h1.resolve_right fun z => c z.symm), fun h1 => (h.2.2 y).2 fun z => h1 (.inl z)⟩
theorem ones_twice_fault {C : Addr} : Ones (w_twice_fault C) := by
  unfold w_twice_fault
  walk_at "ones"
/-- what is found -/
def Fnd (d : D) (b : Prop) : Prop := (d = .non ∧ b) ∨ ∃ a c : Int, d = .tup [.int a, .int c] ∧ ¬ b
theorem ev_twice_fault (C : Addr) (m n p : Nat) (f : List Int → Int) (hp : p < n) (hm : 2 ≤ m ∧ m ≤ 8) (hn : n ≤ 8) (hz : m ^ n ≤ 20000) :
    ∃ d, R_twice_fault C [bdf C m n f, .int p] (.ok d) ∧ Fnd d (∀ t ∈ base m n p, (line m f p t).Nodup) := by
  refine dR_of ones_twice_fault rfl ?_
  unfold w_twice_fault
  walk_at "st"
  have h1 := ev_rest_of C m n f (fun q => decide (q = p)) hn
  rw [lot_one hp] at h1
  have e1 : (fun q : Nat => !decide (q = p)) = fun q => decide (q ≠ p) := by funext q; simp
  rw [e1] at h1
  refine ⟨_, h1, _, ev_lot_places C m n f _ hm hn hz, ?_⟩
  walk_at "st"
  refine ⟨_, ev_part_lines C m n p f hp hm hn hz, ?_⟩
  walk_at "ev"
  rw [List.map_map]
  change forL _ _ _ (zipD ((base m n p).map (D.int ∘ num m)) _) _ _
  rw [zipD_same]
  generalize hpl : SV.fz (D.tup ((base m n p).map (D.int ∘ num m))) = places
  have hpw : ∀ q, m ^ (n - 1 - q) ≤ 20000 := fun q => Nat.le_trans (Nat.pow_le_pow_right (by omega) (by omega)) hz
  refine gm (fun pr env _ => ∃ found a b c d e g, Fnd found (∀ t ∈ pr, (line m f p t).Nodup) ∧ env = [.fz (bdf C m n f), .fz (.int p), .fz found, places, a, b, c, d, e, g]) ⟨.non, .no, .no, .no, .no, .no, .no, .inl ⟨rfl, fun t ht => by cases ht⟩, by rw [← hpl, ← List.map_map]; rfl⟩ ?_ ?_
  · rintro pr t po env s ee ⟨found, a, b, c, d, e, g, hF, rfl⟩
    refine ⟨_, rfl, fun De' hn' => ?_⟩
    walk_at "st"
    generalize hL : line m f p t = L at *
    have hLl : L.length ≤ 8 := by rw [← hL, line, List.length_map, ir_len]; exact hm.2
    refine ge (fun k env _ => ∃ found ks ds a b c, Fnd found ((∀ t ∈ pr, (line m f p t).Nodup) ∧ (L.take k).Nodup) ∧ MetOk ks ds (L.take k) ∧ env = [.fz (bdf C m n f), .fz (.int p), .fz found, places, .fz (.int (num m t)), .fz (tupD L), .ow (.dic ks ds), a, b, c]) ?_ ?_ ?_
    · refine ⟨found, [], [], d, e, g, ?_, ⟨rfl, Nat.le_refl _, fun x => ⟨fun h => by simp at h, fun _ => rfl⟩⟩, rfl⟩
      rcases hF with ⟨h1, h2⟩ | ⟨a, c, h1, h2⟩
      · exact .inl ⟨h1, h2, by simp⟩
      · exact .inr ⟨a, c, h1, fun z => h2 z.1⟩
    · rintro k x env s hx ⟨found, ks, ds, a, b, c, hF, hM, rfl⟩
      refine ⟨_, rfl, fun De' hn' => ?_⟩
      obtain ⟨hk, hxe⟩ := List.getElem?_eq_some_iff.mp hx
      have htk : L.take (k + 1) = L.take k ++ [x] := by rw [List.take_succ_eq_append_getElem hk, hxe]
      rw [htk] at hn'
      walk_at "st"
      by_cases hin : x ∈ L.take k
      · obtain ⟨v, hv⟩ := (hM.2.2 x).1 hin
        have hnn : ¬ (L.take k ++ [x]).Nodup := by
          rw [List.nodup_append]
          rintro ⟨_, _, h⟩
          exact h x hin x (by simp) rfl
        have hM' : MetOk ks ds (L.take k ++ [x]) := by
          refine ⟨hM.1, by rw [List.length_append]; have := hM.2.1; omega, fun y => ?_⟩
          have e : y ∈ L.take k ++ [x] ↔ y ∈ L.take k := by
            rw [List.mem_append, List.mem_singleton]
            exact ⟨fun h => h.elim id fun z => z ▸ hin, .inl⟩
          rw [e]
          exact hM.2.2 y
        refine ⟨_, rfl, ?_⟩
        rw [hv]
        walk_at "ev"
        walk_at "st"
        refine ex_at (x := ((m ^ (n - 1 - p) : Nat) : Int)) (by omega) (by simp [hp]) ?_
        refine ⟨_, congrArg some hv, ?_⟩
        have hpp := hpw p
        walk_at "ev"
        walk_at "st"
        rcases hF with ⟨rfl, h2⟩ | ⟨a1, c1, rfl, h2⟩
        · walk_at "ev"
          exact hn' _ _ ⟨_, _, _, _, _, _, .inr ⟨_, _, rfl, fun z => hnn z.2⟩, hM', rfl⟩
        · walk_at "ev"
          have hno : ¬ ((∀ t ∈ pr, (line m f p t).Nodup) ∧ (L.take k ++ [x]).Nodup) := fun z => hnn z.2
          split
          · exact hn' _ _ ⟨_, _, _, _, _, _, .inr ⟨_, _, rfl, hno⟩, hM', rfl⟩
          · exact hn' _ _ ⟨_, _, _, _, _, _, .inr ⟨_, _, rfl, hno⟩, hM', rfl⟩
      · refine ⟨_, rfl, ?_⟩
        rw [(hM.2.2 x).2 hin]
        walk_at "ev"
        obtain ⟨ks', ds', hp1, hp2⟩ := hM.put (v := k) hin
        refine gw_dput rfl ?_
        walk_at "ev"
        refine ⟨.dic ks' ds', by show some (OD.dic (putKD ks ds (.inl x) (.int k)).1 (putKD ks ds (.inl x) (.int k)).2) = _; rw [hp1], ?_, hn' _ _ ⟨_, _, _, _, _, _, ?_, hp2, rfl⟩⟩
        · show ks.length < sizeLine
          have h1 := hM.2.1
          rw [List.length_take] at h1
          rw [PySem.sizeLine_eq]
          omega
        · have hnd : (L.take k ++ [x]).Nodup ↔ (L.take k).Nodup := by
            rw [List.nodup_append]
            constructor
            · exact fun h => h.1
            · exact fun h => ⟨h, by simp, fun y hy z hz e => hin (by rw [List.mem_singleton] at hz; rw [← hz, ← e]; exact hy)⟩
          rcases hF with ⟨h1, h2⟩ | ⟨a1, c1, h1, h2⟩
          · exact .inl ⟨h1, h2.1, hnd.mpr h2.2⟩
          · exact .inr ⟨a1, c1, h1, fun z => h2 ⟨z.1, hnd.mp z.2⟩⟩
    · rintro env s ⟨found, ks, ds, a, b, c, hF, hM, rfl⟩
      refine hn' _ _ ⟨_, _, _, _, _, _, _, ?_, rfl⟩
      rw [List.take_length] at hF
      have e : (∀ y ∈ pr ++ [t], (line m f p y).Nodup) ↔ (∀ y ∈ pr, (line m f p y).Nodup) ∧ L.Nodup := by
        constructor
        · exact fun h => ⟨fun y hy => h y (List.mem_append_left _ hy), hL ▸ h t (by simp)⟩
        · rintro ⟨h1, h2⟩ y hy
          rcases List.mem_append.mp hy with hy | hy
          · exact h1 y hy
          · rw [List.mem_singleton.mp hy, hL]; exact h2
      rcases hF with ⟨h1, h2⟩ | ⟨a1, c1, h1, h2⟩
      · exact .inl ⟨h1, e.mpr h2⟩
      · exact .inr ⟨a1, c1, h1, fun z => h2 (e.mp z)⟩
  · rintro env s ⟨found, a, b, c, d, e, g, hF, rfl⟩
    walk_at "st"
theorem ev_nth (m n : Nat) (a : Int) (hm : 2 ≤ m ∧ m ≤ 8) (hn : n ≤ 8) : ∃ xs : List Int, R_nth_setting [tupD (List.replicate n (m : Int)), .int a] (.ok (tupD xs)) := by
  have ones : Ones w_nth_setting := by
    unfold w_nth_setting
    walk_at "ones"
  have : ∃ d, R_nth_setting [tupD (List.replicate n (m : Int)), .int a] (.ok d) ∧ ∃ xs : List Int, d = tupD xs := by
    refine dR_of ones rfl ?_
    unfold w_nth_setting
    walk_at "st"
    rw [← List.map_reverse]
    refine gm (fun pr env _ => ∃ (a : Int) (xs : List Int) (b : SV), xs.length = pr.length ∧ env = [.fz (tupD (List.replicate n (m : Int))), .fz (.int a), .ow (.lst (xs.map .int)), b]) ⟨a, [], _, rfl, rfl⟩ ?_ ?_
    · rintro pr x po env s e ⟨a, xs, b, hl, rfl⟩
      have hx : x = m := by
        have h1 : x ∈ (List.replicate n (m : Int)).reverse := by rw [e]; simp
        exact List.eq_of_mem_replicate (List.mem_reverse.mp h1)
      have hl2 : pr.length < n := by
        have := congrArg List.length e
        simp at this
        omega
      refine ⟨_, rfl, fun De' hn' => ?_⟩
      walk_at "st"
      refine gw_app rfl (by simp [PySem.sizeLine_eq]; omega) ?_
      walk_at "ev"
      walk_at "st"
      exact hn' _ _ ⟨_, xs ++ [a % x], _, by simp [hl], by rw [List.map_append]; rfl⟩
    · rintro env s ⟨a, xs, b, hl, rfl⟩
      walk_at "st"
      exact ⟨xs.reverse, by rw [List.map_reverse]⟩
  obtain ⟨d, h1, xs, rfl⟩ := this
  exact ⟨xs, h1⟩
theorem ones_fair_fault {C : Addr} : Ones (w_fair_fault C) := by
  unfold w_fair_fault
  walk_at "ones"
/-- whether all lines are right -/
def Lines (m n : Nat) (f : List Int → Int) : Prop := ∀ p : Nat, p < n → ∀ t ∈ base m n p, (line m f p t).Nodup
theorem ev_fair_fault (C : Addr) (m n : Nat) (f : List Int → Int) (hm : 2 ≤ m ∧ m ≤ 8) (hn : n ≤ 8) (hz : m ^ n ≤ 20000) :
    ∃ d, R_fair_fault C [bdf C m n f] (.ok d) ∧ ((d = .non ∧ Lines m n f) ∨ ((∃ r, d = .tup (.str "twice" :: r)) ∧ ¬ Lines m n f)) := by
  refine dR_of ones_fair_fault rfl ?_
  unfold w_fair_fault
  walk_at "st"
  refine ge (fun _ env _ => ∃ a b c, env = [.fz (bdf C m n f), a, b, c]) ⟨_, _, _, rfl⟩ ?_ ?_
  · rintro k x env s hx ⟨a, b, c, rfl⟩
    have hxm : x = m := List.eq_of_mem_replicate (List.mem_of_getElem? hx)
    subst hxm
    refine ⟨_, rfl, fun De' hn' => ?_⟩
    walk_at "st"
    exact hn' _ _ ⟨_, _, _, rfl⟩
  · rintro env s ⟨a, b, c, rfl⟩
    walk_at "st"
    refine ⟨rfl, _, ev_len C m n _, by omega, by omega, by omega, ?_⟩
    refine gf_rng (fun k env _ => (∀ p : Nat, p < k → ∀ t ∈ base m n p, (line m f p t).Nodup) ∧ ∃ a b c, env = [.fz (bdf C m n f), a, b, c]) ⟨fun p hp => by omega, _, _, _, rfl⟩ ?_ ?_
    · rintro k env s hk ⟨hI, a, b, c, rfl⟩
      rw [Int.toNat_natCast] at hk
      refine ⟨_, rfl, fun De' hn' _ _ hrt _ => ?_⟩
      obtain ⟨d, h1, h2⟩ := ev_twice_fault C m n k f hk hm hn hz
      walk_at "st"
      refine ⟨_, h1, ?_⟩
      walk_at "ev"
      walk_at "st"
      rcases h2 with ⟨rfl, h2⟩ | ⟨a1, c1, rfl, h2⟩
      · walk_at "ev"
        walk_at "st"
        refine hn' _ _ ⟨fun p hp => ?_, _, _, _, rfl⟩
        by_cases e : p = k
        · rw [e]; exact h2
        · exact hI p (by omega)
      · walk_at "ev"
        walk_at "st"
        obtain ⟨xs, hxs⟩ := ev_nth m n a1 hm hn
        refine ⟨.int a1, rfl, _, hxs, .int c1, rfl, ?_⟩
        walk_at "st"
        rw [hrt]
        exact .inr ⟨⟨_, rfl⟩, fun z => h2 (z k hk)⟩
    · rintro env s ⟨hI, a, b, c, rfl⟩
      rw [Int.toNat_natCast] at hI
      walk_at "st"
      exact .inl hI
theorem base_of_fair {m n : Nat} {f : List Int → Int} (h : FairF m n f) (hm : 0 < m) : Lines m n f := fun p hp t ht => fair_line h hp (base_val hm hp ht).1
theorem ev_need_fair (C CR : Addr) (m n : Nat) (f : List Int → Int) (hm : 2 ≤ m ∧ m ≤ 8) (hn : n ≤ 8) (hz : m ^ n ≤ 20000) (hf : Lines m n f) : R_need_fair C CR [bdf C m n f] (.ok (bdf C m n f)) := by
  obtain ⟨d, h1, h2⟩ := ev_fair_fault C m n f hm hn hz
  refine ⟨rfl, ?_⟩
  unfold w_need_fair
  walk_at "st"
  refine ⟨_, h1, ?_⟩
  rcases h2 with ⟨rfl, _⟩ | ⟨_, h2⟩
  · walk_at "st"
  · exact absurd hf h2
/-- a board that is not fair is refused -/
theorem ev_need_no (C CR : Addr) (m n : Nat) (f : List Int → Int) (hm : 2 ≤ m ∧ m ≤ 8) (hn : n ≤ 8) (hz : m ^ n ≤ 20000) (hf : ¬ Lines m n f) : ∃ r, R_need_fair C CR [bdf C m n f] (.ex CR ["at"] [.tup (.str "twice" :: r)]) := by
  obtain ⟨d, h1, h2⟩ := ev_fair_fault C m n f hm hn hz
  rcases h2 with ⟨_, h2⟩ | ⟨⟨r, rfl⟩, _⟩
  · exact absurd h2 hf
  · refine ⟨r, rfl, ?_⟩
    unfold w_need_fair
    walk_at "st"
    refine ⟨_, h1, ?_⟩
    walk_at "st"
    refine go_run ?_
    walk_at "ev"
    rfl
theorem ev_with_content_T (s : List Int) (p : Nat) (c : Int) (hp : p < s.length) (hl : s.length ≤ 8) : R_with_content [tupD s, .int p, .int c] (.ok (tupD (s.set p c))) := by
  refine ⟨rfl, ?_⟩
  unfold w_with_content
  walk_at "st"
  rw [cut_to (by omega), cut_from (by omega)]
  walk_at "ev"
  rw [show ((p : Int) + 1).toNat = p + 1 by omega]
  refine ⟨by simp; omega, by simp; omega, ?_⟩
  rw [List.set_eq_take_append_cons_drop, if_pos hp]
  simp
theorem ev_with_content_L (s : List Int) (p : Nat) (c : Int) (hp : p < s.length) (hl : s.length ≤ 8) : R_with_content [lisD s, .int p, .int c] (.ok (tupD (s.set p c))) := by
  refine ⟨rfl, ?_⟩
  unfold w_with_content
  walk_at "st"
  rw [cut_to (by omega), cut_from (by omega)]
  walk_at "ev"
  rw [show ((p : Int) + 1).toNat = p + 1 by omega]
  refine ⟨by simp; omega, by simp; omega, ?_⟩
  rw [List.set_eq_take_append_cons_drop, if_pos hp]
  simp
end K82
namespace K82
open PySem PySem.Spec PyProof.Rows L2 Pl RT Mt
local macro_rules | `(tactic| walk_at "ev") => `(tactic| try simp only [go_C, go_var, go_bin, go_un, go_and, go_or, go_not, go_tB1, go_if, go_bAnd, go_bOr, go_bNot, go_yes, go_nil, go_cons, go_tup, go_lst, Pl.go_of, go_Ca, go_fCa, go_fld, go_call, go_callKw, go_callG, go_lOf, go_lOwn, go_ixL, go_bor, go_bBor, go_sl, go_oNo, go_oSome, go_tupRev, go_revL, go_it, go_lc, go_cStep, go_cStep2, go_chain, go_mNil, go_mFz, go_mOw, go_rep, go_rg1, go_make, go_lenO, go_callO, go_dgetO, go_dinO, go_dicK, go_dicT, go_idx, go_eLam, go_eLamM, go_callPk, ex_inTups, ex_repT, ex_eqNil, ex_eqT, ex_eqL, ex_eqNilTI, ex_neNilTI, ex_sorted, ex_neNilI, ex_neNilT, ex_any, cut_pop, cut_last, ex_ltT, Option.isSome_some, Option.isSome_none, go_d1, go_d0ix, go_d0ne,
  ex_onI, ex_add, ex_eqI, ex_neI, ex_neB, ex_neL, ex_neT, ex_neL1, ex_neL11, List.filterMap_cons, List.filterMap_nil, ex_int1, ex_bl, ex_int, ex_someI, ex_R1, ex_R2, ex_itL, ex_itT, ex_itF, ex_revL, ex_revT, ex_enL, ex_enT, ex_zTL, ex_zTT, ex_zLT, ex_zLL, ex_lenL, ex_lenT, ex_tupL, ex_tupT, ex_lisL, ex_lisT, ex_lstD, ex_lstF, ex_abs, ex_neg, ex_ixL, ex_ixT, ex_slL, ex_slT, ex_slF, ex_addL, ex_addT, ex_isN, ex_notN, ex_sum, ex_inI, ex_inIT, fld_many, fld_sizes, fld_marks, fld_steps, isNon_non, isNon_tup, isNon_lst, isNon_int, isNon_str, isNon_bl, mulC_iff, PySem.sizeLine_eq, decide_true, decide_false, Nat.zero_le, Bool.not_eq_true', decide_eq_false_iff_not, ite_not, dEnd_rt, rtE_rt, gEnd_rt, dEnd_nx, gEnd_nx, or_ite1, or_ite2, or_ite3, or_ite4, onI_bl, isi_ii, isi_ib, isi_tt, isi_Llt, isi_Tlt, Oc.ok.injEq,
  Int.toNat_natCast, Int.zero_add, put_nm, put_tpT, put_tpL, puts_nil, puts_cons, Option.bind_some, OD.d, wipeE, pick, Function.comp_apply,
  env0, List.map_cons, List.map_nil, List.replicate, List.cons_append, List.nil_append, List.set_cons_succ, List.set_cons_zero, List.getElem?_cons_zero, List.getElem?_cons_succ, Option.some.injEq, SV.fz.injEq, SV.ow.injEq, OD.lst.injEq, exists_eq_left', exists_eq_left, exists_and_left, exists_eq', true_and, and_true, D.bl.injEq, D.int.injEq, D.lst.injEq, D.tup.injEq, reduceCtorEq, false_and, and_false, or_false, false_or, if_true, if_false, Bool.false_eq_true, Bool.not_true, Bool.not_false, reduceIte, decide_eq_true_eq, List.length_cons, List.length_nil, List.length_map, List.length_range, setsE])
local macro_rules | `(tactic| walk_at "st") => `(tactic| (repeat (first | with_reducible refine gw_seq ?_ | with_reducible refine gw_next ?_ | ((first | with_reducible refine gw_set ?_ | with_reducible refine gw_asg ?_ | with_reducible refine gw_asgF ?_ | with_reducible refine gw_ret ?_ | with_reducible refine gw_retN ?_ | with_reducible refine gw_if ?_ | with_reducible refine gw_for ?_ | with_reducible refine gw_par ?_ | with_reducible refine gw_expr ?_ | rw [if_pos (by omega)] | rw [if_neg (by omega)] | with_reducible refine And.intro (by omega) ?_ | omega); try walk_at "ev"))))
local macro_rules | `(tactic| walk_at "ones") => `(tactic| repeat (first | with_reducible apply ones_seq | with_reducible apply ones_while | with_reducible apply ones_for | with_reducible apply ones_if | with_reducible apply ones_asg | with_reducible apply ones_asgF | with_reducible apply ones_fz | with_reducible apply ones_par | with_reducible apply ones_app | with_reducible apply ones_ext | with_reducible apply ones_appPop | with_reducible apply ones_put | with_reducible apply ones_dput | with_reducible apply ones_d0pop | with_reducible apply ones_d0popTo | with_reducible apply ones_d0app | with_reducible apply ones_d1set | with_reducible apply ones_ret | with_reducible apply ones_retN | with_reducible apply ones_next | with_reducible apply ones_break | with_reducible apply ones_cont | with_reducible apply ones_never | with_reducible apply ones_expr))
local macro_rules | `(tactic| walk_at "sz") => `(tactic| first | omega | (simp; done) | (simp; omega))
theorem ev_changed_many (m k : Nat) (hm : m ≤ 100) (hk : k ≤ 100) : R_changed_many [.int m, .int k] (.ok (.tup [.int (chm m k).1, .int (chm m k).2])) := by
  refine ⟨rfl, ?_⟩
  unfold w_changed_many
  walk_at "st"
  refine gr (fun j env _ => ∃ a, env = [.fz (.int m), .fz (.int k), .fz (.int (chm m j).1), .fz (.int (chm m j).2), a]) ⟨_, rfl⟩ ?_ ?_
  · rintro j env s hj ⟨a, rfl⟩
    refine ⟨_, rfl, fun De' hn' => ?_⟩
    walk_at "st"
    exact hn' _ _ ⟨_, rfl⟩
  · rintro env s ⟨a, rfl⟩
    walk_at "st"
theorem ev_unnoticed_many (m k : Nat) (hm : m ≤ 100) (hk : k ≤ 100) : R_unnoticed_many [.int m, .int k] (.ok (.int (chm m k).1)) := by
  refine ⟨rfl, ?_⟩
  unfold w_unnoticed_many
  walk_at "st"
  refine ⟨_, ev_changed_many m k hm hk, .int (chm m k).1, rfl, ?_⟩
  walk_at "ev"
theorem ev_number (m : Nat) (s : List Int) (hm : m ≤ 100) : R__law_number [.int m, lisD s] (.ok (.int (num m s))) := by
  refine ⟨rfl, ?_⟩
  unfold w__law_number
  walk_at "st"
  refine gm (fun pr env _ => ∃ a, env = [.fz (.int m), .fz (lisD s), .fz (.int (num m pr)), a]) ⟨_, rfl⟩ ?_ ?_
  · rintro pr x po env s' e ⟨a, rfl⟩
    refine ⟨_, rfl, fun De' hn' => ?_⟩
    rw [num_snoc] at hn'
    walk_at "st"
    exact hn' _ _ ⟨_, rfl⟩
  · rintro env s' ⟨a, rfl⟩
    walk_at "st"
end K82
namespace K82
open PySem PySem.Spec PyProof.Rows L2 Pl RT Mt
local macro_rules | `(tactic| walk_at "ev") => `(tactic| try simp only [go_C, go_var, go_bin, go_un, go_and, go_or, go_not, go_tB1, go_if, go_bAnd, go_bOr, go_bNot, go_yes, go_nil, go_cons, go_tup, go_lst, Pl.go_of, go_Ca, go_fCa, go_fld, go_call, go_callKw, go_callG, go_lOf, go_lOwn, go_ixL, go_bor, go_bBor, go_sl, go_oNo, go_oSome, go_tupRev, go_revL, go_it, go_lc, go_cStep, go_cStep2, go_chain, go_mNil, go_mFz, go_mOw, go_rep, go_rg1, go_make, go_lenO, go_callO, go_dgetO, go_dinO, go_dicK, go_dicT, go_idx, go_eLam, go_eLamM, go_callPk, ex_inTups, ex_repT, ex_eqNil, ex_eqT, ex_eqL, ex_eqNilTI, ex_neNilTI, ex_sorted, ex_neNilI, ex_neNilT, ex_any, cut_pop, cut_last, ex_ltT, Option.isSome_some, Option.isSome_none, go_d1, go_d0ix, go_d0ne,
  ex_onI, ex_add, ex_eqI, ex_neI, ex_neB, ex_neL, ex_neT, ex_neL1, ex_neL11, List.filterMap_cons, List.filterMap_nil, ex_int1, ex_bl, ex_int, ex_someI, ex_R1, ex_R2, ex_itL, ex_itT, ex_itF, ex_revL, ex_revT, ex_enL, ex_enT, ex_zTL, ex_zTT, ex_zLT, ex_zLL, ex_lenL, ex_lenT, ex_tupL, ex_tupT, ex_lisL, ex_lisT, ex_lstD, ex_lstF, ex_abs, ex_neg, ex_ixL, ex_ixT, ex_slL, ex_slT, ex_slF, ex_addL, ex_addT, ex_isN, ex_notN, ex_sum, ex_inI, ex_inIT, fld_many, fld_sizes, fld_marks, fld_steps, isNon_non, isNon_tup, isNon_lst, isNon_int, isNon_str, isNon_bl, mulC_iff, PySem.sizeLine_eq, decide_true, decide_false, Nat.zero_le, Bool.not_eq_true', decide_eq_false_iff_not, ite_not, dEnd_rt, rtE_rt, gEnd_rt, dEnd_nx, gEnd_nx, or_ite1, or_ite2, or_ite3, or_ite4, onI_bl, isi_ii, isi_ib, isi_tt, isi_Llt, isi_Tlt, Oc.ok.injEq,
  Int.toNat_natCast, Int.zero_add, put_nm, put_tpT, put_tpL, puts_nil, puts_cons, Option.bind_some, OD.d, wipeE, pick, Function.comp_apply,
  env0, List.map_cons, List.map_nil, List.replicate, List.cons_append, List.nil_append, List.set_cons_succ, List.set_cons_zero, List.getElem?_cons_zero, List.getElem?_cons_succ, Option.some.injEq, SV.fz.injEq, SV.ow.injEq, OD.lst.injEq, exists_eq_left', exists_eq_left, exists_and_left, exists_eq', true_and, and_true, D.bl.injEq, D.int.injEq, D.lst.injEq, D.tup.injEq, reduceCtorEq, false_and, and_false, or_false, false_or, if_true, if_false, Bool.false_eq_true, Bool.not_true, Bool.not_false, reduceIte, decide_eq_true_eq, List.length_cons, List.length_nil, List.length_map, List.length_range, setsE])
local macro_rules | `(tactic| walk_at "st") => `(tactic| (repeat (first | with_reducible refine gw_seq ?_ | with_reducible refine gw_next ?_ | ((first | with_reducible refine gw_set ?_ | with_reducible refine gw_asg ?_ | with_reducible refine gw_asgF ?_ | with_reducible refine gw_ret ?_ | with_reducible refine gw_retN ?_ | with_reducible refine gw_if ?_ | with_reducible refine gw_for ?_ | with_reducible refine gw_par ?_ | with_reducible refine gw_expr ?_ | rw [if_pos (by omega)] | rw [if_neg (by omega)] | with_reducible refine And.intro (by omega) ?_ | omega); try walk_at "ev"))))
local macro_rules | `(tactic| walk_at "ones") => `(tactic| repeat (first | with_reducible apply ones_seq | with_reducible apply ones_while | with_reducible apply ones_for | with_reducible apply ones_if | with_reducible apply ones_asg | with_reducible apply ones_asgF | with_reducible apply ones_fz | with_reducible apply ones_par | with_reducible apply ones_app | with_reducible apply ones_ext | with_reducible apply ones_appPop | with_reducible apply ones_put | with_reducible apply ones_dput | with_reducible apply ones_d0pop | with_reducible apply ones_d0popTo | with_reducible apply ones_d0app | with_reducible apply ones_d1set | with_reducible apply ones_ret | with_reducible apply ones_retN | with_reducible apply ones_next | with_reducible apply ones_break | with_reducible apply ones_cont | with_reducible apply ones_never | with_reducible apply ones_expr))
local macro_rules | `(tactic| walk_at "sz") => `(tactic| first | omega | (simp; done) | (simp; omega))
theorem spoil_list {m n : Nat} {f : List Int → Int} (hm : 0 < m) (k : Int) : (((sets m n).map f).zipIdx.map fun p : Int × Nat => (if (p.2 : Int) = k then (p.1 + 1) % (m : Int) else p.1 : Int)) = (sets m n).map (spoil m f k) := by
  apply List.ext_getElem?
  intro i
  by_cases h : i < m ^ n
  · obtain ⟨s, h1, h2, h3⟩ := sets_of_lt h hm
    rw [List.getElem?_map, List.getElem?_zipIdx, List.getElem?_map, List.getElem?_map, h1]
    simp only [Option.map_some, spoil, h3]
    simp
  · rw [List.getElem?_eq_none (by rw [List.length_map, List.length_zipIdx, List.length_map, sets_len]; omega), List.getElem?_eq_none (by rw [List.length_map, sets_len]; omega)]
theorem ones_spoilt {C : Addr} : Ones (w__law_spoilt C) := by
  unfold w__law_spoilt
  walk_at "ones"
theorem ev_spoilt (C : Addr) (s : DlS) (m n : Nat) (f : List Int → Int) (hv : Vd s) (hB : Brd m n f) : ∃ (k : Nat) (s' : DlS), R__law_spoilt C s [.int m, .int n, lisD ((sets m n).map f)] (.ok (bdf C m n (spoil m f k))) s' ∧ k < m ^ n ∧ Vd s' := by
  obtain ⟨hm, hn, hz, hf⟩ := hB
  have hpos : 0 < m ^ n := Nat.pow_pos (by omega)
  have : ∃ d s', R__law_spoilt C s [.int m, .int n, lisD ((sets m n).map f)] (.ok d) s' ∧ (∃ k : Nat, d = bdf C m n (spoil m f k) ∧ k < m ^ n) ∧ Vd s' := by
    refine dRG_of ones_spoilt rfl ?_
    unfold w__law_spoilt
    walk_at "st"
    rw [sets_len]
    obtain ⟨v, s1, d1, d2, hv1⟩ := ev_draw s (m ^ n : Nat) hv (by omega)
    refine ⟨_, _, d1, ?_⟩
    walk_at "ev"
    walk_at "st"
    rw [enumD_map]
    refine ⟨_, _, coll_mapE D.int (fun p => if (p.2 : Int) = v then (p.1 + 1) % m else p.1) (fun p hp => ?_), ?_⟩
    · walk_at "ev"
      split
      · walk_at "ev"
        walk_at "st"
      · walk_at "ev"
    rw [spoil_list (by omega)]
    obtain ⟨k, rfl⟩ : ∃ k : Nat, v = k := ⟨v.toNat, by omega⟩
    walk_at "ev"
    rw [sets_len]
    refine ⟨by omega, ?_⟩
    walk_at "st"
    rw [rep_one, ← List.map_replicate (f := D.int)]
    exact ⟨_, ev_Board C m n _ hm (by omega) (by omega) (by rw [List.length_map, sets_len]) (fun x hx => by
      obtain ⟨t, ht, rfl⟩ := List.mem_map.mp hx
      exact spoil_rng hf (by omega) k (sets_mem (by omega) ht)), ⟨k, rfl, by omega⟩, hv1⟩
  obtain ⟨d, s', h1, ⟨v, rfl, h2⟩, h3⟩ := this
  exact ⟨v, s', h1, h2, h3⟩
end K82
namespace K82
open PySem PySem.Spec PyProof.Rows L2 Pl RT Mt
local macro_rules | `(tactic| walk_at "ev") => `(tactic| try simp only [go_C, go_var, go_bin, go_un, go_and, go_or, go_not, go_tB1, go_if, go_bAnd, go_bOr, go_bNot, go_yes, go_nil, go_cons, go_tup, go_lst, Pl.go_of, go_Ca, go_fCa, go_fld, go_call, go_callKw, go_callG, go_lOf, go_lOwn, go_ixL, go_bor, go_bBor, go_sl, go_oNo, go_oSome, go_tupRev, go_revL, go_it, go_lc, go_cStep, go_cStep2, go_chain, go_mNil, go_mFz, go_mOw, go_rep, go_rg1, go_make, go_lenO, go_callO, go_dgetO, go_dinO, go_dicK, go_dicT, go_idx, go_eLam, go_eLamM, go_callPk, ex_inTups, ex_repT, ex_eqNil, ex_eqT, ex_eqL, ex_eqNilTI, ex_neNilTI, ex_sorted, ex_neNilI, ex_neNilT, ex_any, cut_pop, cut_last, ex_ltT, Option.isSome_some, Option.isSome_none, go_d1, go_d0ix, go_d0ne,
  ex_onI, ex_add, ex_eqI, ex_neI, ex_neB, ex_neL, ex_neT, ex_neL1, ex_neL11, List.filterMap_cons, List.filterMap_nil, ex_int1, ex_bl, ex_int, ex_someI, ex_R1, ex_R2, ex_itL, ex_itT, ex_itF, ex_revL, ex_revT, ex_enL, ex_enT, ex_zTL, ex_zTT, ex_zLT, ex_zLL, ex_lenL, ex_lenT, ex_tupL, ex_tupT, ex_lisL, ex_lisT, ex_lstD, ex_lstF, ex_abs, ex_neg, ex_ixL, ex_ixT, ex_slL, ex_slT, ex_slF, ex_addL, ex_addT, ex_isN, ex_notN, ex_sum, ex_inI, ex_inIT, fld_many, fld_sizes, fld_marks, fld_steps, isNon_non, isNon_tup, isNon_lst, isNon_int, isNon_str, isNon_bl, mulC_iff, PySem.sizeLine_eq, decide_true, decide_false, Nat.zero_le, Bool.not_eq_true', decide_eq_false_iff_not, ite_not, dEnd_rt, rtE_rt, gEnd_rt, dEnd_nx, gEnd_nx, or_ite1, or_ite2, or_ite3, or_ite4, onI_bl, isi_ii, isi_ib, isi_tt, isi_Llt, isi_Tlt, Oc.ok.injEq,
  Int.toNat_natCast, Int.zero_add, put_nm, put_tpT, put_tpL, puts_nil, puts_cons, Option.bind_some, OD.d, wipeE, pick, Function.comp_apply,
  env0, List.map_cons, List.map_nil, List.replicate, List.cons_append, List.nil_append, List.set_cons_succ, List.set_cons_zero, List.getElem?_cons_zero, List.getElem?_cons_succ, Option.some.injEq, SV.fz.injEq, SV.ow.injEq, OD.lst.injEq, exists_eq_left', exists_eq_left, exists_and_left, exists_eq', true_and, and_true, D.bl.injEq, D.int.injEq, D.lst.injEq, D.tup.injEq, reduceCtorEq, false_and, and_false, or_false, false_or, if_true, if_false, Bool.false_eq_true, Bool.not_true, Bool.not_false, reduceIte, decide_eq_true_eq, List.length_cons, List.length_nil, List.length_map, List.length_range, setsE])
local macro_rules | `(tactic| walk_at "st") => `(tactic| (repeat (first | with_reducible refine gw_seq ?_ | with_reducible refine gw_next ?_ | ((first | with_reducible refine gw_set ?_ | with_reducible refine gw_asg ?_ | with_reducible refine gw_asgF ?_ | with_reducible refine gw_ret ?_ | with_reducible refine gw_retN ?_ | with_reducible refine gw_if ?_ | with_reducible refine gw_for ?_ | with_reducible refine gw_par ?_ | with_reducible refine gw_expr ?_ | rw [if_pos (by omega)] | rw [if_neg (by omega)] | with_reducible refine And.intro (by omega) ?_ | omega); try walk_at "ev"))))
local macro_rules | `(tactic| walk_at "ones") => `(tactic| repeat (first | with_reducible apply ones_seq | with_reducible apply ones_while | with_reducible apply ones_for | with_reducible apply ones_if | with_reducible apply ones_asg | with_reducible apply ones_asgF | with_reducible apply ones_fz | with_reducible apply ones_par | with_reducible apply ones_app | with_reducible apply ones_ext | with_reducible apply ones_appPop | with_reducible apply ones_put | with_reducible apply ones_dput | with_reducible apply ones_d0pop | with_reducible apply ones_d0popTo | with_reducible apply ones_d0app | with_reducible apply ones_d1set | with_reducible apply ones_ret | with_reducible apply ones_retN | with_reducible apply ones_next | with_reducible apply ones_break | with_reducible apply ones_cont | with_reducible apply ones_never | with_reducible apply ones_expr))
local macro_rules | `(tactic| walk_at "sz") => `(tactic| first | omega | (simp; done) | (simp; omega))
theorem ev_wrong_contentL (m n : Nat) (s : List Int) (v : Val m n s) : R_wrong_content [.tup ((List.replicate n (m : Int)).map .int), .lst (s.map .int)] (.ok .non) := by
  refine ⟨rfl, ?_⟩
  unfold w_wrong_content
  walk_at "st"
  refine ⟨_, ev_is_sequence_L _, ?_⟩
  walk_at "ev"
  rw [List.length_replicate, v.1]
  walk_at "ev"
  walk_at "st"
  rw [enumD_map]
  refine gf_map (fun _ env _ => ∃ a b, env = [.fz (.tup ((List.replicate n (m : Int)).map .int)), SV.fz (D.lst (s.map .int)), a, b]) ⟨_, _, rfl⟩ ?_ ?_
  · rintro pr ⟨x, k⟩ po env s' e ⟨a, b, rfl⟩
    have hm : (x, k) ∈ s.zipIdx := by rw [e]; simp
    have hx := v.2 x (List.fst_mem_of_mem_zipIdx hm)
    have hk : k < n := by
      have := List.snd_lt_of_mem_zipIdx hm
      rw [← v.1]; omega
    refine ⟨_, rfl, fun De' hn _ _ _ _ => ?_⟩
    walk_at "st"
    refine ⟨_, ev_is_number _, ?_⟩
    walk_at "ev"
    walk_at "st"
    refine ex_at (x := (m : Int)) (by omega) (by simp [hk]) ?_
    walk_at "ev"
    walk_at "st"
    exact hn _ _ ⟨_, _, rfl⟩
  · rintro env s ⟨a, b, rfl⟩
    walk_at "st"
theorem ev_setting_numberL (m n : Nat) (hm : m < 2 ^ 32) (s : List Int) (v : s.length = n) : R_setting_number [.tup ((List.replicate n (m : Int)).map .int), .lst (s.map .int)] (.ok (.int (num m s))) := by
  refine ⟨rfl, ?_⟩
  unfold w_setting_number
  walk_at "st"
  rw [zipD_map]
  refine gf_map (fun pr env _ => ∃ a b, env = [.fz (.tup ((List.replicate n (m : Int)).map .int)), SV.fz (D.lst (s.map .int)), .fz (.int (num m (pr.map (·.2)))), a, b]) ⟨_, _, rfl⟩ ?_ ?_
  · rintro pr ⟨x, k⟩ po env s' e ⟨a, b, rfl⟩
    have hx : x = m := by
      have h1 : (x, k) ∈ (List.replicate n (m : Int)).zip s := by rw [e]; simp
      exact List.eq_of_mem_replicate (List.of_mem_zip h1).1
    subst hx
    refine ⟨_, rfl, fun De' hn _ _ _ _ => ?_⟩
    walk_at "st"
    refine hn _ _ ⟨.fz (.int m), .fz (.int k), ?_⟩
    simp [num_snoc]
  · rintro env s' ⟨a, b, rfl⟩
    walk_at "st"
    rw [List.map_snd_zip (by simp [v])]
theorem ev_callL (C : Addr) (m n : Nat) (hm : m < 2 ^ 32) (s : List Int) (v : Val m n s) (f : List Int → Int) : R_Board___call__ C [bdD C m n ((sets m n).map f), .lst (s.map .int)] (.ok (.int (f s))) := by
  refine ⟨rfl, ?_⟩
  unfold w_Board___call__
  walk_at "st"
  refine ⟨_, ev_wrong_contentL m n s v, ?_⟩
  walk_at "ev"
  walk_at "st"
  refine ⟨_, ev_setting_numberL m n hm s v.1, ?_⟩
  walk_at "ev"
  refine ex_at (x := f s) (num_lt v).1 (by rw [List.getElem?_map, sets_get v]; rfl) rfl
theorem ev_callS (C : Addr) (m n : Nat) (hm : m < 2 ^ 32) (sd : D) (s : List Int) (hsd : sd = lisD s ∨ sd = tupD s) (v : Val m n s) (f : List Int → Int) : R_Board___call__ C [bdf C m n f, sd] (.ok (.int (f s))) := by
  rcases hsd with rfl | rfl
  · exact ev_callL C m n hm s v f
  · exact ev_call C m n hm s v f
theorem ev_changed_left (C : Addr) (m n k : Nat) (f : List Int → Int) (sd : D) (s t : List Int) (hsd : sd = lisD s ∨ sd = tupD s) (hm : 2 ≤ m ∧ m ≤ 8) (hk : k ≤ 100) (vs : Val m n s) (vt : Val m n t) :
    R_changed_left C [bdf C m n f, sd, tupD t, .int k] (.ok (.int (if f t = f s then (chm m k).1 else (chm m k).2))) := by
  refine ⟨rfl, ?_⟩
  unfold w_changed_left
  walk_at "st"
  refine ⟨_, ev_changed_many m k (by omega) hk, ?_⟩
  walk_at "ev"
  walk_at "st"
  refine ⟨ins_bd, _, ev_call C m n (by omega) t vt f, ins_bd, _, ev_callS C m n (by omega) sd s hsd vs f, ?_⟩
  walk_at "ev"
  by_cases e : f t = f s
  · rw [if_pos e, if_pos e]
    walk_at "ev"
  · rw [if_neg e, if_neg e]
    walk_at "ev"
/-- a lot in order -/
structure Lot (n : Nat) (l : List Nat) : Prop where
  up : l.Pairwise (· < ·)
  lt : ∀ p ∈ l, p < n
  ne : l ≠ []
abbrev natL (l : List Nat) : List Int := l.map fun p : Nat => (p : Int)
theorem ev_need_lot (C CI : Addr) (m n : Nat) (f : List Int → Int) (l : List Nat) (ld : D) (hld : ld = lisD (natL l) ∨ ld = tupD (natL l)) (hl : Lot n l) (hn : n ≤ 8) (hl8 : l.length ≤ 8) : R_need_lot CI C [bdf C m n f, ld] (.ok (tupD (natL l))) := by
  have hlp := List.length_pos_iff.mpr hl.ne
  rcases hld with rfl | rfl
  · refine ⟨rfl, ?_⟩
    unfold w_need_lot
    walk_at "st"
    refine ⟨_, ev_is_sequence_L _, ?_⟩
    walk_at "ev"
    walk_at "st"
    refine ge (g := D.int) (xs := natL l) (fun k env _ => ∃ a b, env = [.fz (bdf C m n f), .fz (lisD (natL l)), a, b]) ⟨_, _, rfl⟩ ?_ ?_
    · rintro k x env s hx ⟨a, b, rfl⟩
      rw [List.getElem?_map, Option.map_eq_some_iff] at hx
      obtain ⟨p, hp, rfl⟩ := hx
      have hpn := hl.lt p (List.mem_of_getElem? hp)
      refine ⟨_, rfl, fun De' hn' => ?_⟩
      walk_at "st"
      refine ⟨_, ev_is_number p, ?_⟩
      walk_at "ev"
      rw [if_pos (by omega)]
      refine ⟨ins_bd, _, ev_len C m n _, by omega, by omega, ?_⟩
      rw [if_neg (by omega)]
      by_cases hk0 : 0 < (k : Int)
      · rw [if_pos hk0]
        have hkl := (List.getElem?_eq_some_iff.mp hp).1
        obtain ⟨q, hq⟩ : ∃ q, l[k - 1]? = some q := ⟨_, List.getElem?_eq_getElem (by omega)⟩
        have hqp : q < p := by
          have := List.pairwise_iff_getElem.mp hl.up (k - 1) k (by omega) hkl (by omega)
          rw [(List.getElem?_eq_some_iff.mp hq).2, (List.getElem?_eq_some_iff.mp hp).2] at this
          exact this
        refine ex_at (x := (q : Int)) (by omega) (by rw [show ((k : Int) - 1).toNat = k - 1 by omega, List.getElem?_map, hq]; rfl) ?_
        walk_at "ev"
        walk_at "st"
        exact hn' _ _ ⟨_, _, rfl⟩
      · rw [if_neg hk0]
        walk_at "st"
        exact hn' _ _ ⟨_, _, rfl⟩
    · rintro env s ⟨a, b, rfl⟩
      walk_at "st"
  · refine ⟨rfl, ?_⟩
    unfold w_need_lot
    walk_at "st"
    refine ⟨_, ev_is_sequence_T _, ?_⟩
    walk_at "ev"
    walk_at "st"
    refine ge (g := D.int) (xs := natL l) (fun k env _ => ∃ a b, env = [.fz (bdf C m n f), .fz (tupD (natL l)), a, b]) ⟨_, _, rfl⟩ ?_ ?_
    · rintro k x env s hx ⟨a, b, rfl⟩
      rw [List.getElem?_map, Option.map_eq_some_iff] at hx
      obtain ⟨p, hp, rfl⟩ := hx
      have hpn := hl.lt p (List.mem_of_getElem? hp)
      refine ⟨_, rfl, fun De' hn' => ?_⟩
      walk_at "st"
      refine ⟨_, ev_is_number p, ?_⟩
      walk_at "ev"
      rw [if_pos (by omega)]
      refine ⟨ins_bd, _, ev_len C m n _, by omega, by omega, ?_⟩
      rw [if_neg (by omega)]
      by_cases hk0 : 0 < (k : Int)
      · rw [if_pos hk0]
        have hkl := (List.getElem?_eq_some_iff.mp hp).1
        obtain ⟨q, hq⟩ : ∃ q, l[k - 1]? = some q := ⟨_, List.getElem?_eq_getElem (by omega)⟩
        have hqp : q < p := by
          have := List.pairwise_iff_getElem.mp hl.up (k - 1) k (by omega) hkl (by omega)
          rw [(List.getElem?_eq_some_iff.mp hq).2, (List.getElem?_eq_some_iff.mp hp).2] at this
          exact this
        refine ex_at (x := (q : Int)) (by omega) (by rw [show ((k : Int) - 1).toNat = k - 1 by omega, List.getElem?_map, hq]; rfl) ?_
        walk_at "ev"
        walk_at "st"
        exact hn' _ _ ⟨_, _, rfl⟩
      · rw [if_neg hk0]
        walk_at "st"
        exact hn' _ _ ⟨_, _, rfl⟩
    · rintro env s ⟨a, b, rfl⟩
      walk_at "st"
/-- what is no lot -/
theorem ev_lot_none (C CI : Addr) (b : D) (t : String) (d : D) (h : tyD d = some t) (h1 : kitBs t ["list", "tuple"] = some false) : R_need_lot CI C [b, d] (.ex CI ["at"] [.int (-1)]) := by
  have hs : R_is_sequence [d] (.ok (.bl false)) := by
    refine ⟨rfl, gw_ret ?_⟩
    walk_at "ev"
    refine ⟨by omega, .bl false, ?_, rfl⟩
    show (tyD d).bind (fun t => (some ["list", "tuple"]).bind fun ns => (kitBs t ns).map D.bl) = _
    rw [h]
    show (kitBs t ["list", "tuple"]).map D.bl = _
    rw [h1]; rfl
  refine ⟨rfl, ?_⟩
  unfold w_need_lot
  walk_at "st"
  refine ⟨_, hs, ?_⟩
  walk_at "ev"
  refine go_run ?_
  walk_at "ev"
  rfl
theorem ev_lot_empty (C CI : Addr) (b : D) : R_need_lot CI C [b, .tup []] (.ex CI ["at"] [.int (-1)]) := by
  refine ⟨rfl, ?_⟩
  unfold w_need_lot
  walk_at "st"
  refine ⟨_, ev_is_sequence_T _, ?_⟩
  walk_at "ev"
  refine go_run ?_
  walk_at "ev"
  rfl
/-- bad at the place j, good ahead -/
theorem ev_lot_bad (C CI : Addr) (m n : Nat) (f : List Int → Int) (xs : List Int) (j : Nat) (hj : j < xs.length) (hn : n ≤ 8) (hl : xs.length ≤ 16)
    (hgood : ∀ i x, i < j → xs[i]? = some x → 0 ≤ x ∧ x < n ∧ ∀ y, 0 < i → xs[i - 1]? = some y → y < x)
    (hbad : ∀ x, xs[j]? = some x → x < 0 ∨ n ≤ x ∨ ∃ y, 0 < j ∧ xs[j - 1]? = some y ∧ x ≤ y) : R_need_lot CI C [bdf C m n f, tupD xs] (.ex CI ["at"] [.int j]) := by
  refine ⟨rfl, ?_⟩
  unfold w_need_lot
  walk_at "st"
  refine ⟨_, ev_is_sequence_T _, ?_⟩
  walk_at "ev"
  walk_at "st"
  rw [enumD_map]
  refine gf_map (fun pr env _ => pr.length ≤ j ∧ ∃ a b, env = [.fz (bdf C m n f), .fz (tupD xs), a, b]) ⟨by simp, _, _, rfl⟩ ?_ ?_
  · rintro pr ⟨x, k⟩ po env s e ⟨hpj, a, b, rfl⟩
    have hk : xs.zipIdx[pr.length]? = some (x, k) := by rw [e]; simp
    rw [List.getElem?_zipIdx, Option.map_eq_some_iff] at hk
    obtain ⟨x', hx, hk⟩ := hk
    simp only [Nat.zero_add, Prod.mk.injEq] at hk
    obtain ⟨rfl, rfl⟩ := hk
    refine ⟨_, rfl, fun De' hn' _ _ _ hex => ?_⟩
    walk_at "st"
    refine ⟨_, ev_is_number x', ?_⟩
    walk_at "ev"
    have hrz : pr.length = j → ∀ env, env[2]? = some (.fz (.int (pr.length : Nat))) → wRaise CI "at" (eVar 2) De' env s := fun hj2 env he => by
      refine go_run ?_
      walk_at "ev"
      refine ⟨_, he, ?_⟩
      rw [hex, hj2]
      rfl
    by_cases hpj2 : pr.length = j
    · rw [← hpj2] at hbad
      rcases hbad x' hx with h | h | ⟨y, h1, h2, h3⟩
      · rw [if_neg (by omega)]
        exact hrz hpj2 _ rfl
      · rw [if_pos (by omega)]
        refine ⟨ins_bd, _, ev_len C m n _, by omega, by omega, ?_⟩
        rw [if_pos (by omega)]
        exact hrz hpj2 _ rfl
      · by_cases hx0 : 0 ≤ x'
        · rw [if_pos hx0]
          refine ⟨ins_bd, _, ev_len C m n _, by omega, by omega, ?_⟩
          by_cases hx1 : (n : Int) ≤ x'
          · rw [if_pos hx1]
            exact hrz hpj2 _ rfl
          · rw [if_neg hx1, if_pos (by omega)]
            refine ex_at (x := y) (by omega) (by rw [show ((pr.length : Int) - 1).toNat = pr.length - 1 by omega]; exact h2) ?_
            walk_at "ev"
            rw [if_pos h3]
            exact hrz hpj2 _ rfl
        · rw [if_neg hx0]
          exact hrz hpj2 _ rfl
    · obtain ⟨g1, g2, g3⟩ := hgood pr.length x' (by omega) hx
      rw [if_pos g1]
      refine ⟨ins_bd, _, ev_len C m n _, by omega, by omega, ?_⟩
      rw [if_neg (by omega)]
      by_cases hk0 : 0 < (pr.length : Int)
      · rw [if_pos hk0]
        obtain ⟨y, hy⟩ : ∃ y, xs[pr.length - 1]? = some y := ⟨_, List.getElem?_eq_getElem (by omega)⟩
        have := g3 y (by omega) hy
        refine ex_at (x := y) (by omega) (by rw [show ((pr.length : Int) - 1).toNat = pr.length - 1 by omega]; exact hy) ?_
        walk_at "ev"
        walk_at "st"
        exact hn' _ _ ⟨by simp; omega, _, _, rfl⟩
      · rw [if_neg hk0]
        walk_at "st"
        exact hn' _ _ ⟨by simp; omega, _, _, rfl⟩
  · rintro env s ⟨h, _⟩
    simp at h
    omega
end K82
namespace K82
open PySem PySem.Spec PyProof.Rows L2 Pl RT Mt
local macro_rules | `(tactic| walk_at "ev") => `(tactic| try simp only [go_C, go_var, go_bin, go_un, go_and, go_or, go_not, go_tB1, go_if, go_bAnd, go_bOr, go_bNot, go_yes, go_nil, go_cons, go_tup, go_lst, Pl.go_of, go_Ca, go_fCa, go_fld, go_call, go_callKw, go_callG, go_lOf, go_lOwn, go_ixL, go_bor, go_bBor, go_sl, go_oNo, go_oSome, go_tupRev, go_revL, go_it, go_lc, go_cStep, go_cStep2, go_chain, go_mNil, go_mFz, go_mOw, go_rep, go_rg1, go_make, go_lenO, go_callO, go_dgetO, go_dinO, go_dicK, go_dicT, go_idx, go_eLam, go_eLamM, go_callPk, ex_inTups, ex_repT, ex_eqNil, ex_eqT, ex_eqL, ex_eqNilTI, ex_neNilTI, ex_sorted, ex_neNilI, ex_neNilT, ex_any, cut_pop, cut_last, ex_ltT, Option.isSome_some, Option.isSome_none, go_d1, go_d0ix, go_d0ne,
  ex_onI, ex_add, ex_eqI, ex_neI, ex_neB, ex_neL, ex_neT, ex_neL1, ex_neL11, List.filterMap_cons, List.filterMap_nil, ex_int1, ex_bl, ex_int, ex_someI, ex_R1, ex_R2, ex_itL, ex_itT, ex_itF, ex_revL, ex_revT, ex_enL, ex_enT, ex_zTL, ex_zTT, ex_zLT, ex_zLL, ex_lenL, ex_lenT, ex_tupL, ex_tupT, ex_lisL, ex_lisT, ex_lstD, ex_lstF, ex_abs, ex_neg, ex_ixL, ex_ixT, ex_slL, ex_slT, ex_slF, ex_addL, ex_addT, ex_isN, ex_notN, ex_sum, ex_inI, ex_inIT, fld_many, fld_sizes, fld_marks, fld_steps, isNon_non, isNon_tup, isNon_lst, isNon_int, isNon_str, isNon_bl, mulC_iff, PySem.sizeLine_eq, decide_true, decide_false, Nat.zero_le, Bool.not_eq_true', decide_eq_false_iff_not, ite_not, dEnd_rt, rtE_rt, gEnd_rt, dEnd_nx, gEnd_nx, or_ite1, or_ite2, or_ite3, or_ite4, onI_bl, isi_ii, isi_ib, isi_tt, isi_Llt, isi_Tlt, Oc.ok.injEq,
  Int.toNat_natCast, Int.zero_add, put_nm, put_tpT, put_tpL, puts_nil, puts_cons, Option.bind_some, OD.d, wipeE, pick, Function.comp_apply,
  env0, List.map_cons, List.map_nil, List.replicate, List.cons_append, List.nil_append, List.set_cons_succ, List.set_cons_zero, List.getElem?_cons_zero, List.getElem?_cons_succ, Option.some.injEq, SV.fz.injEq, SV.ow.injEq, OD.lst.injEq, exists_eq_left', exists_eq_left, exists_and_left, exists_eq', true_and, and_true, D.bl.injEq, D.int.injEq, D.lst.injEq, D.tup.injEq, reduceCtorEq, false_and, and_false, or_false, false_or, if_true, if_false, Bool.false_eq_true, Bool.not_true, Bool.not_false, reduceIte, decide_eq_true_eq, List.length_cons, List.length_nil, List.length_map, List.length_range, setsE])
local macro_rules | `(tactic| walk_at "st") => `(tactic| (repeat (first | with_reducible refine gw_seq ?_ | with_reducible refine gw_next ?_ | ((first | with_reducible refine gw_set ?_ | with_reducible refine gw_asg ?_ | with_reducible refine gw_asgF ?_ | with_reducible refine gw_ret ?_ | with_reducible refine gw_retN ?_ | with_reducible refine gw_if ?_ | with_reducible refine gw_for ?_ | with_reducible refine gw_par ?_ | with_reducible refine gw_expr ?_ | rw [if_pos (by omega)] | rw [if_neg (by omega)] | with_reducible refine And.intro (by omega) ?_ | omega); try walk_at "ev"))))
local macro_rules | `(tactic| walk_at "ones") => `(tactic| repeat (first | with_reducible apply ones_seq | with_reducible apply ones_while | with_reducible apply ones_for | with_reducible apply ones_if | with_reducible apply ones_asg | with_reducible apply ones_asgF | with_reducible apply ones_fz | with_reducible apply ones_par | with_reducible apply ones_app | with_reducible apply ones_ext | with_reducible apply ones_appPop | with_reducible apply ones_put | with_reducible apply ones_dput | with_reducible apply ones_d0pop | with_reducible apply ones_d0popTo | with_reducible apply ones_d0app | with_reducible apply ones_d1set | with_reducible apply ones_ret | with_reducible apply ones_retN | with_reducible apply ones_next | with_reducible apply ones_break | with_reducible apply ones_cont | with_reducible apply ones_never | with_reducible apply ones_expr))
local macro_rules | `(tactic| walk_at "sz") => `(tactic| first | omega | (simp; done) | (simp; omega))
/-- the settings that go unnoticed -/
def unL (m n : Nat) (f : List Int → Int) (P : Nat → Bool) (s : List Int) : List (List Int) := (ch m (bits n P) s).filter fun t => decide (f t = f s)
theorem ev_law_unnoticed (m n : Nat) (f : List Int → Int) (P : Nat → Bool) (s : List Int) (hm : 2 ≤ m ∧ m ≤ 8) (hn : 1 ≤ n ∧ n ≤ 8) (hz : m ^ n ≤ 20000) (v : Val m n s) :
    R__law_unnoticed [.int m, .int n, lisD ((sets m n).map f), lisD s, tupD (lotL n P)] (.ok (.lst ((unL m n f P s).map fun s => tupD s))) := by
  refine ⟨rfl, ?_⟩
  unfold w__law_unnoticed
  walk_at "st"
  have hsl := v.1
  have hvl : ∀ k, k ≤ n → (ch m ((bits n P).take k) (s.take k)).length ≤ 20000 := fun k hk => by
    refine Nat.le_trans (ch_len (by omega) _ _) (Nat.le_trans (Nat.pow_le_pow_right (by omega) ?_) hz)
    rw [List.length_take, bits_len]; omega
  refine gr (fun k env _ => ∃ a b c d e g, env = [.fz (.int m), .fz (.int n), .fz (lisD ((sets m n).map f)), .fz (lisD s), .fz (tupD (lotL n P)), .fz (.lst ((ch m ((bits n P).take k) (s.take k)).map fun s => lisD s)), a, b, c, d, e, g]) ⟨.no, .no, .no, .no, .no, .no, by simp [ch]⟩ ?_ ?_
  · rintro k env s' hkn ⟨a, b, c, d, e, g, rfl⟩
    obtain ⟨x, hx, hx2⟩ := v.get hkn
    refine ⟨_, rfl, fun De' hn' => ?_⟩
    walk_at "st"
    refine gm (g := fun s => lisD s) (xs := ch m ((bits n P).take k) (s.take k)) (fun pr env _ => ∃ c d e, env = [.fz (.int m), .fz (.int n), .fz (lisD ((sets m n).map f)), .fz (lisD s), .fz (tupD (lotL n P)), .fz (.lst ((ch m ((bits n P).take k) (s.take k)).map fun s => lisD s)), .fz (.int k), .ow (.lst ((pr.flatMap fun t => (chs m (P k) x).map fun c => t ++ [c]).map fun s => lisD s)), c, d, e, g]) ⟨_, _, _, rfl⟩ ?_ ?_
    · rintro pr y po env s' e2 ⟨c, d, e, rfl⟩
      refine ⟨_, rfl, fun De' hn2 => ?_⟩
      have hv := hvl k (by omega)
      have hpl : pr.length < (ch m ((bits n P).take k) (s.take k)).length := by rw [e2]; simp
      have hc8 := chs_len (m := m) (by omega) (P k) x
      have hpo : (pr.flatMap fun t => (chs m (P k) x).map fun c => t ++ [c]).length = pr.length * (chs m (P k) x).length := by
        rw [List.length_flatMap]
        simp only [List.length_map]
        rw [List.map_const', List.sum_replicate_nat]
      have hpo2 : pr.length * (chs m (P k) x).length ≤ 20000 * 8 := Nat.mul_le_mul (by omega) (by omega)
      refine gw_seq (gw_set (Go.mono (Q := fun d s1 => d = lisD (chs m (P k) x) ∧ s1 = s') ?_ fun d s1 hd => ?_))
      · walk_at "ev"
        by_cases hP : P k = true
        · rw [if_pos (lotL_mem.mpr ⟨hkn, hP⟩), hP]
          refine ⟨by omega, _, _, coll_fltE D.int (fun c : Nat => decide ((c : Int) ≠ x)) (fun c : Nat => (c : Int)) (fun c hc => ?_), ?_⟩
          · walk_at "ev"
            refine ex_at (x := x) (by omega) (by simpa using hx) ?_
            walk_at "ev"
            split <;> rfl
          · have hl := List.length_filter_le (fun c : Nat => decide ((c : Int) ≠ x)) (List.range m)
            rw [List.length_range] at hl
            refine ⟨by rw [List.length_map, List.length_map]; omega, ?_⟩
            simp only [chs, if_true, ir, List.filter_map]
            trivial
        · rw [if_neg (fun z => hP (lotL_mem.mp z).2)]
          refine ex_at (x := x) (by omega) (by simpa using hx) ?_
          have hP : P k = false := by simpa using hP
          rw [hP]
          exact ⟨by omega, rfl⟩
      · obtain ⟨rfl, rfl⟩ := hd
        refine gw_ext rfl ?_
        walk_at "ev"
        have hyl : y.length ≤ 8 := by
          have : y ∈ ch m ((bits n P).take k) (s.take k) := by rw [e2]; simp
          have := ch_val (bs := (bits n P).take k) (m := m) ⟨by simp [bits_len, hsl], fun c hc => v.2 c (List.mem_of_mem_take hc)⟩ this
          rw [this.1, List.length_take, bits_len]; omega
        refine ⟨_, _, coll_map (h := fun c : Int => lisD (y ++ [c])) (fun c _ => ?_), ?_⟩
        · walk_at "ev"
          refine ⟨by omega, by omega, ?_⟩
          simp
        · refine ⟨by simp; omega, ?_, ?_⟩
          · simp only [List.length_map]
            rw [hpo]
            omega
          · refine hn2 _ _ ⟨.fz (lisD y), d, .fz (lisD (chs m (P k) x)), ?_⟩
            simp only [List.flatMap_append, List.map_append, List.flatMap_cons, List.flatMap_nil, List.append_nil, List.map_map, Function.comp_def]
    · rintro env s' ⟨c, d, e, rfl⟩
      refine gw_fz rfl ?_
      walk_at "st"
      have e1 : (bits n P).take (k + 1) = (bits n P).take k ++ [P k] := by
        rw [List.take_add_one, bits_get hkn]; rfl
      have e2 : s.take (k + 1) = s.take k ++ [x] := by
        rw [List.take_add_one, hx]; rfl
      rw [e1, e2, ch_snoc _ _ (by simp [bits_len, hsl])] at hn'
      exact hn' _ _ ⟨_, _, _, _, _, _, rfl⟩
  · rintro env s' ⟨a, b, c, d, e, g, rfl⟩
    walk_at "st"
    rw [List.take_of_length_le (by rw [bits_len]; omega), List.take_of_length_le (by omega)]
    refine ⟨_, ev_number m s (by omega), ex_at (x := f s) (num_lt v).1 (by rw [List.getElem?_map, sets_get v]; rfl) ?_⟩
    walk_at "st"
    have hll := hvl n (by omega)
    rw [List.take_of_length_le (by rw [bits_len]; omega), List.take_of_length_le (by omega)] at hll
    refine ⟨_, _, coll_fltE (fun s => tupD s) (fun t => decide (f t = f s)) (fun t => t) (fun t ht => ?_), ?_⟩
    · have vt : Val m n t := by
        have := ch_val (bs := bits n P) (by rw [bits_len]; exact v) ht
        rwa [bits_len] at this
      walk_at "ev"
      refine ⟨_, ev_number m t (by omega), ex_at (x := f t) (num_lt vt).1 (by rw [List.getElem?_map, sets_get vt]; rfl) ?_⟩
      walk_at "ev"
      split <;> rfl
    · have h1 := List.length_filter_le (fun t => decide (f t = f s)) (ch m (bits n P) s)
      refine ⟨by simp; omega, ?_⟩
      simp [unL]
end K82
namespace K82
open PySem PySem.Spec PyProof.Rows L2 Pl RT Mt
local macro_rules | `(tactic| walk_at "ev") => `(tactic| try simp only [go_C, go_var, go_bin, go_un, go_and, go_or, go_not, go_tB1, go_if, go_bAnd, go_bOr, go_bNot, go_yes, go_nil, go_cons, go_tup, go_lst, Pl.go_of, go_Ca, go_fCa, go_fld, go_call, go_callKw, go_callG, go_lOf, go_lOwn, go_ixL, go_bor, go_bBor, go_sl, go_oNo, go_oSome, go_tupRev, go_revL, go_it, go_lc, go_cStep, go_cStep2, go_chain, go_mNil, go_mFz, go_mOw, go_rep, go_rg1, go_make, go_lenO, go_callO, go_dgetO, go_dinO, go_dicK, go_dicT, go_idx, go_eLam, go_eLamM, go_callPk, ex_inTups, ex_repT, ex_eqNil, ex_eqT, ex_eqL, ex_eqNilTI, ex_neNilTI, ex_sorted, ex_neNilI, ex_neNilT, ex_any, cut_pop, cut_last, ex_ltT, Option.isSome_some, Option.isSome_none, go_d1, go_d0ix, go_d0ne,
  ex_onI, ex_add, ex_eqI, ex_neI, ex_neB, ex_neL, ex_neT, ex_neL1, ex_neL11, List.filterMap_cons, List.filterMap_nil, ex_int1, ex_bl, ex_int, ex_someI, ex_R1, ex_R2, ex_itL, ex_itT, ex_itF, ex_revL, ex_revT, ex_enL, ex_enT, ex_zTL, ex_zTT, ex_zLT, ex_zLL, ex_lenL, ex_lenT, ex_tupL, ex_tupT, ex_lisL, ex_lisT, ex_lstD, ex_lstF, ex_abs, ex_neg, ex_ixL, ex_ixT, ex_slL, ex_slT, ex_slF, ex_addL, ex_addT, ex_isN, ex_notN, ex_sum, ex_inI, ex_inIT, fld_many, fld_sizes, fld_marks, fld_steps, isNon_non, isNon_tup, isNon_lst, isNon_int, isNon_str, isNon_bl, mulC_iff, PySem.sizeLine_eq, decide_true, decide_false, Nat.zero_le, Bool.not_eq_true', decide_eq_false_iff_not, ite_not, dEnd_rt, rtE_rt, gEnd_rt, dEnd_nx, gEnd_nx, or_ite1, or_ite2, or_ite3, or_ite4, onI_bl, isi_ii, isi_ib, isi_tt, isi_Llt, isi_Tlt, Oc.ok.injEq,
  Int.toNat_natCast, Int.zero_add, put_nm, put_tpT, put_tpL, puts_nil, puts_cons, Option.bind_some, OD.d, wipeE, pick, Function.comp_apply,
  env0, List.map_cons, List.map_nil, List.replicate, List.cons_append, List.nil_append, List.set_cons_succ, List.set_cons_zero, List.getElem?_cons_zero, List.getElem?_cons_succ, Option.some.injEq, SV.fz.injEq, SV.ow.injEq, OD.lst.injEq, exists_eq_left', exists_eq_left, exists_and_left, exists_eq', true_and, and_true, D.bl.injEq, D.int.injEq, D.lst.injEq, D.tup.injEq, reduceCtorEq, false_and, and_false, or_false, false_or, if_true, if_false, Bool.false_eq_true, Bool.not_true, Bool.not_false, reduceIte, decide_eq_true_eq, List.length_cons, List.length_nil, List.length_map, List.length_range, setsE])
local macro_rules | `(tactic| walk_at "st") => `(tactic| (repeat (first | with_reducible refine gw_seq ?_ | with_reducible refine gw_next ?_ | ((first | with_reducible refine gw_set ?_ | with_reducible refine gw_asg ?_ | with_reducible refine gw_asgF ?_ | with_reducible refine gw_ret ?_ | with_reducible refine gw_retN ?_ | with_reducible refine gw_if ?_ | with_reducible refine gw_for ?_ | with_reducible refine gw_par ?_ | with_reducible refine gw_expr ?_ | rw [if_pos (by omega)] | rw [if_neg (by omega)] | with_reducible refine And.intro (by omega) ?_ | omega); try walk_at "ev"))))
local macro_rules | `(tactic| walk_at "ones") => `(tactic| repeat (first | with_reducible apply ones_seq | with_reducible apply ones_while | with_reducible apply ones_for | with_reducible apply ones_if | with_reducible apply ones_asg | with_reducible apply ones_asgF | with_reducible apply ones_fz | with_reducible apply ones_par | with_reducible apply ones_app | with_reducible apply ones_ext | with_reducible apply ones_appPop | with_reducible apply ones_put | with_reducible apply ones_dput | with_reducible apply ones_d0pop | with_reducible apply ones_d0popTo | with_reducible apply ones_d0app | with_reducible apply ones_d1set | with_reducible apply ones_ret | with_reducible apply ones_retN | with_reducible apply ones_next | with_reducible apply ones_break | with_reducible apply ones_cont | with_reducible apply ones_never | with_reducible apply ones_expr))
local macro_rules | `(tactic| walk_at "sz") => `(tactic| first | omega | (simp; done) | (simp; omega))
theorem natL_len (l : List Nat) : (natL l).length = l.length := by simp
theorem ev_nth_un (C CR CL CI : Addr) (m n : Nat) (f : List Int → Int) (sd ld : D) (s : List Int) (l : List Nat) (k : Nat) (t : List Int) (hsd : sd = lisD s ∨ sd = tupD s) (hld : ld = lisD (natL l) ∨ ld = tupD (natL l)) (hm : 2 ≤ m ∧ m ≤ 8) (hn : 1 ≤ n ∧ n ≤ 8) (hz : m ^ n ≤ 20000) (hf : FairF m n f) (v : Val m n s) (hl : Lot n l) (hl8 : l.length ≤ 8)
    (ht : ((ch m (lb n l) s).filter fun t => decide (f t = f s))[k]? = some t) : R_nth_unnoticed C CR CL CI [bdf C m n f, sd, ld, .int k] (.ok (tupD t)) := by
  have hix : ∀ (p : Nat) (c : Int), s[p]? = some c → dIx sd (.int p) = some (.int c) := fun p c h => by
    rcases hsd with rfl | rfl
    · exact at_nat (by rw [List.getElem?_map, h]; rfl)
    · exact at_nat (by rw [List.getElem?_map, h]; rfl)
  have htu : dTuple [sd] = some (tupD s) := by
    rcases hsd with rfl | rfl
    · rfl
    · rfl
  have hcnt := ch_count (bs := lb n l) (f := f) (s := s) (o := f s) (by rw [lb_len]; exact hf) (by rw [lb_len]; exact v) (hf.1 s v)
  rw [if_pos rfl, lb_ones hl.up hl.lt] at hcnt
  have hkl := (List.getElem?_eq_some_iff.mp ht).1
  refine ⟨rfl, ?_⟩
  unfold w_nth_unnoticed
  walk_at "st"
  refine ⟨_, ev_need_fair C CR m n f hm hn.2 hz (base_of_fair hf (by omega)), ?_⟩
  walk_at "st"
  refine ⟨_, ev_need_lot C CL m n f l ld hld hl hn.2 hl8, ?_⟩
  walk_at "st"
  refine ⟨_, ev_is_number k, ?_⟩
  walk_at "ev"
  rw [if_pos (by omega)]
  refine ⟨_, ev_unnoticed_many m l.length (by omega) (by omega), ?_⟩
  walk_at "ev"
  rw [if_neg (by omega)]
  walk_at "st"
  refine ⟨_, htu, ?_⟩
  walk_at "st"
  refine ge (g := D.int) (xs := natL l) (fun j env _ => ∃ (fd : List Int) (num : Nat) (a b c d e : SV), Val m n fd ∧ (∀ p ∈ l.drop j, fd[p]? = s[p]?) ∧ ((ch m (lb n (l.drop j)) fd).filter fun t => decide (f t = f s))[num]? = some t ∧
    env = [.fz (bdf C m n f), .fz sd, .fz (tupD (natL l)), .fz (.int num), .fz (tupD fd), a, b, c, d, e]) ⟨s, k, _, _, _, _, _, v, fun _ _ => rfl, ht, rfl⟩ ?_ ?_
  · rintro j x env s' hx ⟨fd, num, a, b, c, d, e, vf, hag, hnum, rfl⟩
    rw [List.getElem?_map, Option.map_eq_some_iff] at hx
    obtain ⟨p, hp, rfl⟩ := hx
    obtain ⟨hjl, hpe⟩ := List.getElem?_eq_some_iff.mp hp
    have hdr : l.drop j = p :: l.drop (j + 1) := by rw [List.drop_eq_getElem_cons hjl, hpe]
    have hpn := hl.lt p (List.mem_of_getElem? hp)
    refine ⟨_, rfl, fun De' hn' => ?_⟩
    walk_at "st"
    obtain ⟨xv, hxv, hxv2⟩ := v.get hpn
    have hfx : fd[p]? = some xv := by rw [hag p (by rw [hdr]; exact List.mem_cons_self), hxv]
    have hup : (p :: l.drop (j + 1)).Pairwise (· < ·) := by rw [← hdr]; exact List.Pairwise.drop hl.up
    have hfst := lb_first hup hpn
    rw [hdr, tl_zero (by rw [lb_len]; exact vf.1) hfst.1 hfst.2 hfx] at hnum
    have hG : ∀ c : Nat, c < m → (c : Int) ≠ xv → gr1 m (lb n (p :: l.drop (j + 1))) fd f (f s) p xv c = (ch m (lb n (l.drop (j + 1))) (fd.set p c)).filter fun t => decide (f t = f s) := fun c hc hne => by
      unfold gr1
      rw [if_pos hne, lb_set hup hpn]
    have hlen : ∀ c : Nat, c < m → (c : Int) ≠ xv → ((gr1 m (lb n (p :: l.drop (j + 1))) fd f (f s) p xv c).length : Int) = if f (fd.set p c) = f s then (chm m (l.length - j - 1)).1 else (chm m (l.length - j - 1)).2 := fun c hc hne => by
      have := ch_count (bs := lb n (l.drop (j + 1))) (f := f) (s := fd.set p c) (o := f s) (by rw [lb_len]; exact hf) (by rw [lb_len]; exact vf.set (by omega)) (hf.1 s v)
      rw [lb_ones (List.pairwise_cons.mp hup).2 (fun q hq => hl.lt q (List.mem_of_mem_drop hq)), List.length_drop] at this
      rw [hG c hc hne, this, show l.length - (j + 1) = l.length - j - 1 by omega]
    refine gf_rng (fun c env _ => ∃ (nu : Nat) (a b e : SV), (tl m (gr1 m (lb n (p :: l.drop (j + 1))) fd f (f s) p xv) c)[nu]? = some t ∧ env = [.fz (bdf C m n f), .fz sd, .fz (tupD (natL l)), .fz (.int nu), .fz (tupD fd), .fz (.int j), .fz (.int p), a, b, e]) ⟨num, _, _, _, hnum, rfl⟩ ?_ ?_
    · rintro cc env s2 hcc ⟨nu, a, b, e, hnu, rfl⟩
      refine ⟨_, rfl, fun De2 hn2 _ hbk _ _ => ?_⟩
      rw [tl_step _ hcc] at hnu
      walk_at "st"
      refine ⟨_, hix p xv hxv, ?_⟩
      walk_at "ev"
      by_cases hne : (cc : Int) = xv
      · rw [if_pos hne]
        walk_at "st"
        have : gr1 m (lb n (p :: l.drop (j + 1))) fd f (f s) p xv cc = [] := by unfold gr1; rw [if_neg (by simpa using hne)]
        rw [this, List.nil_append] at hnu
        exact hn2 _ _ ⟨nu, _, _, _, hnu, rfl⟩
      · rw [if_neg hne]
        walk_at "st"
        have vc : Val m n (fd.set p cc) := vf.set (by omega)
        refine ⟨_, ev_with_content_T fd p cc (by rw [vf.1]; exact hpn) (by rw [vf.1]; omega), ?_⟩
        walk_at "st"
        rw [show (l.length : Int) - j - 1 = ((l.length - j - 1 : Nat) : Int) by omega]
        refine ⟨_, ev_changed_left C m n (l.length - j - 1) f sd s (fd.set p cc) hsd hm (by omega) v vc, ?_⟩
        rw [← hlen cc hcc hne]
        refine gw_seq (gw_if ?_)
        walk_at "ev"
        by_cases hlt : (nu : Int) < (gr1 m (lb n (p :: l.drop (j + 1))) fd f (f s) p xv cc).length
        · rw [if_pos hlt]
          walk_at "st"
          refine gw_break ?_
          show De2.bk _ _
          rw [hbk]
          rw [List.getElem?_append_left (by omega), hG cc hcc hne] at hnu
          refine hn' _ _ ⟨fd.set p cc, nu, _, _, _, _, _, vc, fun q hq => ?_, hnu, rfl⟩
          have hpq := (List.pairwise_cons.mp hup).1 q hq
          rw [List.getElem?_set_ne (by omega)]
          exact hag q (by rw [hdr]; exact List.mem_cons_of_mem _ hq)
        · rw [if_neg hlt]
          refine gw_next (gw_aug rfl ?_)
          walk_at "ev"
          rw [List.getElem?_append_right (by omega)] at hnu
          have e9 : (nu : Int) - (gr1 m (lb n (p :: l.drop (j + 1))) fd f (f s) p xv cc).length = ((nu - (gr1 m (lb n (p :: l.drop (j + 1))) fd f (f s) p xv cc).length : Nat) : Int) := by omega
          rw [e9]
          exact hn2 _ _ ⟨_, _, _, _, hnu, rfl⟩
    · rintro env s2 ⟨nu, a, b, e, hnu, rfl⟩
      rw [tl_end] at hnu
      simp at hnu
  · rintro env s' ⟨fd, num, a, b, c, d, e, vf, hag, hnum, rfl⟩
    rw [natL_len, List.drop_of_length_le (Nat.le_refl _), ch_end (by rw [lb_len]; exact vf.1) (lb_nil n)] at hnum
    have : t = fd := by
      rw [List.filter_cons] at hnum
      split at hnum
      · cases num with
        | zero => simpa using hnum.symm
        | succ q => simp at hnum
      · simp at hnum
    walk_at "st"
    rw [this]
end K82
namespace K82
open PySem PySem.Spec PyProof.Rows L2 Pl RT Mt
local macro_rules | `(tactic| walk_at "ev") => `(tactic| try simp only [go_C, go_var, go_bin, go_un, go_and, go_or, go_not, go_tB1, go_if, go_bAnd, go_bOr, go_bNot, go_yes, go_nil, go_cons, go_tup, go_lst, Pl.go_of, go_Ca, go_fCa, go_fld, go_call, go_callKw, go_callG, go_lOf, go_lOwn, go_ixL, go_bor, go_bBor, go_sl, go_oNo, go_oSome, go_tupRev, go_revL, go_it, go_lc, go_cStep, go_cStep2, go_chain, go_mNil, go_mFz, go_mOw, go_rep, go_rg1, go_make, go_lenO, go_callO, go_dgetO, go_dinO, go_dicK, go_dicT, go_idx, go_eLam, go_eLamM, go_callPk, ex_inTups, ex_repT, ex_eqNil, ex_eqT, ex_eqL, ex_eqNilTI, ex_neNilTI, ex_sorted, ex_neNilI, ex_neNilT, ex_any, cut_pop, cut_last, ex_ltT, Option.isSome_some, Option.isSome_none, go_d1, go_d0ix, go_d0ne,
  ex_onI, ex_add, ex_eqI, ex_neI, ex_neB, ex_neL, ex_neT, ex_neL1, ex_neL11, List.filterMap_cons, List.filterMap_nil, ex_int1, ex_bl, ex_int, ex_someI, ex_R1, ex_R2, ex_itL, ex_itT, ex_itF, ex_revL, ex_revT, ex_enL, ex_enT, ex_zTL, ex_zTT, ex_zLT, ex_zLL, ex_lenL, ex_lenT, ex_tupL, ex_tupT, ex_lisL, ex_lisT, ex_lstD, ex_lstF, ex_abs, ex_neg, ex_ixL, ex_ixT, ex_slL, ex_slT, ex_slF, ex_addL, ex_addT, ex_isN, ex_notN, ex_sum, ex_inI, ex_inIT, fld_many, fld_sizes, fld_marks, fld_steps, isNon_non, isNon_tup, isNon_lst, isNon_int, isNon_str, isNon_bl, mulC_iff, PySem.sizeLine_eq, decide_true, decide_false, Nat.zero_le, Bool.not_eq_true', decide_eq_false_iff_not, ite_not, dEnd_rt, rtE_rt, gEnd_rt, dEnd_nx, gEnd_nx, or_ite1, or_ite2, or_ite3, or_ite4, onI_bl, isi_ii, isi_ib, isi_tt, isi_Llt, isi_Tlt, Oc.ok.injEq,
  Int.toNat_natCast, Int.zero_add, put_nm, put_tpT, put_tpL, puts_nil, puts_cons, Option.bind_some, OD.d, wipeE, pick, Function.comp_apply,
  env0, List.map_cons, List.map_nil, List.replicate, List.cons_append, List.nil_append, List.set_cons_succ, List.set_cons_zero, List.getElem?_cons_zero, List.getElem?_cons_succ, Option.some.injEq, SV.fz.injEq, SV.ow.injEq, OD.lst.injEq, exists_eq_left', exists_eq_left, exists_and_left, exists_eq', true_and, and_true, D.bl.injEq, D.int.injEq, D.lst.injEq, D.tup.injEq, reduceCtorEq, false_and, and_false, or_false, false_or, if_true, if_false, Bool.false_eq_true, Bool.not_true, Bool.not_false, reduceIte, decide_eq_true_eq, List.length_cons, List.length_nil, List.length_map, List.length_range, setsE])
local macro_rules | `(tactic| walk_at "st") => `(tactic| (repeat (first | with_reducible refine gw_seq ?_ | with_reducible refine gw_next ?_ | ((first | with_reducible refine gw_set ?_ | with_reducible refine gw_asg ?_ | with_reducible refine gw_asgF ?_ | with_reducible refine gw_ret ?_ | with_reducible refine gw_retN ?_ | with_reducible refine gw_if ?_ | with_reducible refine gw_for ?_ | with_reducible refine gw_par ?_ | with_reducible refine gw_expr ?_ | rw [if_pos (by omega)] | rw [if_neg (by omega)] | with_reducible refine And.intro (by omega) ?_ | omega); try walk_at "ev"))))
local macro_rules | `(tactic| walk_at "ones") => `(tactic| repeat (first | with_reducible apply ones_seq | with_reducible apply ones_while | with_reducible apply ones_for | with_reducible apply ones_if | with_reducible apply ones_asg | with_reducible apply ones_asgF | with_reducible apply ones_fz | with_reducible apply ones_par | with_reducible apply ones_app | with_reducible apply ones_ext | with_reducible apply ones_appPop | with_reducible apply ones_put | with_reducible apply ones_dput | with_reducible apply ones_d0pop | with_reducible apply ones_d0popTo | with_reducible apply ones_d0app | with_reducible apply ones_d1set | with_reducible apply ones_ret | with_reducible apply ones_retN | with_reducible apply ones_next | with_reducible apply ones_break | with_reducible apply ones_cont | with_reducible apply ones_never | with_reducible apply ones_expr))
local macro_rules | `(tactic| walk_at "sz") => `(tactic| first | omega | (simp; done) | (simp; omega))
theorem ev_isnt (d : D) (t : String) (b b2 : Bool) (h : tyD d = some t) (h1 : kitB t "int" = some b) (h2 : kitB t "bool" = some b2) (hb : (b && !b2) = false) : R_is_integer [d] (.ok (.bl false)) := by
  refine ⟨rfl, gw_ret ?_⟩
  walk_at "ev"
  refine isi_any h h1 ?_
  cases b
  · walk_at "ev"
  · walk_at "ev"
    refine isi_any h h2 ?_
    simp at hb
    subst hb
    walk_at "ev"
theorem ev_isnt_number (d : D) (t : String) (b b2 : Bool) (h : tyD d = some t) (h1 : kitB t "int" = some b) (h2 : kitB t "bool" = some b2) (hb : (b && !b2) = false) : R_is_number [d] (.ok (.bl false)) := by
  refine ⟨rfl, gw_ret ?_⟩
  walk_at "ev"
  refine ⟨_, ev_isnt d t b b2 h h1 h2 hb, ?_⟩
  walk_at "ev"
/-- no number below a bound -/
def Bey (d : D) (k : Nat) : Prop := (∃ i : Int, d = .int i ∧ (i < 0 ∨ k ≤ i)) ∨ R_is_number [d] (.ok (.bl false))
theorem ev_un_beyond (C CR CL CI : Addr) (m n : Nat) (f : List Int → Int) (sd ld d : D) (s : List Int) (l : List Nat) (hld : ld = lisD (natL l) ∨ ld = tupD (natL l)) (hm : 2 ≤ m ∧ m ≤ 8) (hn : 1 ≤ n ∧ n ≤ 8) (hz : m ^ n ≤ 20000) (hf : FairF m n f) (v : Val m n s) (hl : Lot n l) (hl8 : l.length ≤ 8)
    (hd : Bey d ((ch m (lb n l) s).filter fun t => decide (f t = f s)).length) : R_nth_unnoticed C CR CL CI [bdf C m n f, sd, ld, d] (.ex CI ["word"] [.str "number"]) := by
  have hcnt := ch_count (bs := lb n l) (f := f) (s := s) (o := f s) (by rw [lb_len]; exact hf) (by rw [lb_len]; exact v) (hf.1 s v)
  rw [if_pos rfl, lb_ones hl.up hl.lt] at hcnt
  refine ⟨rfl, ?_⟩
  unfold w_nth_unnoticed
  walk_at "st"
  refine ⟨_, ev_need_fair C CR m n f hm hn.2 hz (base_of_fair hf (by omega)), ?_⟩
  walk_at "st"
  refine ⟨_, ev_need_lot C CL m n f l ld hld hl hn.2 hl8, ?_⟩
  walk_at "st"
  rcases hd with ⟨i, rfl, hi⟩ | hd
  · refine ⟨_, ev_is_number i, ?_⟩
    walk_at "ev"
    by_cases h0 : 0 ≤ i
    · rw [if_pos h0]
      refine ⟨_, ev_unnoticed_many m l.length (by omega) (by omega), ?_⟩
      walk_at "ev"
      rw [if_pos (by omega)]
      refine go_run ?_
      walk_at "ev"
      rfl
    · rw [if_neg h0]
      refine go_run ?_
      walk_at "ev"
      rfl
  · refine ⟨_, hd, ?_⟩
    walk_at "ev"
    refine go_run ?_
    walk_at "ev"
    rfl
theorem ev_un_lot (C CR CL CI : Addr) (m n : Nat) (f : List Int → Int) (sd ld d x : D) (hm : 2 ≤ m ∧ m ≤ 8) (hn : 1 ≤ n ∧ n ≤ 8) (hz : m ^ n ≤ 20000) (hf : FairF m n f)
    (h : R_need_lot CL C [bdf C m n f, ld] (.ex CL ["at"] [x])) : R_nth_unnoticed C CR CL CI [bdf C m n f, sd, ld, d] (.ex CL ["at"] [x]) := by
  refine ⟨rfl, ?_⟩
  unfold w_nth_unnoticed
  walk_at "st"
  refine ⟨_, ev_need_fair C CR m n f hm hn.2 hz (base_of_fair hf (by omega)), ?_⟩
  refine gw_seq ?_
  exact ⟨.ex CL ["at"] [x], (), call_ex (by walk_at "ev"; exact h), rfl⟩
theorem ev_un_no (C CR CL CI : Addr) (m n : Nat) (f : List Int → Int) (sd ld d : D) (hm : 2 ≤ m ∧ m ≤ 8) (hn : n ≤ 8) (hz : m ^ n ≤ 20000) (hf : ¬ Lines m n f) : ∃ r, R_nth_unnoticed C CR CL CI [bdf C m n f, sd, ld, d] (.ex CR ["at"] [.tup (.str "twice" :: r)]) := by
  obtain ⟨r, hr⟩ := ev_need_no C CR m n f hm hn hz hf
  refine ⟨r, rfl, ?_⟩
  unfold w_nth_unnoticed
  refine gw_seq ?_
  exact ⟨.ex CR ["at"] [.tup (.str "twice" :: r)], (), call_ex (by walk_at "ev"; exact hr), rfl⟩
theorem ev_number_no (C CR : Addr) (m n : Nat) (f : List Int → Int) (sd wd : D) (hm : 2 ≤ m ∧ m ≤ 8) (hn : n ≤ 8) (hz : m ^ n ≤ 20000) (hf : ¬ Lines m n f) : ∃ r, R_unnoticed_number C CR [bdf C m n f, sd, wd] (.ex CR ["at"] [.tup (.str "twice" :: r)]) := by
  obtain ⟨r, hr⟩ := ev_need_no C CR m n f hm hn hz hf
  refine ⟨r, rfl, ?_⟩
  unfold w_unnoticed_number
  refine gw_seq ?_
  exact ⟨.ex CR ["at"] [.tup (.str "twice" :: r)], (), call_ex (by walk_at "ev"; exact hr), rfl⟩
end K82
namespace K82
open PySem PySem.Spec PyProof.Rows L2 Pl RT Mt
local macro_rules | `(tactic| walk_at "ev") => `(tactic| try simp only [go_C, go_var, go_bin, go_un, go_and, go_or, go_not, go_tB1, go_if, go_bAnd, go_bOr, go_bNot, go_yes, go_nil, go_cons, go_tup, go_lst, Pl.go_of, go_Ca, go_fCa, go_fld, go_call, go_callKw, go_callG, go_lOf, go_lOwn, go_ixL, go_bor, go_bBor, go_sl, go_oNo, go_oSome, go_tupRev, go_revL, go_it, go_lc, go_cStep, go_cStep2, go_chain, go_mNil, go_mFz, go_mOw, go_rep, go_rg1, go_make, go_lenO, go_callO, go_dgetO, go_dinO, go_dicK, go_dicT, go_idx, go_eLam, go_eLamM, go_callPk, ex_inTups, ex_repT, ex_eqNil, ex_eqT, ex_eqL, ex_eqNilTI, ex_neNilTI, ex_sorted, ex_neNilI, ex_neNilT, ex_any, cut_pop, cut_last, ex_ltT, Option.isSome_some, Option.isSome_none, go_d1, go_d0ix, go_d0ne,
  ex_onI, ex_add, ex_eqI, ex_neI, ex_neB, ex_neL, ex_neT, ex_neL1, ex_neL11, List.filterMap_cons, List.filterMap_nil, ex_int1, ex_bl, ex_int, ex_someI, ex_R1, ex_R2, ex_itL, ex_itT, ex_itF, ex_revL, ex_revT, ex_enL, ex_enT, ex_zTL, ex_zTT, ex_zLT, ex_zLL, ex_lenL, ex_lenT, ex_tupL, ex_tupT, ex_lisL, ex_lisT, ex_lstD, ex_lstF, ex_abs, ex_neg, ex_ixL, ex_ixT, ex_slL, ex_slT, ex_slF, ex_addL, ex_addT, ex_isN, ex_notN, ex_sum, ex_inI, ex_inIT, fld_many, fld_sizes, fld_marks, fld_steps, isNon_non, isNon_tup, isNon_lst, isNon_int, isNon_str, isNon_bl, mulC_iff, PySem.sizeLine_eq, decide_true, decide_false, Nat.zero_le, Bool.not_eq_true', decide_eq_false_iff_not, ite_not, dEnd_rt, rtE_rt, gEnd_rt, dEnd_nx, gEnd_nx, or_ite1, or_ite2, or_ite3, or_ite4, onI_bl, isi_ii, isi_ib, isi_tt, isi_Llt, isi_Tlt, Oc.ok.injEq,
  Int.toNat_natCast, Int.zero_add, put_nm, put_tpT, put_tpL, puts_nil, puts_cons, Option.bind_some, OD.d, wipeE, pick, Function.comp_apply,
  env0, List.map_cons, List.map_nil, List.replicate, List.cons_append, List.nil_append, List.set_cons_succ, List.set_cons_zero, List.getElem?_cons_zero, List.getElem?_cons_succ, Option.some.injEq, SV.fz.injEq, SV.ow.injEq, OD.lst.injEq, exists_eq_left', exists_eq_left, exists_and_left, exists_eq', true_and, and_true, D.bl.injEq, D.int.injEq, D.lst.injEq, D.tup.injEq, reduceCtorEq, false_and, and_false, or_false, false_or, if_true, if_false, Bool.false_eq_true, Bool.not_true, Bool.not_false, reduceIte, decide_eq_true_eq, List.length_cons, List.length_nil, List.length_map, List.length_range, setsE])
local macro_rules | `(tactic| walk_at "st") => `(tactic| (repeat (first | with_reducible refine gw_seq ?_ | with_reducible refine gw_next ?_ | ((first | with_reducible refine gw_set ?_ | with_reducible refine gw_asg ?_ | with_reducible refine gw_asgF ?_ | with_reducible refine gw_ret ?_ | with_reducible refine gw_retN ?_ | with_reducible refine gw_if ?_ | with_reducible refine gw_for ?_ | with_reducible refine gw_par ?_ | with_reducible refine gw_expr ?_ | rw [if_pos (by omega)] | rw [if_neg (by omega)] | with_reducible refine And.intro (by omega) ?_ | omega); try walk_at "ev"))))
local macro_rules | `(tactic| walk_at "ones") => `(tactic| repeat (first | with_reducible apply ones_seq | with_reducible apply ones_while | with_reducible apply ones_for | with_reducible apply ones_if | with_reducible apply ones_asg | with_reducible apply ones_asgF | with_reducible apply ones_fz | with_reducible apply ones_par | with_reducible apply ones_app | with_reducible apply ones_ext | with_reducible apply ones_appPop | with_reducible apply ones_put | with_reducible apply ones_dput | with_reducible apply ones_d0pop | with_reducible apply ones_d0popTo | with_reducible apply ones_d0app | with_reducible apply ones_d1set | with_reducible apply ones_ret | with_reducible apply ones_retN | with_reducible apply ones_next | with_reducible apply ones_break | with_reducible apply ones_cont | with_reducible apply ones_never | with_reducible apply ones_expr))
local macro_rules | `(tactic| walk_at "sz") => `(tactic| first | omega | (simp; done) | (simp; omega))
/-- the places at which two settings differ -/
def dfl (n : Nat) (s t : List Int) : List Nat := (List.range n).filter fun p => decide (s[p]? ≠ t[p]?)
theorem dfl_mem {n p : Nat} {s t : List Int} : p ∈ dfl n s t ↔ p < n ∧ s[p]? ≠ t[p]? := by simp [dfl]
theorem dfl_up (n : Nat) (s t : List Int) : (dfl n s t).Pairwise (· < ·) := List.Pairwise.filter _ List.pairwise_lt_range
theorem ev_dfl {De : DE Unit} (n : Nat) : True := trivial
theorem ev_un_number (C CR : Addr) (m n : Nat) (f : List Int → Int) (sd wd : D) (s t : List Int) (hsd : sd = lisD s ∨ sd = tupD s) (hwd : wd = lisD t ∨ wd = tupD t) (hm : 2 ≤ m ∧ m ≤ 8) (hn : 1 ≤ n ∧ n ≤ 8) (hz : m ^ n ≤ 20000) (hf : FairF m n f) (v : Val m n s) (vt : Val m n t) :
    ∃ d, R_unnoticed_number C CR [bdf C m n f, sd, wd] (.ok d) ∧ (dfl n s t = [] ∨ f s ≠ f t → d = .non) ∧ ∀ k : Nat, dfl n s t ≠ [] → ((ch m (lb n (dfl n s t)) s).filter fun t => decide (f t = f s))[k]? = some t → d = .int k := by
  have hix : ∀ (sd : D) (s : List Int), sd = lisD s ∨ sd = tupD s → ∀ (p : Nat) (c : Int), s[p]? = some c → dIx sd (.int p) = some (.int c) := fun sd s hsd p c h => by
    rcases hsd with rfl | rfl
    · exact at_nat (by rw [List.getElem?_map, h]; rfl)
    · exact at_nat (by rw [List.getElem?_map, h]; rfl)
  have htu : dTuple [sd] = some (tupD s) := by
    rcases hsd with rfl | rfl
    · rfl
    · rfl
  have hdl : (dfl n s t).length ≤ n := by
    have := List.length_filter_le (fun p => decide (s[p]? ≠ t[p]?)) (List.range n)
    rw [List.length_range] at this
    exact this
  suffices hh : ∀ d, ((dfl n s t = [] ∨ f s ≠ f t) → d = .non) → (∀ k : Nat, dfl n s t ≠ [] → ((ch m (lb n (dfl n s t)) s).filter fun t => decide (f t = f s))[k]? = some t → d = .int k) → (dfl n s t = [] ∨ f s ≠ f t ∨ ∃ k : Nat, ((ch m (lb n (dfl n s t)) s).filter fun t => decide (f t = f s))[k]? = some t) → R_unnoticed_number C CR [bdf C m n f, sd, wd] (.ok d) by
    by_cases h : dfl n s t = [] ∨ f s ≠ f t
    · exact ⟨.non, hh _ (fun _ => rfl) (fun k hne hk => by
        rcases h with h | h
        · exact absurd h hne
        · have := List.mem_of_getElem? hk
          rw [List.mem_filter] at this
          exact absurd (by simpa using this.2) (Ne.symm h)) (by rcases h with h | h <;> simp [h]), fun _ => rfl, fun k hne hk => by
        rcases h with h | h
        · exact absurd h hne
        · have := List.mem_of_getElem? hk
          rw [List.mem_filter] at this
          exact absurd (by simpa using this.2) (Ne.symm h)⟩
    · have h1 : dfl n s t ≠ [] := fun z => h (.inl z)
      have h2 : f s = f t := Classical.byContradiction fun z => h (.inr z)
      have hmem : t ∈ (ch m (lb n (dfl n s t)) s).filter fun t => decide (f t = f s) := by
        rw [List.mem_filter]
        refine ⟨(mem_ch (by rw [lb_len]; exact v) (by rw [lb_len]; exact vt)).mpr fun p x y hx hy => ?_, by simp [h2]⟩
        have hpn : p < n := by rw [← v.1]; exact (List.getElem?_eq_some_iff.mp hx).1
        rw [lb_get hpn]
        simp only [Option.some.injEq, decide_eq_true_eq, dfl_mem, hx, hy, ne_eq, hpn, true_and]
        exact ⟨fun z w => z w.symm, fun z w => z w.symm⟩
      obtain ⟨k, hk⟩ := List.mem_iff_getElem?.mp hmem
      have hu : ∀ j : Nat, ((ch m (lb n (dfl n s t)) s).filter fun t => decide (f t = f s))[j]? = some t → j = k := fun j hj => by
        have hnd := List.Pairwise.filter (fun t => decide (f t = f s)) (List.nodup_iff_pairwise_ne.mp (ch_nodup (m := m) (lb n (dfl n s t)) s))
        obtain ⟨a1, a2⟩ := List.getElem?_eq_some_iff.mp hj
        obtain ⟨b1, b2⟩ := List.getElem?_eq_some_iff.mp hk
        exact (List.getElem_inj (List.nodup_iff_pairwise_ne.mpr hnd)).mp (a2.trans b2.symm)
      exact ⟨.int k, hh _ (fun z => absurd z h) (fun j _ hj => by rw [hu j hj]) (.inr (.inr ⟨k, hk⟩)), fun z => absurd z h, fun j _ hj => by rw [hu j hj]⟩
  intro d hd1 hd2 hd3
  refine ⟨rfl, ?_⟩
  unfold w_unnoticed_number
  walk_at "st"
  refine ⟨_, ev_need_fair C CR m n f hm hn.2 hz (base_of_fair hf (by omega)), ?_⟩
  walk_at "st"
  refine ⟨ins_bd, _, ev_len C m n _, ?_⟩
  walk_at "ev"
  refine ⟨by omega, by omega, by omega, _, _, coll_fltE (fun p : Nat => D.int p) (fun p => decide (s[p]? ≠ t[p]?)) (fun p => p) (fun p hp => ?_), ?_⟩
  · have hpn := List.mem_range.mp hp
    obtain ⟨x, hx, _⟩ := v.get hpn
    obtain ⟨y, hy, _⟩ := vt.get hpn
    walk_at "ev"
    refine ⟨_, hix sd s hsd p x hx, _, hix wd t hwd p y hy, ?_⟩
    walk_at "ev"
    rw [hx, hy]
    simp only [Option.some.injEq, ne_eq]
    split <;> rfl
  rw [List.map_id']
  have e1 : (List.range n).filter (fun p => decide (s[p]? ≠ t[p]?)) = dfl n s t := rfl
  rw [e1]
  refine ⟨by simp; omega, ?_⟩
  walk_at "st"
  rw [map_nat]
  have hne : natL (dfl n s t) = [] ↔ dfl n s t = [] := by simp
  walk_at "ev"
  by_cases h0 : dfl n s t = []
  · rw [if_pos (by simpa using h0)]
    walk_at "st"
    exact (hd1 (.inl h0)).symm ▸ rfl
  rw [if_neg (by simpa using h0)]
  refine ⟨ins_bd, _, ev_callS C m n (by omega) sd s hsd v f, ins_bd, _, ev_callS C m n (by omega) wd t hwd vt f, ?_⟩
  walk_at "ev"
  by_cases h1 : f s ≠ f t
  · rw [if_neg h1]
    walk_at "st"
    exact (hd1 (.inr h1)).symm ▸ rfl
  have h1 : f s = f t := Classical.byContradiction h1
  rw [if_pos h1]
  obtain ⟨k, hk⟩ : ∃ k : Nat, ((ch m (lb n (dfl n s t)) s).filter fun t => decide (f t = f s))[k]? = some t := by
    rcases hd3 with h | h | h
    · exact absurd h h0
    · exact absurd h1 h
    · exact h
  have hd := hd2 k h0 hk
  subst hd
  walk_at "st"
  refine ⟨_, htu, ?_⟩
  walk_at "st"
  have hlt : ∀ p ∈ dfl n s t, p < n := fun p hp => (dfl_mem.mp hp).1
  obtain ⟨l, hl⟩ : ∃ l, l = dfl n s t := ⟨_, rfl⟩
  have hup := dfl_up n s t
  have hdm : ∀ p, p ∈ l → s[p]? ≠ t[p]? := fun p hp => (dfl_mem.mp (hl ▸ hp)).2
  rw [← hl] at hk hdl hlt hup ⊢
  refine ge (g := D.int) (xs := natL l) (fun j env _ => ∃ (fd : List Int) (num : Nat) (a b c : SV), Val m n fd ∧ (∀ p ∈ l.drop j, fd[p]? = s[p]?) ∧ num ≤ k ∧ ((ch m (lb n (l.drop j)) fd).filter fun t => decide (f t = f s))[k - num]? = some t ∧
    env = [.fz (bdf C m n f), .fz sd, .fz wd, a, .fz (tupD (natL l)), .fz (.int num), .fz (tupD fd), b, c]) ⟨s, 0, _, _, _, v, fun _ _ => rfl, by omega, hk, rfl⟩ ?_ ?_
  · rintro j x env s' hx ⟨fd, num, a, b, c, vf, hag, hnk, hnum, rfl⟩
    rw [List.getElem?_map, Option.map_eq_some_iff] at hx
    obtain ⟨p, hp, rfl⟩ := hx
    obtain ⟨hjl, hpe⟩ := List.getElem?_eq_some_iff.mp hp
    have hdr : l.drop j = p :: l.drop (j + 1) := by rw [List.drop_eq_getElem_cons hjl, hpe]
    have hpn := hlt p (List.mem_of_getElem? hp)
    refine ⟨_, rfl, fun De' hn' => ?_⟩
    walk_at "st"
    obtain ⟨xv, hxv, hxv2⟩ := v.get hpn
    obtain ⟨w, hw, hw2⟩ := vt.get hpn
    have hwx : w ≠ xv := fun e => hdm p (List.mem_of_getElem? hp) (by rw [hxv, hw, e])
    obtain ⟨wn, rfl⟩ : ∃ wn : Nat, w = wn := ⟨w.toNat, by omega⟩
    have hfx : fd[p]? = some xv := by rw [hag p (by rw [hdr]; exact List.mem_cons_self), hxv]
    have hup : (p :: l.drop (j + 1)).Pairwise (· < ·) := by rw [← hdr]; exact List.Pairwise.drop hup
    have hfst := lb_first hup hpn
    rw [hdr, tl_zero (by rw [lb_len]; exact vf.1) hfst.1 hfst.2 hfx] at hnum
    have hG : ∀ c : Nat, c < m → (c : Int) ≠ xv → gr1 m (lb n (p :: l.drop (j + 1))) fd f (f s) p xv c = (ch m (lb n (l.drop (j + 1))) (fd.set p c)).filter fun t => decide (f t = f s) := fun c hc hne => by
      unfold gr1
      rw [if_pos hne, lb_set hup hpn]
    have hlen : ∀ c : Nat, c < m → (c : Int) ≠ xv → ((gr1 m (lb n (p :: l.drop (j + 1))) fd f (f s) p xv c).length : Int) = if f (fd.set p c) = f s then (chm m (l.length - j - 1)).1 else (chm m (l.length - j - 1)).2 := fun c hc hne => by
      have := ch_count (bs := lb n (l.drop (j + 1))) (f := f) (s := fd.set p c) (o := f s) (by rw [lb_len]; exact hf) (by rw [lb_len]; exact vf.set (by omega)) (hf.1 s v)
      rw [lb_ones (List.pairwise_cons.mp hup).2 (fun q hq => hlt q (List.mem_of_mem_drop hq)), List.length_drop] at this
      rw [hG c hc hne, this, show l.length - (j + 1) = l.length - j - 1 by omega]
    have hnot : ∀ c : Nat, c < wn → t ∉ gr1 m (lb n (p :: l.drop (j + 1))) fd f (f s) p xv c := fun c hc hm' => by
      have := gr1_at (n := n) (by rw [lb_len]) vf hpn (by omega) hm'
      rw [hw] at this
      have := Option.some.inj this
      omega
    refine ⟨_, hix wd t hwd p wn hw, ?_⟩
    walk_at "ev"
    refine ⟨by omega, ?_⟩
    refine gf_rng (fun c env _ => ∃ (nu : Nat) (e : SV), nu ≤ k ∧ (tl m (gr1 m (lb n (p :: l.drop (j + 1))) fd f (f s) p xv) c)[k - nu]? = some t ∧ env = [.fz (bdf C m n f), .fz sd, .fz wd, .fz (.int p), .fz (tupD (natL l)), .fz (.int nu), .fz (tupD fd), .fz (.int j), e]) ⟨num, _, hnk, hnum, rfl⟩ ?_ ?_
    · rintro cc env s2 hcc ⟨nu, e, hnuk, hnu, rfl⟩
      refine ⟨_, rfl, fun De2 hn2 _ hbk _ _ => ?_⟩
      rw [tl_step _ (by omega)] at hnu
      walk_at "st"
      refine ⟨_, hix sd s hsd p xv hxv, ?_⟩
      walk_at "ev"
      by_cases hne : (cc : Int) = xv
      · rw [if_pos hne]
        walk_at "st"
        have : gr1 m (lb n (p :: l.drop (j + 1))) fd f (f s) p xv cc = [] := by unfold gr1; rw [if_neg (by simpa using hne)]
        rw [this, List.nil_append] at hnu
        exact hn2 _ _ ⟨nu, _, hnuk, hnu, rfl⟩
      · rw [if_neg hne]
        refine gw_aug rfl ?_
        walk_at "ev"
        have vc : Val m n (fd.set p cc) := vf.set (by omega)
        refine ⟨_, ev_with_content_T fd p cc (by rw [vf.1]; exact hpn) (by rw [vf.1]; omega), ?_⟩
        walk_at "ev"
        rw [show (l.length : Int) - j - 1 = ((l.length - j - 1 : Nat) : Int) by omega]
        refine ⟨_, ev_changed_left C m n (l.length - j - 1) f sd s (fd.set p cc) hsd hm (by omega) v vc, ?_⟩
        rw [← hlen cc (by omega) hne]
        walk_at "ev"
        have hge : (gr1 m (lb n (p :: l.drop (j + 1))) fd f (f s) p xv cc).length ≤ k - nu := Classical.byContradiction fun z => by
          rw [List.getElem?_append_left (by omega)] at hnu
          exact hnot cc hcc (List.mem_of_getElem? hnu)
        have hnn := List.getElem?_append_right hge ▸ hnu
        exact hn2 _ _ ⟨nu + (gr1 m (lb n (p :: l.drop (j + 1))) fd f (f s) p xv cc).length, .fz (.int cc), by omega, by rw [← Nat.sub_sub]; exact hnn, by simp⟩
    · rintro env s2 ⟨nu, e, hnuk, hnu, rfl⟩
      rw [tl_step _ (by omega)] at hnu
      walk_at "st"
      refine ⟨_, hix wd t hwd p wn hw, ?_⟩
      refine ⟨_, ev_with_content_T fd p wn (by rw [vf.1]; exact hpn) (by rw [vf.1]; omega), ?_⟩
      have vc : Val m n (fd.set p wn) := vf.set (by omega)
      have hlt2 : k - nu < (gr1 m (lb n (p :: l.drop (j + 1))) fd f (f s) p xv wn).length := Classical.byContradiction fun z => by
        rw [List.getElem?_append_right (by omega)] at hnu
        obtain ⟨c, h1, h2⟩ := tl_at (n := n) (by rw [lb_len]) vf hpn (List.mem_of_getElem? hnu)
        rw [hw] at h2
        have := Option.some.inj h2
        omega
      rw [List.getElem?_append_left hlt2, hG wn (by omega) hwx] at hnu
      refine hn' _ _ ⟨fd.set p wn, nu, _, _, _, vc, fun q hq => ?_, hnuk, hnu, rfl⟩
      have hpq := (List.pairwise_cons.mp hup).1 q hq
      rw [List.getElem?_set_ne (by omega)]
      exact hag q (by rw [hdr]; exact List.mem_cons_of_mem _ hq)
  · rintro env s' ⟨fd, num, a, b, c, vf, hag, hnk, hnum, rfl⟩
    rw [natL_len, List.drop_of_length_le (Nat.le_refl _), ch_end (by rw [lb_len]; exact vf.1) (lb_nil n)] at hnum
    have : k - num = 0 := by
      rw [List.filter_cons] at hnum
      split at hnum
      · cases h : k - num with
        | zero => rfl
        | succ q => rw [h] at hnum; simp at hnum
      · simp at hnum
    have hk2 : num = k := by omega
    subst hk2
    walk_at "st"
end K82
namespace K82
open PySem PySem.Spec PyProof.Rows L2 Pl RT
abbrev s_law : Stmt := top 61
abbrev s__law_wrong : Stmt := top 60
theorem sc__law_wrong : FnScope ["work", "e"] ["work"] (defScope s__law_wrong) := ⟨rfl, rfl, rfl, by decide +kernel, rfl, by decide +kernel, by decide +kernel⟩
abbrev s__law_is_refused : Stmt := top 56
theorem sc__law_is_refused : FnScope ["work", "e"] ["work"] (defScope s__law_is_refused) := ⟨rfl, rfl, rfl, by decide +kernel, rfl, by decide +kernel, by decide +kernel⟩
theorem sc_law : FnScope ["script", "deal", "many", "size", "marks", "board", "part", "setting", "lot", "found", "turn", "number", "value", "wrong", "at", "other", "places", "mates", "due", "spoilt"] ["script"] (defScope s_law) := ⟨rfl, rfl, rfl, by decide +kernel, rfl, by decide +kernel, by decide +kernel⟩
def w_law (C_Board : Addr) (C_Refused : Addr) (C_InvalidLot : Addr) (C_InvalidSize : Addr) : DW Unit := (wDealT 1 (R__law_deal) (aCons (eVar 0) (aCons (eC (.int 0)) aNil)) (wSeq (wAsg (.tp [(.nm 2), (.nm 3), (.nm 4)]) (eCallG 1 (R__law_board) aNil)) (wSeq (wAsg (.nm 5) (eOf (fMake C_Board (R_Board___init__ C_Board) (aCons (eVar 2) (aCons (eOf (fRep (fLst (aCons (eVar 2) aNil)) (eVar 3))) (aCons (eVar 4) aNil)))))) (wSeq (wAsg (.nm 7) (eOf (fLc (iOf (aCons (eVar 3) aNil) itR1) (cStep (.nm 6) bYes (eCallG 1 (R__law_draw) (aCons (eVar 2) aNil))) [6]))) (wSeq (wAsg (.nm 8) (eCa dTuple (aCons (eOf (fCa dSorted (aCons (eSl dSl (eCallG 1 (R__law_mixed) (aCons (eOf (fRg1 (eVar 3))) aNil)) oNo (oSome (eBin dAdd (eC (.int 1)) (eCallG 1 (R__law_draw) (aCons (eVar 3) aNil))))) aNil))) aNil))) (wSeq (wAsg (.nm 9) (eCall (R__law_unnoticed) (aCons (eVar 2) (aCons (eVar 3) (aCons (eVar 4) (aCons (eVar 7) (aCons (eVar 8) aNil))))))) (wSeq (wFor (.nm 10) (iOf (aCons (eC (.int 4)) aNil) itR1) (wIf (tB1 (eBin dNe (eVar 9) (eOf (fLst aNil)))) (wSeq (wAsg (.nm 11) (eCallG 1 (R__law_draw) (aCons (eCa dLen (aCons (eVar 9) aNil)) aNil))) (wSeq (wIf (tB1 (eBin dNe (eCall (R_nth_unnoticed C_Board C_Refused C_InvalidLot C_InvalidSize) (aCons (eVar 5) (aCons (eVar 7) (aCons (eVar 8) (aCons (eVar 11) aNil))))) (eBin dIx (eVar 9) (eVar 11)))) (wRet (eC (.bl false))) wNext) (wIf (tB1 (eBin dNe (eCallPk 2 1 [0, 1, 2] (R_unnoticed_number C_Board C_Refused) (aCons (eVar 5) (aCons (eVar 7) aNil)) (aCons (eOf (fCa dList (aCons (eBin dIx (eVar 9) (eVar 11)) aNil))) aNil)) (eVar 11))) (wRet (eC (.bl false))) wNext))) wNext)) (wSeq (wIf (bAnd (tB1 (eBin dNe (eVar 9) (eOf (fLst aNil)))) (tB1 (eBin dNe (eCallKw [0, 1, 2, 3] (R_nth_unnoticed C_Board C_Refused C_InvalidLot C_InvalidSize) (aCons (eVar 5) (aCons (eCa dTuple (aCons (eVar 7) aNil)) (aCons (eOf (fCa dList (aCons (eVar 8) aNil))) (aCons (eC (.int 0)) aNil))))) (eBin dIx (eVar 9) (eC (.int 0)))))) (wRet (eC (.bl false))) wNext) (wSeq (wAsg (.nm 12) (eCallG 1 (R__law_pick) (aCons (eOf (fLst (aCons (eCa dLen (aCons (eVar 9) aNil)) (aCons (eBin dAdd (eCa dLen (aCons (eVar 9) aNil)) (eCallG 1 (R__law_draw) (aCons (eC (.int 9)) aNil))) (aCons (eBin dSub (eC (.int 0)) (eC (.int 1))) (aCons (eC .non) (aCons (eC (.bl true)) (aCons (eC (.str "0")) (aCons (eTup (aCons (eC (.int 0)) aNil)) (aCons (eOf (fLst aNil)) aNil)))))))))) aNil))) (wSeq (wIfR (tB1 (eBin dNe (eLamM [(C_InvalidLot, "at", (gTupRepr "lot")), (C_InvalidSize, "word", (gTup "size"))] (eCall (R_nth_unnoticed C_Board C_Refused C_InvalidLot C_InvalidSize) (aCons (eVar 5) (aCons (eVar 7) (aCons (eVar 8) (aCons (eVar 12) aNil)))))) (eTup (aCons (eC (.str "size")) (aCons (eC (.str "number")) aNil))))) (wRet (eC (.bl false))) wNext) (wSeq (wAsg (.tp [(.nm 13), (.nm 14)]) (eCallG 1 (R__law_pick) (aCons (eOf (fLst (aCons (eTup (aCons (eTup aNil) (aCons (eC (.str "-1")) aNil))) (aCons (eTup (aCons (eTup (aCons (eVar 3) aNil)) (aCons (eC (.str "0")) aNil))) (aCons (eTup (aCons (eBin dAdd (eVar 8) (eVar 8)) (aCons (eCa dRepr (aCons (eCa dLen (aCons (eVar 8) aNil)) aNil)) aNil))) (aCons (eTup (aCons (eTup (aCons (eBin dSub (eC (.int 0)) (eC (.int 1))) aNil)) (aCons (eC (.str "0")) aNil))) (aCons (eTup (aCons (eC .non) (aCons (eC (.str "-1")) aNil))) aNil))))))) aNil))) (wSeq (wIfR (tB1 (eBin dNe (eLamM [(C_InvalidLot, "at", (gTupRepr "lot")), (C_InvalidSize, "word", (gTup "size"))] (eCall (R_nth_unnoticed C_Board C_Refused C_InvalidLot C_InvalidSize) (aCons (eVar 5) (aCons (eVar 7) (aCons (eVar 13) (aCons (eVar 12) aNil)))))) (eTup (aCons (eC (.str "lot")) (aCons (eVar 14) aNil))))) (wRet (eC (.bl false))) wNext) (wSeq (wAsg (.nm 15) (eOf (fLc (iOf (aCons (eVar 3) aNil) itR1) (cStep (.nm 6) bYes (eCallG 1 (R__law_draw) (aCons (eVar 2) aNil))) [6]))) (wSeq (wAsg (.nm 16) (eCa dTuple (aCons (eOf (fLc (iOf (aCons (eVar 3) aNil) itR1) (cStep (.nm 6) (tB1 (eBin dNe (eBin dIx (eVar 15) (eVar 6)) (eBin dIx (eVar 7) (eVar 6)))) (eVar 6)) [6])) aNil))) (wSeq (wAsg (.nm 17) (eCall (R__law_unnoticed) (aCons (eVar 2) (aCons (eVar 3) (aCons (eVar 4) (aCons (eVar 7) (aCons (eVar 16) aNil))))))) (wSeq (wAsg (.nm 18) (eIf (bAnd (tB1 (eBin dNe (eVar 16) (eTup aNil))) (tB1 (eBin (dInD false) (eCa dTuple (aCons (eVar 15) aNil)) (eVar 17)))) (eIdx (lOf (eVar 17)) (eCa dTuple (aCons (eVar 15) aNil))) (eC .non))) (wSeq (wIf (tB1 (eBin dNe (eCallKw [0, 1, 2] (R_unnoticed_number C_Board C_Refused) (aCons (eVar 5) (aCons (eVar 7) (aCons (eVar 15) aNil)))) (eVar 18))) (wRet (eC (.bl false))) wNext) (wSeq (wIf (tB1 (eBin dNotN (eCall (R_unnoticed_number C_Board C_Refused) (aCons (eVar 5) (aCons (eVar 7) (aCons (eVar 7) aNil)))) (eC .non))) (wRet (eC (.bl false))) wNext) (wSeq (wAsg (.nm 19) (eCallG 1 (R__law_spoilt C_Board) (aCons (eVar 2) (aCons (eVar 3) (aCons (eVar 4) aNil))))) (wSeq (wIfR (bNot (tB1 (eLam C_Refused "at" (gAt0 "twice") (eCall (R_unnoticed_number C_Board C_Refused) (aCons (eVar 19) (aCons (eVar 7) (aCons (eVar 15) aNil))))))) (wRet (eC (.bl false))) wNext) (wRetR (eLam C_Refused "at" (gAt0 "twice") (eCall (R_nth_unnoticed C_Board C_Refused C_InvalidLot C_InvalidSize) (aCons (eVar 19) (aCons (eVar 7) (aCons (eVar 13) (aCons (eVar 12) aNil)))))))))))))))))))))))))))
theorem ok_law {w : World} {K : Frg} {mg : Str → Option Value} {base : Heap} {f : Addr} {fd : FuncData} {g__law_wrong : Addr} {f__law_wrong : FuncData} {g__law_is_refused : Addr} {f__law_is_refused : FuncData} {C_Board : Addr} {C_Refused : Addr} {C_InvalidLot : Addr} {C_InvalidSize : Addr} (bf : Bf mg) (h__law_deal : FnD RL.prog w K mg base 1 "_law_deal" ["script", "base"] (spDl K (R__law_deal))) (h__law_board : FnD RL.prog w K mg base 5 "_law_board" ["deal"] (spG dl K (R__law_board))) (h_Board : MkD RL.prog w K mg base 4 "Board" C_Board ["self", "many", "sizes", "marks"] (spG (slf K C_Board) K (R_Board___init__ C_Board))) (h__law_draw : FnD RL.prog w K mg base 1 "_law_draw" ["deal", "bound"] (spG dl K (R__law_draw))) (fr_sorted : mg "sorted" = none) (h__law_mixed : FnD RL.prog w K mg base 2 "_law_mixed" ["deal", "things"] (spG dl K (R__law_mixed))) (h__law_unnoticed : FnD RL.prog w K mg base 2 "_law_unnoticed" ["many", "size", "marks", "setting", "lot"] (spP K (R__law_unnoticed))) (h_nth_unnoticed : FnD RL.prog w K mg base 9 "nth_unnoticed" ["board", "setting", "lot", "number"] (spP K (R_nth_unnoticed C_Board C_Refused C_InvalidLot C_InvalidSize))) (h_unnoticed_number_pk : FnPk RL.prog w K mg base 9 "unnoticed_number" ["board", "setting", "wrong"] 2 ["wrong"] [0, 1, 2] (spP K (R_unnoticed_number C_Board C_Refused))) (h_nth_unnoticed_kw : FnKw RL.prog w K mg base 9 "nth_unnoticed" ["board", "setting", "lot", "number"] ["board", "setting", "lot", "number"] [0, 1, 2, 3] (spP K (R_nth_unnoticed C_Board C_Refused C_InvalidLot C_InvalidSize))) (h__law_pick : FnD RL.prog w K mg base 2 "_law_pick" ["deal", "some"] (spG dl K (R__law_pick))) (fr_repr : mg "repr" = none) (h_unnoticed_number_kw : FnKw RL.prog w K mg base 9 "unnoticed_number" ["board", "setting", "wrong"] ["board", "setting", "wrong"] [0, 1, 2] (spP K (R_unnoticed_number C_Board C_Refused))) (h_unnoticed_number : FnD RL.prog w K mg base 9 "unnoticed_number" ["board", "setting", "wrong"] (spP K (R_unnoticed_number C_Board C_Refused))) (h__law_spoilt : FnD RL.prog w K mg base 6 "_law_spoilt" ["deal", "many", "size", "marks"] (spG dl K (R__law_spoilt C_Board))) (D0 : FunD K "law" "law" (defArgs s_law) (defBody s_law) (defScope s_law) [] [] f fd) (D__law_wrong : FunD K "_law_wrong" "_law_wrong" (defArgs s__law_wrong) (defBody s__law_wrong) (defScope s__law_wrong) [] [] g__law_wrong f__law_wrong) (hm__law_wrong : mg "_law_wrong" = some (.ref g__law_wrong)) (D__law_is_refused : FunD K "_law_is_refused" "_law_is_refused" (defArgs s__law_is_refused) (defBody s__law_is_refused) (defScope s__law_is_refused) [] [] g__law_is_refused f__law_is_refused) (hm__law_is_refused : mg "_law_is_refused" = some (.ref g__law_is_refused)) (me_InvalidLot : mg "InvalidLot" = some (.ref C_InvalidLot)) (xf_InvalidLot : XfC K C_InvalidLot) (exm_InvalidLot : PySem.W.exmOne K (.ref C_InvalidLot) (.ref C_InvalidLot) = some true) (na_InvalidLot_at : PySem.W.findIn K (.ref C_InvalidLot) "at" = some none) (me_InvalidSize : mg "InvalidSize" = some (.ref C_InvalidSize)) (xf_InvalidSize : XfC K C_InvalidSize) (exm_InvalidSize : PySem.W.exmOne K (.ref C_InvalidSize) (.ref C_InvalidSize) = some true) (na_InvalidSize_word : PySem.W.findIn K (.ref C_InvalidSize) "word" = some none) (exf_InvalidSize_InvalidLot : PySem.W.exmOne K (.ref C_InvalidSize) (.ref C_InvalidLot) = some false) (me_Refused : mg "Refused" = some (.ref C_Refused)) (xf_Refused : XfC K C_Refused) (exm_Refused : PySem.W.exmOne K (.ref C_Refused) (.ref C_Refused) = some true) (na_Refused_at : PySem.W.findIn K (.ref C_Refused) "at" = some none) (c Pt : Addr) (hcode : ∀ oc od osl fd', K.lookup f = some ⟨oc, od, .func fd', osl⟩ → fd'.code = .ref c) (TB : LamX.TabB base mg c Pt) (n : Nat)
    (hl : ∀ ns : List Int, ns.length ≤ n → w_law C_Board C_Refused C_InvalidLot C_InvalidSize { nx := fun _ _ => False, rt := fun d _ => d = .bl true, al := true } (env0 [.frl (ns.map D.int)] 19) ()) : FnOk RL.prog w K mg base (L2.CX RL.prog w) 12 f fd ["script"] (spLawT K [(Pt, (("law" : Str) ++ ".<locals>.") ++ "<lambda>")] n) := by
  refine okLaw D0 sc_law [(Pt, (("law" : Str) ++ ".<locals>.") ++ "<lambda>")] n (w_law C_Board C_Refused C_InvalidLot C_InvalidSize) 19 rfl c hcode (fun A outer s H E hr => ?_) hl
  have hp := passes_of (X := cxOf (L2.CX RL.prog w) RL.prog w K mg base ["script", "deal", "many", "size", "marks", "board", "part", "setting", "lot", "found", "turn", "number", "value", "wrong", "at", "other", "places", "mates", "due", "spoilt"] "law" (defScope s_law) f (.ref c) A outer s H E) rfl
  have tk : Takes (cxOf (L2.CX RL.prog w) RL.prog w K mg base ["script", "deal", "many", "size", "marks", "board", "part", "setting", "lot", "found", "turn", "number", "value", "wrong", "at", "other", "places", "mates", "due", "spoilt"] "law" (defScope s_law) f (.ref c) A outer s H E) (WE' E) := takes_of rfl rfl rfl rfl
  refine pssd_dealT 1 h__law_deal (hr.mono (by decide)) tk (pas_cons (pd_var 0) (pas_cons pd_int pas_nil)) ?_ sc_law.nd
  exact fun q hq => (pssd_cons (psd_asg (pd_callGT 1 h__law_board (hr.mono (by decide)) tk pas_nil) (pgd_tup rfl (pgsd_cons (pgd_name sc_law.nd) (pgsd_cons (pgd_name sc_law.nd) (pgsd_cons (pgd_name sc_law.nd) pgsd_nil))))) (pssd_cons (psd_set (pd_of (pf_make h_Board (hr.mono (by decide)) tk (pas_cons (pd_var 2) (pas_cons (pd_of (pf_rep (pf_lst (pas_cons (pd_var 2) pas_nil)) (pd_var 3))) (pas_cons (pd_var 4) pas_nil))))) sc_law.nd) (pssd_cons (psd_set (pd_of (pf_lc (own := [("part", 6)]) rfl sc_law.nd (pid_range1 bf.range (pas_cons (pd_var 3) pas_nil)) (blkOk_by (by kernel_rfl)) (fun _ _ _ _ _ => (pgd_name sc_law.nd)) (fun _ _ _ _ _ => ptsd_nil) (fun _ _ _ _ _ => (pd_callGT 1 h__law_draw (hr.mono (by decide)) L2.takes0 (pas_cons (pd_var 2) pas_nil))))) sc_law.nd) (pssd_cons (psd_set (pd_tupc bf (pas_cons (pd_of (pf_sorted fr_sorted (pas_cons (pd_slice (pd_callGT 1 h__law_mixed (hr.mono (by decide)) tk (pas_cons (pd_of (pf_rg1 rfl bf.list bf.range (pd_var 3))) pas_nil)) pdo_none (pdo_some (pd_add pd_int (pd_callGT 1 h__law_draw (hr.mono (by decide)) tk (pas_cons (pd_var 3) pas_nil))))) pas_nil))) pas_nil)) sc_law.nd) (pssd_cons (psd_set (pd_call h__law_unnoticed (hr.mono (by decide)) tk (pas_cons (pd_var 2) (pas_cons (pd_var 3) (pas_cons (pd_var 4) (pas_cons (pd_var 7) (pas_cons (pd_var 8) pas_nil)))))) sc_law.nd) (pssd_cons (psd_for hp rfl (pid_range1 bf.range (pas_cons pd_int pas_nil)) (pgd_name sc_law.nd) (pssd_one (psd_if (pb_ne hr.units (pd_var 9) (pd_of (pf_lst pas_nil))) (pssd_cons (psd_set (pd_callGT 1 h__law_draw (hr.mono (by decide)) tk (pas_cons (pd_len bf (pas_cons (pd_var 9) pas_nil)) pas_nil)) sc_law.nd) (pssd_cons (psd_if (pb_ne hr.units (pd_call h_nth_unnoticed (hr.mono (by decide)) tk (pas_cons (pd_var 5) (pas_cons (pd_var 7) (pas_cons (pd_var 8) (pas_cons (pd_var 11) pas_nil))))) (pd_ix (pd_var 9) (pd_var 11))) (pssd_one (psd_ret pd_bl)) pssd_nil) (pssd_one (psd_if (pb_ne hr.units (pd_callPk h_unnoticed_number_pk (hr.mono (by decide)) tk (pas_cons (pd_var 5) (pas_cons (pd_var 7) pas_nil)) (pks_cons (pd_of (pf_lisc bf (pas_cons (pd_ix (pd_var 9) (pd_var 11)) pas_nil))) pks_nil)) (pd_var 11)) (pssd_one (psd_ret pd_bl)) pssd_nil)))) pssd_nil))) (pssd_cons (psd_if (pb_of (pbw_and (pb_ne hr.units (pd_var 9) (pd_of (pf_lst pas_nil))) (pbw_and1 (pb_ne hr.units (pd_callKw h_nth_unnoticed_kw (hr.mono (by decide)) tk (pks_cons (pd_var 5) (pks_cons (pd_tupc bf (pas_cons (pd_var 7) pas_nil)) (pks_cons (pd_of (pf_lisc bf (pas_cons (pd_var 8) pas_nil))) (pks_cons pd_int pks_nil))))) (pd_ix (pd_var 9) pd_int))))) (pssd_one (psd_ret pd_bl)) pssd_nil) (pssd_cons (psd_set (pd_callGT 1 h__law_pick (hr.mono (by decide)) tk (pas_cons (pd_of (pf_lst (pas_cons (pd_len bf (pas_cons (pd_var 9) pas_nil)) (pas_cons (pd_add (pd_len bf (pas_cons (pd_var 9) pas_nil)) (pd_callGT 1 h__law_draw (hr.mono (by decide)) tk (pas_cons pd_int pas_nil))) (pas_cons (pd_sub pd_int pd_int) (pas_cons pd_non (pas_cons pd_bl (pas_cons pd_str (pas_cons (pd_tup (pas_cons pd_int pas_nil)) (pas_cons (pd_of (pf_lst pas_nil)) pas_nil)))))))))) pas_nil)) sc_law.nd) (pssd_cons (psd_ifR (prb_cmp (op_neD hr.units) opd_ne (pr_isM (k := 9) (c := c) (Pt := Pt) (nr := fun H Q => Q .non H) (R := (eCall (R_nth_unnoticed C_Board C_Refused C_InvalidLot C_InvalidSize) (aCons (eVar 5) (aCons (eVar 7) (aCons (eVar 8) (aCons (eVar 12) aNil)))))) (m := [(C_InvalidLot, "at", (gTupRepr "lot")), (C_InvalidSize, "word", (gTup "size"))]) (.cons hdD_tupRepr (.cons hdD_tup .nil)) (.cons exm_InvalidLot (List.forall_mem_cons.mpr ⟨exf_InvalidSize_InvalidLot, (fun _ z => by cases z)⟩) (.cons exm_InvalidSize (fun _ z => by cases z) .nil)) hq hm__law_wrong D__law_wrong (fun _ _ _ _ _ _ us hl => match us, hl with | [_], _ => rfl) sc__law_wrong rfl (fun cdv => by exact gives_asM (by decide) rfl (fun _ _ => rest_non) (.cons rfl me_InvalidLot rfl (fun s H a oe cls d pn hz hf => ex_tupRepr xf_InvalidLot na_InvalidLot_at fr_repr rfl rfl (by decide) (by decide) s H a oe cls d pn hz hf) (.cons rfl me_InvalidSize rfl (fun s H a oe cls d pn hz hf => ex_tupFld xf_InvalidSize na_InvalidSize_word rfl (by decide) (by decide) s H a oe cls d pn hz hf) .nil))) (.inl rfl) TB (hr.mono (by decide)) (by exact fun A outer s H E f c' hr => (pd_call h_nth_unnoticed (hr.mono (by decide)) (takes_of rfl rfl rfl rfl) (pas_cons (pd_var 5) (pas_cons (pd_var 7) (pas_cons (pd_var 8) (pas_cons (pd_var 12) pas_nil))))))) (pd_tup (pas_cons pd_str (pas_cons pd_str pas_nil))) (nomark _)) (pssd_one (psd_ret pd_bl)) pssd_nil) (pssd_cons (psd_asg (pd_callGT 1 h__law_pick (hr.mono (by decide)) tk (pas_cons (pd_of (pf_lst (pas_cons (pd_tup (pas_cons (pd_tup pas_nil) (pas_cons pd_str pas_nil))) (pas_cons (pd_tup (pas_cons (pd_tup (pas_cons (pd_var 3) pas_nil)) (pas_cons pd_str pas_nil))) (pas_cons (pd_tup (pas_cons (pd_add (pd_var 8) (pd_var 8)) (pas_cons (pd_repr fr_repr (pas_cons (pd_len bf (pas_cons (pd_var 8) pas_nil)) pas_nil)) pas_nil))) (pas_cons (pd_tup (pas_cons (pd_tup (pas_cons (pd_sub pd_int pd_int) pas_nil)) (pas_cons pd_str pas_nil))) (pas_cons (pd_tup (pas_cons pd_non (pas_cons pd_str pas_nil))) pas_nil))))))) pas_nil)) (pgd_tup rfl (pgsd_cons (pgd_name sc_law.nd) (pgsd_cons (pgd_name sc_law.nd) pgsd_nil)))) (pssd_cons (psd_ifR (prb_cmp (op_neD hr.units) opd_ne (pr_isM (k := 9) (c := c) (Pt := Pt) (nr := fun H Q => Q .non H) (R := (eCall (R_nth_unnoticed C_Board C_Refused C_InvalidLot C_InvalidSize) (aCons (eVar 5) (aCons (eVar 7) (aCons (eVar 13) (aCons (eVar 12) aNil)))))) (m := [(C_InvalidLot, "at", (gTupRepr "lot")), (C_InvalidSize, "word", (gTup "size"))]) (.cons hdD_tupRepr (.cons hdD_tup .nil)) (.cons exm_InvalidLot (List.forall_mem_cons.mpr ⟨exf_InvalidSize_InvalidLot, (fun _ z => by cases z)⟩) (.cons exm_InvalidSize (fun _ z => by cases z) .nil)) hq hm__law_wrong D__law_wrong (fun _ _ _ _ _ _ us hl => match us, hl with | [_], _ => rfl) sc__law_wrong rfl (fun cdv => by exact gives_asM (by decide) rfl (fun _ _ => rest_non) (.cons rfl me_InvalidLot rfl (fun s H a oe cls d pn hz hf => ex_tupRepr xf_InvalidLot na_InvalidLot_at fr_repr rfl rfl (by decide) (by decide) s H a oe cls d pn hz hf) (.cons rfl me_InvalidSize rfl (fun s H a oe cls d pn hz hf => ex_tupFld xf_InvalidSize na_InvalidSize_word rfl (by decide) (by decide) s H a oe cls d pn hz hf) .nil))) (.inl rfl) TB (hr.mono (by decide)) (by exact fun A outer s H E f c' hr => (pd_call h_nth_unnoticed (hr.mono (by decide)) (takes_of rfl rfl rfl rfl) (pas_cons (pd_var 5) (pas_cons (pd_var 7) (pas_cons (pd_var 13) (pas_cons (pd_var 12) pas_nil))))))) (pd_tup (pas_cons pd_str (pas_cons (pd_var 14) pas_nil))) (nomark _)) (pssd_one (psd_ret pd_bl)) pssd_nil) (pssd_cons (psd_set (pd_of (pf_lc (own := [("part", 6)]) rfl sc_law.nd (pid_range1 bf.range (pas_cons (pd_var 3) pas_nil)) (blkOk_by (by kernel_rfl)) (fun _ _ _ _ _ => (pgd_name sc_law.nd)) (fun _ _ _ _ _ => ptsd_nil) (fun _ _ _ _ _ => (pd_callGT 1 h__law_draw (hr.mono (by decide)) L2.takes0 (pas_cons (pd_var 2) pas_nil))))) sc_law.nd) (pssd_cons (psd_set (pd_tupc bf (pas_cons (pd_of (pf_lc (own := [("part", 6)]) rfl sc_law.nd (pid_range1 bf.range (pas_cons (pd_var 3) pas_nil)) (blkOk_by (by kernel_rfl)) (fun _ _ _ _ _ => (pgd_name sc_law.nd)) (fun _ _ _ _ _ => (ptsd_one (pb_ne hr.units (pd_ix (pd_var 15) (pd_var 6)) (pd_ix (pd_var 7) (pd_var 6))))) (fun _ _ _ _ _ => (pd_var 6)))) pas_nil)) sc_law.nd) (pssd_cons (psd_set (pd_call h__law_unnoticed (hr.mono (by decide)) tk (pas_cons (pd_var 2) (pas_cons (pd_var 3) (pas_cons (pd_var 4) (pas_cons (pd_var 7) (pas_cons (pd_var 16) pas_nil)))))) sc_law.nd) (pssd_cons (psd_set (pd_if (pb_of (pbw_and (pb_ne hr.units (pd_var 16) (pd_tup pas_nil)) (pbw_and1 (pb_inD (units65 hr) (pd_tupc bf (pas_cons (pd_var 15) pas_nil)) (pd_var 17))))) (pd_index (units65 hr) (pl_of (pd_var 17)) (pd_tupc bf (pas_cons (pd_var 15) pas_nil))) pd_non) sc_law.nd) (pssd_cons (psd_if (pb_ne hr.units (pd_callKw h_unnoticed_number_kw (hr.mono (by decide)) tk (pks_cons (pd_var 5) (pks_cons (pd_var 7) (pks_cons (pd_var 15) pks_nil)))) (pd_var 18)) (pssd_one (psd_ret pd_bl)) pssd_nil) (pssd_cons (psd_if (pb_notN (pd_call h_unnoticed_number (hr.mono (by decide)) tk (pas_cons (pd_var 5) (pas_cons (pd_var 7) (pas_cons (pd_var 7) pas_nil)))) pd_non) (pssd_one (psd_ret pd_bl)) pssd_nil) (pssd_cons (psd_set (pd_callGT 1 h__law_spoilt (hr.mono (by decide)) tk (pas_cons (pd_var 2) (pas_cons (pd_var 3) (pas_cons (pd_var 4) pas_nil)))) sc_law.nd) (pssd_cons (psd_ifR (prb_not (prb_val (pr_is (k := 9) (c := c) (Pt := Pt) (nr := fun H Q => Q (V.bl false) H) (R := (eCall (R_unnoticed_number C_Board C_Refused) (aCons (eVar 19) (aCons (eVar 7) (aCons (eVar 15) aNil))))) hdD_at0 exm_Refused hq hm__law_is_refused D__law_is_refused (fun _ _ _ _ _ _ us hl => match us, hl with | [_], _ => rfl) sc__law_is_refused rfl (fun cdv => by exact gives_as rfl me_Refused rfl (by decide) rfl (fun _ _ => rest_bl) (fun s H a oe cls d pn hz hf => ex_at0 xf_Refused na_Refused_at (by decide +kernel) (hr.mono (by decide)) rfl (by decide) (by decide) s H a oe cls d pn hz hf)) (.inl rfl) TB (hr.mono (by decide)) (by exact fun A outer s H E f c' hr => (pd_call h_unnoticed_number (hr.mono (by decide)) (takes_of rfl rfl rfl rfl) (pas_cons (pd_var 19) (pas_cons (pd_var 7) (pas_cons (pd_var 15) pas_nil)))))))) (pssd_one (psd_ret pd_bl)) pssd_nil) (pssd_one (psd_retR (pr_is (k := 9) (c := c) (Pt := Pt) (nr := fun H Q => Q (V.bl false) H) (R := (eCall (R_nth_unnoticed C_Board C_Refused C_InvalidLot C_InvalidSize) (aCons (eVar 19) (aCons (eVar 7) (aCons (eVar 13) (aCons (eVar 12) aNil)))))) hdD_at0 exm_Refused hq hm__law_is_refused D__law_is_refused (fun _ _ _ _ _ _ us hl => match us, hl with | [_], _ => rfl) sc__law_is_refused rfl (fun cdv => by exact gives_as rfl me_Refused rfl (by decide) rfl (fun _ _ => rest_bl) (fun s H a oe cls d pn hz hf => ex_at0 xf_Refused na_Refused_at (by decide +kernel) (hr.mono (by decide)) rfl (by decide) (by decide) s H a oe cls d pn hz hf)) (.inl rfl) TB (hr.mono (by decide)) (by exact fun A outer s H E f c' hr => (pd_call h_nth_unnoticed (hr.mono (by decide)) (takes_of rfl rfl rfl rfl) (pas_cons (pd_var 19) (pas_cons (pd_var 7) (pas_cons (pd_var 13) (pas_cons (pd_var 12) pas_nil))))))))))))))))))))))))))))


end K82
namespace K82
open PySem PySem.Spec PyProof.Rows L2 Pl RT Mt
local macro_rules | `(tactic| walk_at "ev") => `(tactic| try simp only [go_C, go_var, go_bin, go_un, go_and, go_or, go_not, go_tB1, go_if, go_bAnd, go_bOr, go_bNot, go_yes, go_nil, go_cons, go_tup, go_lst, Pl.go_of, go_Ca, go_fCa, go_fld, go_call, go_callKw, go_callG, go_lOf, go_lOwn, go_ixL, go_bor, go_bBor, go_sl, go_oNo, go_oSome, go_tupRev, go_revL, go_it, go_lc, go_cStep, go_cStep2, go_chain, go_mNil, go_mFz, go_mOw, go_rep, go_rg1, go_make, go_lenO, go_callO, go_dgetO, go_dinO, go_dicK, go_dicT, go_idx, go_eLam, go_eLamM, go_callPk, ex_inTups, ex_repT, ex_eqNil, ex_eqT, ex_eqL, ex_eqNilTI, ex_neNilTI, ex_sorted, ex_neNilI, ex_neNilT, ex_any, cut_pop, cut_last, ex_ltT, Option.isSome_some, Option.isSome_none, go_d1, go_d0ix, go_d0ne,
  ex_onI, ex_add, ex_eqI, ex_neI, ex_neB, ex_neL, ex_neT, ex_neL1, ex_neL11, List.filterMap_cons, List.filterMap_nil, ex_int1, ex_bl, ex_int, ex_someI, ex_R1, ex_R2, ex_itL, ex_itT, ex_itF, ex_revL, ex_revT, ex_enL, ex_enT, ex_zTL, ex_zTT, ex_zLT, ex_zLL, ex_lenL, ex_lenT, ex_tupL, ex_tupT, ex_lisL, ex_lisT, ex_lstD, ex_lstF, ex_abs, ex_neg, ex_ixL, ex_ixT, ex_slL, ex_slT, ex_slF, ex_addL, ex_addT, ex_isN, ex_notN, ex_sum, ex_inI, ex_inIT, fld_many, fld_sizes, fld_marks, fld_steps, isNon_non, isNon_tup, isNon_lst, isNon_int, isNon_str, isNon_bl, mulC_iff, PySem.sizeLine_eq, decide_true, decide_false, Nat.zero_le, Bool.not_eq_true', decide_eq_false_iff_not, ite_not, dEnd_rt, rtE_rt, gEnd_rt, dEnd_nx, gEnd_nx, or_ite1, or_ite2, or_ite3, or_ite4, onI_bl, isi_ii, isi_ib, isi_tt, isi_Llt, isi_Tlt, Oc.ok.injEq,
  Int.toNat_natCast, Int.zero_add, put_nm, put_tpT, put_tpL, puts_nil, puts_cons, Option.bind_some, OD.d, wipeE, pick, Function.comp_apply,
  env0, List.map_cons, List.map_nil, List.replicate, List.cons_append, List.nil_append, List.set_cons_succ, List.set_cons_zero, List.getElem?_cons_zero, List.getElem?_cons_succ, Option.some.injEq, SV.fz.injEq, SV.ow.injEq, OD.lst.injEq, exists_eq_left', exists_eq_left, exists_and_left, exists_eq', true_and, and_true, D.bl.injEq, D.int.injEq, D.lst.injEq, D.tup.injEq, reduceCtorEq, false_and, and_false, or_false, false_or, if_true, if_false, Bool.false_eq_true, Bool.not_true, Bool.not_false, reduceIte, decide_eq_true_eq, List.length_cons, List.length_nil, List.length_map, List.length_range, setsE])
local macro_rules | `(tactic| walk_at "st") => `(tactic| (repeat (first | with_reducible refine gw_seq ?_ | with_reducible refine gw_next ?_ | ((first | with_reducible refine gw_set ?_ | with_reducible refine gw_asg ?_ | with_reducible refine gw_asgF ?_ | with_reducible refine gw_ret ?_ | with_reducible refine gw_retN ?_ | with_reducible refine gw_if ?_ | with_reducible refine gw_for ?_ | with_reducible refine gw_par ?_ | with_reducible refine gw_expr ?_ | rw [if_pos (by omega)] | rw [if_neg (by omega)] | with_reducible refine And.intro (by omega) ?_ | omega); try walk_at "ev"))))
local macro_rules | `(tactic| walk_at "ones") => `(tactic| repeat (first | with_reducible apply ones_seq | with_reducible apply ones_while | with_reducible apply ones_for | with_reducible apply ones_if | with_reducible apply ones_asg | with_reducible apply ones_asgF | with_reducible apply ones_fz | with_reducible apply ones_par | with_reducible apply ones_app | with_reducible apply ones_ext | with_reducible apply ones_appPop | with_reducible apply ones_put | with_reducible apply ones_dput | with_reducible apply ones_d0pop | with_reducible apply ones_d0popTo | with_reducible apply ones_d0app | with_reducible apply ones_d1set | with_reducible apply ones_ret | with_reducible apply ones_retN | with_reducible apply ones_next | with_reducible apply ones_break | with_reducible apply ones_cont | with_reducible apply ones_never | with_reducible apply ones_expr))
local macro_rules | `(tactic| walk_at "sz") => `(tactic| first | omega | (simp; done) | (simp; omega))
theorem at_lastE {α : Type} {f : α → D} {xs : List α} {t : α} (h : xs[xs.length - 1]? = some t) : atI (xs.map f) (-1) = some (f t) := by
  have hl := (List.getElem?_eq_some_iff.mp h)
  have hne : xs.map f ≠ [] := fun e => by
    have := hl.1
    rw [List.map_eq_nil_iff.mp e] at this
    simp at this
  rw [at_last hne, List.getLast_eq_getElem]
  obtain ⟨h1, h2⟩ := hl
  simp [h2]
theorem g_twice (r : List D) : gAt0 "twice" (.tup (.str "twice" :: r)) = some (.bl true) := by
  simp only [gAt0]
  rw [if_pos (by decide +kernel), show PyData.eqv (.str "twice") (.str "twice") = true by decide +kernel]
theorem ne_self {d : D} (h : Pln d) : dNe d d = some (.bl (!deq d d)) := by unfold dNe; rw [if_pos ⟨h, h⟩]
theorem gw_ifF {S : Type} {Rb : Pl.Env → DM S Bool} {w1 w2 : DW S} {De : DE S} {env : Pl.Env} {s : S} (h : Go (Rb env) (fun c s1 => c = false ∧ s1 = s) s) (k : w2 De env s) : wIf Rb w1 w2 De env s := gw_if (h.mono fun c s1 ⟨e1, e2⟩ => by subst e1 e2; simpa using k)
theorem coll_drawK {S α β : Type} {step : D → DM S (List D)} {g : α → D} {K : List D → S → Prop} (emb : β → D) (P : α → β → Prop) (V : S → Prop) {xs : List α} {s : S} (v : V s) (hh : ∀ x ∈ xs, ∀ s, V s → Go (step (g x)) (fun ys s1 => ∃ b, ys = [emb b] ∧ P x b ∧ V s1) s)
    (k : ∀ (zs : List β) (s' : S), zs.length = xs.length → (∀ (i : Nat) (x : α) (z : β), xs[i]? = some x → zs[i]? = some z → P x z) → V s' → K (zs.map emb) s') : ∃ out s', Coll step (xs.map g) s out s' ∧ K out s' := by
  obtain ⟨zs, s', h1, h2, h3, h4⟩ := coll_draw emb P V v hh
  exact ⟨_, s', h1, k zs s' h2 h3 h4⟩
theorem pln_nats (ys : List Nat) : Pln (.lst (ys.map fun i : Nat => D.int i)) := by
  have := pln_lis (ys.map fun i : Nat => (i : Int))
  rwa [List.map_map] at this
theorem srt_nats (n : Nat) (ys : List Nat) (hd : ys.Nodup) (hl : ∀ p ∈ ys, p < n) : srt (natL ys) = natL ((List.range n).filter fun p => decide (p ∈ ys)) := by
  refine sorted_eq ((srt_perm _).trans (List.Perm.map _ ?_)) (srt_le _) ?_
  · refine (List.perm_ext_iff_of_nodup hd (List.Pairwise.filter _ List.nodup_range)).mpr fun p => ?_
    simp only [List.mem_filter, List.mem_range, decide_eq_true_eq]
    exact ⟨fun h => ⟨hl p h, h⟩, fun h => h.2⟩
  · rw [List.pairwise_map]
    exact (List.Pairwise.filter _ List.pairwise_lt_range).imp fun h => by omega
theorem lb_lot (n : Nat) (P : Nat → Bool) : lb n ((List.range n).filter P) = bits n P := by
  unfold lb bits
  refine List.map_congr_left fun p hp => ?_
  rw [List.mem_range] at hp
  by_cases h : P p = true
  · simp [h, hp]
  · simp [h]
theorem dfl_of {m n : Nat} {P : Nat → Bool} {s t : List Int} (v : Val m n s) (vt : Val m n t) (h : t ∈ ch m (bits n P) s) : dfl n s t = (List.range n).filter P := by
  have hm := (mem_ch (by rw [bits_len]; exact v) (by rw [bits_len]; exact vt)).mp h
  unfold dfl
  refine List.filter_congr fun p hp => ?_
  rw [List.mem_range] at hp
  obtain ⟨x, hx, _⟩ := v.get hp
  obtain ⟨y, hy, _⟩ := vt.get hp
  have := hm p x y hx hy
  rw [bits_get hp] at this
  rw [hx, hy]
  by_cases h : P p = true
  · have := this.mp (by rw [h])
    simp [h, Ne.symm this]
  · have h' : ¬ y ≠ x := fun z => h (Option.some.inj (this.mpr z))
    have h' : y = x := Classical.byContradiction h'
    simp [h, h']
theorem mem_dfl {m n : Nat} {s t : List Int} (v : Val m n s) (vt : Val m n t) : t ∈ ch m (lb n (dfl n s t)) s := by
  refine (mem_ch (by rw [lb_len]; exact v) (by rw [lb_len]; exact vt)).mpr fun p x y hx hy => ?_
  have hpn : p < n := by rw [← v.1]; exact (List.getElem?_eq_some_iff.mp hx).1
  rw [lb_get hpn]
  simp only [Option.some.injEq, decide_eq_true_eq, dfl_mem, hx, hy, ne_eq, hpn, true_and]
  exact ⟨fun z w => z w.symm, fun z w => z w.symm⟩
theorem unL_nodup {m n : Nat} {f : List Int → Int} {P : Nat → Bool} {s : List Int} : (unL m n f P s).Nodup := List.Pairwise.filter _ (List.nodup_iff_pairwise_ne.mp (ch_nodup _ _))
theorem g_size : gTup "size" (.str "number") = some (.tup [.str "size", .str "number"]) := rfl
theorem g_lot {i : Int} (h : i.natAbs.log2 < 1920) : gTupRepr "lot" (.int i) = some (.tup [.str "lot", .str (strI i)]) := by simp only [gTupRepr]; rw [if_pos h]
theorem ne_lot {i : Int} (h : -1 ≤ i ∧ i ≤ 8) : dNe (.tup [.str "lot", .str (strI i)]) (.tup [.str "lot", .str (strI i)]) = some (.bl false) := by
  have : i = -1 ∨ i = 0 ∨ i = 1 ∨ i = 2 ∨ i = 3 ∨ i = 4 ∨ i = 5 ∨ i = 6 ∨ i = 7 ∨ i = 8 := by omega
  rcases this with rfl | rfl | rfl | rfl | rfl | rfl | rfl | rfl | rfl | rfl <;> (unfold dNe; rw [if_pos ⟨by decide +kernel, by decide +kernel⟩, show deq _ _ = true by decide +kernel]; rfl)
theorem ne_size : dNe (.tup [.str "size", .str "number"]) (.tup [.str "size", .str "number"]) = some (.bl false) := by
  unfold dNe; rw [if_pos ⟨by decide +kernel, by decide +kernel⟩, show deq _ _ = true by decide +kernel]; rfl
theorem ev_law (C CR CL CI : Addr) (ns : List Int) (hns : ns.length ≤ 63) : w_law C CR CL CI { nx := fun _ _ => False, rt := fun d _ => d = .bl true, al := true } (env0 [.frl (ns.map D.int)] 19) () := by
  obtain ⟨x, hx, hv⟩ := ev_deal ns hns
  unfold w_law
  refine go_run ?_
  walk_at "ev"
  refine ⟨by simp, x, hx, ?_⟩
  obtain ⟨m, n, f, s1, b1, hB, hv1⟩ := ev_board x hv
  have hB' := hB
  obtain ⟨hm, hn, hz, hf⟩ := hB
  have hn8 : n ≤ 8 := by omega
  have hz2 : m ^ n ≤ 20000 := by omega
  walk_at "st"
  refine ⟨_, _, b1, ?_⟩
  walk_at "ev"
  walk_at "st"
  rw [rep_one, ← List.map_replicate (f := D.int)]
  refine ⟨_, ev_Board C m n _ hm (by omega) (by omega) (by rw [List.length_map, sets_len]) (fun x hx => by
      obtain ⟨t, ht, rfl⟩ := List.mem_map.mp hx
      exact hf.1 _ (sets_mem (by omega) ht)), ?_⟩
  rw [mk_bd]
  walk_at "st"
  refine coll_drawK D.int (fun _ c => 0 ≤ c ∧ c < m) Vd hv1 (fun p hp s hs => ?_) fun sl s2 hsl hsp hv2 => ?_
  · walk_at "ev"
    obtain ⟨v, s', e1, e2, e3⟩ := ev_draw s m hs (by omega)
    exact ⟨_, _, e1, v, rfl, e2, e3⟩
  have vs : Val m n sl := ⟨by simpa using hsl, fun c hc => by
    obtain ⟨i, hi⟩ := List.mem_iff_getElem?.mp hc
    have hin : i < n := by
      have := (List.getElem?_eq_some_iff.mp hi).1
      rw [hsl, List.length_range] at this
      exact this
    exact hsp i i c (List.getElem?_range hin) hi⟩
  have hsl4 := vs.1
  refine ⟨by simp; omega, ?_⟩
  walk_at "st"
  obtain ⟨ys, s4, y1, yp, hv4⟩ := ev_mixed (fun i : Nat => D.int i) s2 (List.range n) hv2 (by simp; omega) (fun ys _ _ => pln_nats ys)
  refine ⟨_, _, y1, ?_⟩
  obtain ⟨kn, s5, d1, hkn, hv5⟩ := ev_draw s4 n hv4 (by omega)
  refine ⟨_, _, d1, ?_⟩
  walk_at "ev"
  rw [cut_to (by omega)]
  obtain ⟨parts, hparts⟩ : ∃ parts, parts = ys.take (1 + kn).toNat := ⟨_, rfl⟩
  rw [← hparts]
  have hyl := yp.length_eq
  rw [List.length_range] at hyl
  have hpl : parts.length = (1 + kn).toNat := by
    rw [hparts, List.length_take, hyl]; omega
  have hpn : parts.Nodup := by
    rw [hparts]
    exact List.Pairwise.sublist (List.take_sublist _ _) (yp.nodup_iff.mpr List.nodup_range)
  have hpm : ∀ p ∈ parts, p < n := fun p hp => by
    rw [hparts] at hp
    exact List.mem_range.mp (yp.mem_iff.mp (List.mem_of_mem_take hp))
  rw [map_nat]
  walk_at "ev"
  rw [srt_nats n parts hpn hpm]
  obtain ⟨P, hP⟩ : ∃ P : Nat → Bool, P = fun p => decide (p ∈ parts) := ⟨_, rfl⟩
  obtain ⟨l, hl⟩ : ∃ l : List Nat, l = (List.range n).filter P := ⟨_, rfl⟩
  have e1 : (List.range n).filter (fun p => decide (p ∈ parts)) = l := by rw [hl, hP]
  rw [e1]
  have hll : l.length ≤ n := by
    have := List.length_filter_le P (List.range n)
    rw [List.length_range] at this
    rw [hl]; exact this
  have hlot : Lot n l := ⟨by rw [hl]; exact List.Pairwise.filter _ List.pairwise_lt_range, fun p hp => by rw [hl] at hp; exact List.mem_range.mp (List.mem_filter.mp hp).1, fun z => by
    obtain ⟨p, hp⟩ : ∃ p, p ∈ parts := List.exists_mem_of_length_pos (by omega)
    have : p ∈ l := by rw [hl, hP, List.mem_filter]; exact ⟨List.mem_range.mpr (hpm p hp), by simpa using hp⟩
    rw [z] at this
    cases this⟩
  have hlb : lb n l = bits n P := by rw [hl, lb_lot]
  have hlo : lotL n P = natL l := by rw [hl]; rfl
  obtain ⟨F, hF⟩ : ∃ F, F = unL m n f P sl := ⟨_, rfl⟩
  have hF2 : F = (ch m (lb n l) sl).filter fun t => decide (f t = f sl) := by rw [hF, hlb]; rfl
  have hvF : ∀ t ∈ F, Val m n t := fun t ht => by
    rw [hF] at ht
    have := ch_val (bs := bits n P) (by rw [bits_len]; exact vs) (List.mem_filter.mp ht).1
    rwa [bits_len] at this
  have hFn : ∀ (P : Nat → Bool), (unL m n f P sl).length ≤ 20000 := fun P => by
    refine Nat.le_trans (List.length_filter_le _ _) (Nat.le_trans (ch_len (by omega) _ _) ?_)
    rw [bits_len]; exact hz2
  have hFl : F.length ≤ 20000 := by rw [hF]; exact hFn P
  walk_at "st"
  have hun := ev_law_unnoticed m n f P sl hm (by omega) hz2 vs
  rw [hlo, ← hF] at hun
  refine ⟨_, hun, ?_⟩
  have hnth : ∀ (sd ld : D) (k : Nat) (t : List Int), (sd = lisD sl ∨ sd = tupD sl) → (ld = lisD (natL l) ∨ ld = tupD (natL l)) → F[k]? = some t → R_nth_unnoticed C CR CL CI [bdf C m n f, sd, ld, .int k] (.ok (tupD t)) := fun sd ld k t h1 h2 ht =>
    ev_nth_un C CR CL CI m n f sd ld sl l k t h1 h2 hm (by omega) hz2 hf vs hlot (by omega) (by rw [← hF2]; exact ht)
  have hnum : ∀ (sd wd : D) (k : Nat) (t : List Int), (sd = lisD sl ∨ sd = tupD sl) → (wd = lisD t ∨ wd = tupD t) → F[k]? = some t → R_unnoticed_number C CR [bdf C m n f, sd, wd] (.ok (.int k)) := fun sd wd k t h1 h2 ht => by
    have hmem := List.mem_of_getElem? ht
    have vt := hvF t hmem
    obtain ⟨d, q1, q2, q3⟩ := ev_un_number C CR m n f sd wd sl t h1 h2 hm (by omega) hz2 hf vs vt
    have hd : dfl n sl t = l := by
      rw [hl]
      rw [hF] at hmem
      exact dfl_of vs vt (List.mem_filter.mp hmem).1
    rw [hd] at q3
    rw [← q3 k hlot.ne (by rw [← hF2]; exact ht)]
    exact q1
  walk_at "st"
  refine gr (fun k env z => Vd z ∧ ∃ a b, env = [.fz (D.frl (ns.map D.int)), .gh, .fz (D.int m), .fz (D.int n), .fz (lisD ((sets m n).map f)), .fz (bdf C m n f), .no, .fz (lisD sl), .fz (tupD (natL l)), .fz (.lst (F.map fun s => tupD s)), a, b, .no, .no, .no, .no, .no, .no, .no, .no]) ⟨hv5, _, _, rfl⟩ ?_ ?_
  · rintro k env z hk4 ⟨hvz, a, b, rfl⟩
    refine ⟨_, rfl, fun De' hn' => ?_⟩
    walk_at "st"
    by_cases hF0 : F = []
    · rw [if_pos hF0]
      walk_at "st"
      exact hn' _ _ ⟨hvz, _, _, rfl⟩
    · rw [if_neg hF0]
      walk_at "st"
      have hFp := List.length_pos_iff.mpr hF0
      obtain ⟨v, z2, e1, e2, e3⟩ := ev_draw z (F.length : Int) hvz ⟨by omega, by omega⟩
      obtain ⟨j, rfl⟩ : ∃ j : Nat, v = j := ⟨v.toNat, by omega⟩
      obtain ⟨t, ht⟩ : ∃ t, F[j]? = some t := ⟨_, List.getElem?_eq_getElem (by omega)⟩
      refine ⟨_, _, e1, ?_⟩
      walk_at "st"
      refine ⟨_, hnth _ _ j t (.inl rfl) (.inr rfl) ht, ?_⟩
      refine ex_at (x := t) (by omega) (by simpa using ht) ?_
      walk_at "ev"
      walk_at "st"
      refine ex_at (x := t) (by omega) (by simpa using ht) ?_
      walk_at "ev"
      refine ⟨_, hnum _ _ j t (.inl rfl) (.inl rfl) ht, ?_⟩
      walk_at "ev"
      walk_at "st"
      exact hn' _ _ ⟨e3, _, _, rfl⟩
  rintro env z ⟨hvz, a, b, rfl⟩
  refine gw_seq (gw_ifF ?_ (gw_next ?_))
  · walk_at "ev"
    by_cases hF0 : F = []
    · rw [if_pos hF0]
      trivial
    · rw [if_neg hF0]
      have hFp := List.length_pos_iff.mpr hF0
      obtain ⟨t, ht⟩ : ∃ t, F[0]? = some t := ⟨_, List.getElem?_eq_getElem (by omega)⟩
      refine ⟨_, hnth _ _ 0 t (.inr rfl) (.inl rfl) ht, ?_⟩
      refine ex_at (x := t) (by omega) (by simpa using ht) ?_
      walk_at "ev"
  walk_at "st"
  obtain ⟨v9, s6, e1, e2, hv6⟩ := ev_draw z 9 hvz ⟨by omega, by omega⟩
  refine ⟨_, _, e1, ?_⟩
  walk_at "ev"
  obtain ⟨val, s7, q1, q2, hv7⟩ := ev_pick (fun d : D => d) s6 [D.int F.length, .int (F.length + v9), .int (0 - 1), .non, .bl true, .str "0", .tup [.int 0], .lst []] hv6 ⟨by simp, by simp⟩
  refine ⟨by omega, by omega, _, _, q1, ?_⟩
  have hbey : Bey val F.length := by
    simp only [List.mem_cons, List.not_mem_nil, or_false] at q2
    rcases q2 with rfl | rfl | rfl | rfl | rfl | rfl | rfl | rfl
    · exact .inl ⟨_, rfl, .inr (by omega)⟩
    · exact .inl ⟨_, rfl, .inr (by omega)⟩
    · exact .inl ⟨_, rfl, .inl (by omega)⟩
    · exact .inr (ev_isnt_number _ "NoneType" false false rfl (by decide +kernel) (by decide +kernel) rfl)
    · exact .inr (ev_isnt_number _ "bool" true true rfl (by decide +kernel) (by decide +kernel) rfl)
    · exact .inr (ev_isnt_number _ "str" false false rfl (by decide +kernel) (by decide +kernel) rfl)
    · exact .inr (ev_isnt_number _ "tuple" false false rfl (by decide +kernel) (by decide +kernel) rfl)
    · exact .inr (ev_isnt_number _ "list" false false rfl (by decide +kernel) (by decide +kernel) rfl)
  refine gw_seq (gw_ifR rfl ?_)
  walk_at "ev"
  refine ⟨_, _, _, _, _, call_ex (by walk_at "ev"; exact ⟨ev_un_beyond C CR CL CI m n f (lisD sl) (tupD (natL l)) val sl l (.inr rfl) hm (by omega) hz2 hf vs hlot (by omega) (by rw [← hF2]; exact hbey), rfl⟩), ⟨_, by simp, g_size⟩, ?_⟩
  refine ⟨by omega, _, ne_size, _, rfl, ?_⟩
  walk_at "ev"
  walk_at "st"
  have hlog : ∀ k : Nat, k ≤ 8 → (k : Int).natAbs.log2 < 1920 := fun k h => by
    have := Nat.log2_le_self (k : Int).natAbs
    omega
  refine (ex_reprI (hlog _ (by omega))).mpr ?_
  have ea : (Str.ofString "-1") = strI (-1) := by decide +kernel
  have eb : (Str.ofString "0") = strI 0 := by decide +kernel
  rw [ea, eb]
  obtain ⟨wp, s8, p1, p2, hv8⟩ := ev_pick (fun q : D × Int => D.tup [q.1, .str (strI q.2)]) s7 [(.tup [], -1), (.tup [.int n], 0), (.tup (List.map D.int (natL l) ++ List.map D.int (natL l)), (l.length : Int)), (.tup [.int (0 - 1)], 0), (.non, -1)] hv7 ⟨by simp, by simp⟩
  refine ⟨by omega, by omega, by omega, by omega, by omega, _, _, p1, ?_⟩
  have hwp : R_need_lot CL C [bdf C m n f, wp.1] (.ex CL ["at"] [.int wp.2]) ∧ -1 ≤ wp.2 ∧ wp.2 ≤ 8 ∧ wp.2.natAbs.log2 < 1920 := by
    simp only [List.mem_cons, List.not_mem_nil, or_false] at p2
    rcases p2 with rfl | rfl | rfl | rfl | rfl
    · exact ⟨ev_lot_empty C CL _, by simp, by simp, by decide +kernel⟩
    · exact ⟨ev_lot_bad C CL m n f [(n : Int)] 0 (by simp) hn8 (by simp) (fun i x h => by omega) (fun x hx => by simp at hx; omega), by simp, by simp, hlog 0 (by omega)⟩
    · refine ⟨?_, by omega, by simp; omega, hlog _ (by omega)⟩
      rw [← List.map_append]
      have hlp := List.length_pos_iff.mpr hlot.ne
      refine ev_lot_bad C CL m n f (natL l ++ natL l) l.length (by simp; omega) hn8 (by simp; omega) (fun i x hi hx => ?_) (fun x hx => ?_)
      · rw [List.getElem?_append_left (by simpa using hi), List.getElem?_map, Option.map_eq_some_iff] at hx
        obtain ⟨p, hp, rfl⟩ := hx
        have hpn := hlot.lt p (List.mem_of_getElem? hp)
        refine ⟨by omega, by omega, fun y h0 hy => ?_⟩
        rw [List.getElem?_append_left (by simp; omega), List.getElem?_map, Option.map_eq_some_iff] at hy
        obtain ⟨q, hq, rfl⟩ := hy
        have := List.pairwise_iff_getElem.mp hlot.up (i - 1) i (by omega) hi (by omega)
        rw [(List.getElem?_eq_some_iff.mp hq).2, (List.getElem?_eq_some_iff.mp hp).2] at this
        omega
      · right; right
        rw [List.getElem?_append_right (by simp), List.getElem?_map, natL_len, Nat.sub_self, Option.map_eq_some_iff] at hx
        obtain ⟨p, hp, rfl⟩ := hx
        obtain ⟨q, hq⟩ : ∃ q, l[l.length - 1]? = some q := ⟨_, List.getElem?_eq_getElem (by omega)⟩
        refine ⟨q, by omega, by rw [List.getElem?_append_left (by simp; omega), List.getElem?_map, hq]; rfl, ?_⟩
        by_cases h1 : l.length = 1
        · rw [h1] at hq
          rw [hq] at hp
          cases hp
          omega
        · have := List.pairwise_iff_getElem.mp hlot.up 0 (l.length - 1) (by omega) (by omega) (by omega)
          rw [(List.getElem?_eq_some_iff.mp hq).2, (List.getElem?_eq_some_iff.mp hp).2] at this
          omega
    · exact ⟨ev_lot_bad C CL m n f [0 - 1] 0 (by simp) hn8 (by simp) (fun i x h => by omega) (fun x hx => by simp at hx; omega), by simp, by simp, hlog 0 (by omega)⟩
    · exact ⟨ev_lot_none C CL _ "NoneType" .non rfl (by decide +kernel), by simp, by simp, by decide +kernel⟩
  obtain ⟨wd, wi⟩ := wp
  obtain ⟨hneed, hi1, hi2, hi3⟩ := hwp
  simp only at hneed hi1 hi2 hi3
  walk_at "ev"
  refine gw_seq (gw_ifR rfl ?_)
  walk_at "ev"
  refine ⟨_, _, _, _, _, call_ex (by walk_at "ev"; exact ⟨ev_un_lot C CR CL CI m n f (lisD sl) wd val _ hm (by omega) hz2 hf hneed, rfl⟩), ⟨_, by simp, g_lot hi3⟩, ?_⟩
  refine ⟨by omega, _, ne_lot ⟨hi1, hi2⟩, _, rfl, ?_⟩
  walk_at "ev"
  walk_at "st"
  refine coll_drawK D.int (fun _ c => 0 ≤ c ∧ c < m) Vd hv8 (fun p hp s hs => ?_) fun ol s9 hol hop hv9 => ?_
  · walk_at "ev"
    obtain ⟨v, s', e1, e2, e3⟩ := ev_draw s m hs (by omega)
    exact ⟨_, _, e1, v, rfl, e2, e3⟩
  have vo : Val m n ol := ⟨by simpa using hol, fun c hc => by
    obtain ⟨i, hi⟩ := List.mem_iff_getElem?.mp hc
    have hin : i < n := by
      have := (List.getElem?_eq_some_iff.mp hi).1
      rw [hol, List.length_range] at this
      exact this
    exact hop i i c (List.getElem?_range hin) hi⟩
  have hol4 := vo.1
  refine ⟨by simp; omega, ?_⟩
  walk_at "st"
  have hdl : ∀ t, (dfl n sl t).length ≤ n := fun t => by
    have := List.length_filter_le (fun p => decide (sl[p]? ≠ t[p]?)) (List.range n)
    rw [List.length_range] at this
    exact this
  refine ⟨_, _, coll_fltE (fun p : Nat => D.int p) (fun p => decide (sl[p]? ≠ ol[p]?)) (fun p => p) (fun p hp => ?_), ?_⟩
  · have hpn := List.mem_range.mp hp
    obtain ⟨x, hx, _⟩ := vs.get hpn
    obtain ⟨y, hy, _⟩ := vo.get hpn
    walk_at "ev"
    refine ex_at (x := y) (by omega) (by simpa using hy) ?_
    refine ex_at (x := x) (by omega) (by simpa using hx) ?_
    walk_at "ev"
    rw [hx, hy]
    simp only [Option.some.injEq, ne_eq]
    by_cases h : y = x
    · rw [if_pos h]; simp [h]
    · rw [if_neg h]; simp [h, Ne.symm h]
  rw [List.map_id']
  have e1 : (List.range n).filter (fun p => decide (sl[p]? ≠ ol[p]?)) = dfl n sl ol := rfl
  rw [e1, map_nat]
  have hdo := hdl ol
  refine ⟨by simp; omega, ?_⟩
  walk_at "st"
  have hun2 := ev_law_unnoticed m n f (fun p => decide (sl[p]? ≠ ol[p]?)) sl hm (by omega) hz2 vs
  obtain ⟨F2, hF2d⟩ : ∃ F2, F2 = unL m n f (fun p => decide (sl[p]? ≠ ol[p]?)) sl := ⟨_, rfl⟩
  rw [← hF2d] at hun2
  have hlb2 : lb n (dfl n sl ol) = bits n fun p => decide (sl[p]? ≠ ol[p]?) := lb_lot n _
  have hF2l : F2.length ≤ 20000 := by rw [hF2d]; exact hFn _
  refine ⟨_, hun2, ?_⟩
  obtain ⟨d, q1, q2, q3⟩ := ev_un_number C CR m n f (lisD sl) (lisD ol) sl ol (.inl rfl) (.inl rfl) hm (by omega) hz2 hf vs vo
  refine gw_seq (gw_set (Go.mono (Q := fun d' s1 => d' = d ∧ s1 = s9) ?_ fun d' s1 hd' => ?_))
  · walk_at "ev"
    by_cases h0 : dfl n sl ol = []
    · rw [if_pos (by simpa using h0)]
      exact (q2 (.inl h0)).symm
    · rw [if_neg (by simpa using h0)]
      by_cases hmem : ol ∈ F2
      · rw [if_pos hmem]
        obtain ⟨j, hj⟩ := List.mem_iff_getElem?.mp hmem
        refine ex_idx hj (by rw [hF2d]; exact unL_nodup) ?_
        exact (q3 j h0 (by rw [hlb2]; rw [hF2d] at hj; exact hj)).symm
      · rw [if_neg hmem]
        refine (q2 (.inr fun h => hmem ?_)).symm
        rw [hF2d]
        exact List.mem_filter.mpr ⟨by rw [← hlb2]; exact mem_dfl vs vo, by simp [h]⟩
  obtain ⟨hd', rfl⟩ := hd'
  subst hd'
  walk_at "st"
  have hne : dNe d' d' = some (.bl false) := by
    have hd : d' = .non ∨ ∃ k : Nat, d' = .int k := by
      by_cases h0 : dfl n sl ol = []
      · exact .inl (q2 (.inl h0))
      · by_cases h1 : f sl = f ol
        · right
          have hmem : ol ∈ (ch m (lb n (dfl n sl ol)) sl).filter fun t => decide (f t = f sl) := List.mem_filter.mpr ⟨mem_dfl vs vo, by simp [h1]⟩
          obtain ⟨j, hj⟩ := List.mem_iff_getElem?.mp hmem
          exact ⟨j, q3 j h0 hj⟩
        · exact .inl (q2 (.inr h1))
    rcases hd with rfl | ⟨k, rfl⟩
    · rw [ne_self pln_non]; simp [deq, toPy, PyData.eqv]
    · rw [ne_self (pln_int _)]; simp [deq, toPy, PyData.eqv]
  refine ⟨_, q1, _, hne, _, rfl, ?_⟩
  walk_at "ev"
  walk_at "st"
  obtain ⟨d0, r1, r2, _⟩ := ev_un_number C CR m n f (lisD sl) (lisD sl) sl sl (.inl rfl) (.inl rfl) hm (by omega) hz2 hf vs vs
  have hd0 := r2 (.inl (by simp [dfl]))
  subst hd0
  refine ⟨_, r1, ?_⟩
  walk_at "ev"
  walk_at "st"
  obtain ⟨kk, s10, w1, w2, hv10⟩ := ev_spoilt C s1 m n f hv9 hB'
  have hno : ¬ Lines m n (spoil m f kk) := fun z => by
    obtain ⟨t, ht, hnd⟩ := spoil_line hf hm.1 hn.1 w2
    exact hnd (z 0 hn.1 t ht)
  obtain ⟨r1, hr1⟩ := ev_number_no C CR m n (spoil m f kk) (lisD sl) (lisD ol) hm hn8 hz2 hno
  obtain ⟨r2, hr2⟩ := ev_un_no C CR CL CI m n (spoil m f kk) (lisD sl) wd val hm hn8 hz2 hno
  refine ⟨_, _, w1, ?_⟩
  refine gw_seq (gw_ifR rfl ?_)
  walk_at "ev"
  refine ⟨_, _, _, call_ex (by walk_at "ev"; exact ⟨hr1, rfl⟩), g_twice _, ?_⟩
  walk_at "ev"
  refine gw_next (gw_retR rfl ?_)
  walk_at "ev"
  exact ⟨_, _, _, call_ex (by walk_at "ev"; exact ⟨hr2, rfl⟩), g_twice _, rfl⟩
end K82
set_option maxHeartbeats 0
namespace K82
open PySem PySem.Spec PyProof.Rows L2 Pl RT Hd He
def d_is_sequence : DefD := ⟨("is_sequence", none), "is_sequence", "is_sequence", defArgs s_is_sequence, defBody s_is_sequence, defScope s_is_sequence, [], []⟩
def d_is_integer : DefD := ⟨("is_integer", none), "is_integer", "is_integer", defArgs s_is_integer, defBody s_is_integer, defScope s_is_integer, [], []⟩
def d_wrong_size : DefD := ⟨("wrong_size", none), "wrong_size", "wrong_size", defArgs s_wrong_size, defBody s_wrong_size, defScope s_wrong_size, [], []⟩
def d_settings_count : DefD := ⟨("settings_count", none), "settings_count", "settings_count", defArgs s_settings_count, defBody s_settings_count, defScope s_settings_count, [], []⟩
def d_is_number : DefD := ⟨("is_number", none), "is_number", "is_number", defArgs s_is_number, defBody s_is_number, defScope s_is_number, [], []⟩
def d_wrong_mark : DefD := ⟨("wrong_mark", none), "wrong_mark", "wrong_mark", defArgs s_wrong_mark, defBody s_wrong_mark, defScope s_wrong_mark, [], []⟩
def d_steps_of : DefD := ⟨("steps_of", none), "steps_of", "steps_of", defArgs s_steps_of, defBody s_steps_of, defScope s_steps_of, [], []⟩
def d_Board___init__ : DefD := ⟨("Board", some "__init__"), "__init__", "Board.__init__", defArgs s_Board___init__, defBody s_Board___init__, defScope s_Board___init__, [], []⟩
def d_Board___len__ : DefD := ⟨("Board", some "__len__"), "__len__", "Board.__len__", defArgs s_Board___len__, defBody s_Board___len__, defScope s_Board___len__, [], []⟩
def d_wrong_content : DefD := ⟨("wrong_content", none), "wrong_content", "wrong_content", defArgs s_wrong_content, defBody s_wrong_content, defScope s_wrong_content, [], []⟩
def d_setting_number : DefD := ⟨("setting_number", none), "setting_number", "setting_number", defArgs s_setting_number, defBody s_setting_number, defScope s_setting_number, [], []⟩
def d_Board___call__ : DefD := ⟨("Board", some "__call__"), "__call__", "Board.__call__", defArgs s_Board___call__, defBody s_Board___call__, defScope s_Board___call__, [], []⟩
def d__law_deal : DefD := ⟨("_law_deal", none), "_law_deal", "_law_deal", defArgs s__law_deal, defBody s__law_deal, defScope s__law_deal, [], []⟩
def d__law_draw : DefD := ⟨("_law_draw", none), "_law_draw", "_law_draw", defArgs s__law_draw, defBody s__law_draw, defScope s__law_draw, [], []⟩
def d__law_pick : DefD := ⟨("_law_pick", none), "_law_pick", "_law_pick", defArgs s__law_pick, defBody s__law_pick, defScope s__law_pick, [], []⟩
def d__law_mixed : DefD := ⟨("_law_mixed", none), "_law_mixed", "_law_mixed", defArgs s__law_mixed, defBody s__law_mixed, defScope s__law_mixed, [], []⟩
def d__law_settings : DefD := ⟨("_law_settings", none), "_law_settings", "_law_settings", defArgs s__law_settings, defBody s__law_settings, defScope s__law_settings, [], []⟩
def d__law_bends : DefD := ⟨("_law_bends", none), "_law_bends", "_law_bends", defArgs s__law_bends, defBody s__law_bends, defScope s__law_bends, [], []⟩
def d__law_two_bits : DefD := ⟨("_law_two_bits", none), "_law_two_bits", "_law_two_bits", defArgs s__law_two_bits, defBody s__law_two_bits, defScope s__law_two_bits, [], []⟩
def d__law_times : DefD := ⟨("_law_times", none), "_law_times", "_law_times", defArgs s__law_times, defBody s__law_times, defScope s__law_times, [], []⟩
def d__law_products : DefD := ⟨("_law_products", none), "_law_products", "_law_products", defArgs s__law_products, defBody s__law_products, defScope s__law_products, [], []⟩
def d__law_board : DefD := ⟨("_law_board", none), "_law_board", "_law_board", defArgs s__law_board, defBody s__law_board, defScope s__law_board, [], []⟩
def d__law_number : DefD := ⟨("_law_number", none), "_law_number", "_law_number", defArgs s__law_number, defBody s__law_number, defScope s__law_number, [], []⟩
def d__law_unnoticed : DefD := ⟨("_law_unnoticed", none), "_law_unnoticed", "_law_unnoticed", defArgs s__law_unnoticed, defBody s__law_unnoticed, defScope s__law_unnoticed, [], []⟩
def d__law_spoilt : DefD := ⟨("_law_spoilt", none), "_law_spoilt", "_law_spoilt", defArgs s__law_spoilt, defBody s__law_spoilt, defScope s__law_spoilt, [], []⟩
def d_lot_places : DefD := ⟨("lot_places", none), "lot_places", "lot_places", defArgs s_lot_places, defBody s_lot_places, defScope s_lot_places, [], []⟩
def d_rest_of : DefD := ⟨("rest_of", none), "rest_of", "rest_of", defArgs s_rest_of, defBody s_rest_of, defScope s_rest_of, [], []⟩
def d_lot_marks : DefD := ⟨("lot_marks", none), "lot_marks", "lot_marks", defArgs s_lot_marks, defBody s_lot_marks, defScope s_lot_marks, [], []⟩
def d_part_lines : DefD := ⟨("part_lines", none), "part_lines", "part_lines", defArgs s_part_lines, defBody s_part_lines, defScope s_part_lines, [], []⟩
def d_twice_fault : DefD := ⟨("twice_fault", none), "twice_fault", "twice_fault", defArgs s_twice_fault, defBody s_twice_fault, defScope s_twice_fault, [], []⟩
def d_nth_setting : DefD := ⟨("nth_setting", none), "nth_setting", "nth_setting", defArgs s_nth_setting, defBody s_nth_setting, defScope s_nth_setting, [], []⟩
def d_fair_fault : DefD := ⟨("fair_fault", none), "fair_fault", "fair_fault", defArgs s_fair_fault, defBody s_fair_fault, defScope s_fair_fault, [], []⟩
def d_need_fair : DefD := ⟨("need_fair", none), "need_fair", "need_fair", defArgs s_need_fair, defBody s_need_fair, defScope s_need_fair, [], []⟩
def d_with_content : DefD := ⟨("with_content", none), "with_content", "with_content", defArgs s_with_content, defBody s_with_content, defScope s_with_content, [], []⟩
def d_changed_many : DefD := ⟨("changed_many", none), "changed_many", "changed_many", defArgs s_changed_many, defBody s_changed_many, defScope s_changed_many, [], []⟩
def d_changed_left : DefD := ⟨("changed_left", none), "changed_left", "changed_left", defArgs s_changed_left, defBody s_changed_left, defScope s_changed_left, [], []⟩
def d_unnoticed_number : DefD := ⟨("unnoticed_number", none), "unnoticed_number", "unnoticed_number", defArgs s_unnoticed_number, defBody s_unnoticed_number, defScope s_unnoticed_number, [], []⟩
def d_need_lot : DefD := ⟨("need_lot", none), "need_lot", "need_lot", defArgs s_need_lot, defBody s_need_lot, defScope s_need_lot, [], []⟩
def d_unnoticed_many : DefD := ⟨("unnoticed_many", none), "unnoticed_many", "unnoticed_many", defArgs s_unnoticed_many, defBody s_unnoticed_many, defScope s_unnoticed_many, [], []⟩
def d_nth_unnoticed : DefD := ⟨("nth_unnoticed", none), "nth_unnoticed", "nth_unnoticed", defArgs s_nth_unnoticed, defBody s_nth_unnoticed, defScope s_nth_unnoticed, [], []⟩
def d__law_wrong : DefD := ⟨("_law_wrong", none), "_law_wrong", "_law_wrong", defArgs s__law_wrong, defBody s__law_wrong, defScope s__law_wrong, [], []⟩
def d__law_is_refused : DefD := ⟨("_law_is_refused", none), "_law_is_refused", "_law_is_refused", defArgs s__law_is_refused, defBody s__law_is_refused, defScope s__law_is_refused, [], []⟩
def d_law : DefD := ⟨("law", none), "law", "law", defArgs s_law, defBody s_law, defScope s_law, [], []⟩
def fnL : List DefD := [d_is_sequence, d_is_integer, d_wrong_size, d_settings_count, d_is_number, d_wrong_mark, d_steps_of, d_Board___init__, d_Board___len__, d_wrong_content, d_setting_number, d_Board___call__, d__law_deal, d__law_draw, d__law_pick, d__law_mixed, d__law_settings, d__law_bends, d__law_two_bits, d__law_times, d__law_products, d__law_board, d__law_number, d__law_unnoticed, d__law_spoilt, d_lot_places, d_rest_of, d_lot_marks, d_part_lines, d_twice_fault, d_nth_setting, d_fair_fault, d_need_fair, d_with_content, d_changed_many, d_changed_left, d_unnoticed_number, d_need_lot, d_unnoticed_many, d_nth_unnoticed, d__law_wrong, d__law_is_refused, d_law]
def faL : List Fa := [.free "len", .free "tuple", .free "list", .free "range", .free "reversed", .free "enumerate", .free "zip", .free "sum", .free "min", .free "max", .free "abs", .free "int", .free "isinstance", .free "all", .free "any", .free "bool", .free "str", .free "super", .glo "is_sequence", .glo "is_integer", .glo "wrong_size", .glo "settings_count", .glo "is_number", .glo "wrong_mark", .glo "steps_of", .glo "wrong_content", .glo "setting_number", .glo "_law_deal", .glo "_law_draw", .glo "_law_pick", .glo "_law_mixed", .glo "_law_settings", .glo "_law_bends", .glo "_law_two_bits", .glo "_law_times", .glo "_law_products", .glo "_law_board", .glo "_law_number", .glo "_law_unnoticed", .glo "_law_spoilt", .glo "lot_places", .glo "rest_of", .glo "lot_marks", .glo "part_lines", .glo "twice_fault", .glo "nth_setting", .glo "fair_fault", .glo "need_fair", .glo "with_content", .glo "changed_many", .glo "changed_left", .glo "unnoticed_number", .glo "need_lot", .glo "unnoticed_many", .glo "nth_unnoticed", .glo "_law_wrong", .glo "_law_is_refused", .glo "law", .int "MOST_PARTS" 8, .int "MOST_MARKS" 8, .int "MOST_SETTINGS" 20000, .glo "Board", .cls "Board", .noat "Board" "marks", .noat "Board" "sizes", .noat "Board" "many", .noat "Board" "steps", .mkr "Board", .meth "Board" "__len__", .glo "Refused", .noat "Refused" "at", .meth "Board" "__call__", .glo "InvalidLot", .noat "InvalidLot" "at", .glo "InvalidSize", .noat "InvalidSize" "word", .free "sorted", .exm "InvalidLot" "InvalidLot" true, .exm "InvalidSize" "InvalidSize" true, .exm "InvalidSize" "InvalidLot" false, .free "repr", .exm "Refused" "Refused" true, .glo "BoardError"]
def exL (K : PySem.W.Frag) : Bool := (exbB K (ga K "InvalidLot") (ga K "BoardError")) && ((iniB K RL.prog ("InvalidLot", some "__init__") "InvalidLot.__init__") && ((decide (PySem.W.findIn K (.ref (ga K "InvalidLot")) "__init__" = some (some (.ref (ma K (ga K "InvalidLot") "__init__"))))) && ((decide (PySem.W.typeIn K (.ref (ma K (ga K "InvalidLot") "__init__")) = some (.type "function"))) && ((xfB K (ga K "InvalidLot")) && ((exbB K (ga K "InvalidSize") (ga K "BoardError")) && ((iniB K RL.prog ("InvalidSize", some "__init__") "InvalidSize.__init__") && ((decide (PySem.W.findIn K (.ref (ga K "InvalidSize")) "__init__" = some (some (.ref (ma K (ga K "InvalidSize") "__init__"))))) && ((decide (PySem.W.typeIn K (.ref (ma K (ga K "InvalidSize") "__init__")) = some (.type "function"))) && ((xfB K (ga K "InvalidSize")) && ((exbB K (ga K "Refused") (ga K "BoardError")) && ((iniB K RL.prog ("Refused", some "__init__") "Refused.__init__") && ((decide (PySem.W.findIn K (.ref (ga K "Refused")) "__init__" = some (some (.ref (ma K (ga K "Refused") "__init__"))))) && ((decide (PySem.W.typeIn K (.ref (ma K (ga K "Refused") "__init__")) = some (.type "function"))) && (xfB K (ga K "Refused")))))))))))))))
def obL (K : PySem.W.Frag) : List IniV := [iniV K ("InvalidLot", some "__init__"), iniV K ("InvalidSize", some "__init__"), iniV K ("Refused", some "__init__")]
def vaL : List IniV := [some ("InvalidLot.__init__", defArgs s_InvalidLot___init__, .stmts (defBody s_InvalidLot___init__), defScope s_InvalidLot___init__, mainGlobals, builtinsNs), some ("InvalidSize.__init__", defArgs s_InvalidSize___init__, .stmts (defBody s_InvalidSize___init__), defScope s_InvalidSize___init__, mainGlobals, builtinsNs), some ("Refused.__init__", defArgs s_Refused___init__, .stmts (defBody s_Refused___init__), defScope s_Refused___init__, mainGlobals, builtinsNs)]
abbrev tfL : List Defn := [("law", none)]
abbrev hk : PySem.W.Hook := hookY 4 faL fnL tfL exL obL vaL
def ob (s : PySem.W.SharedT) : AlY (List IniV) := obsY 4 faL fnL tfL exL obL (HandSHeadRun.getT s)
theorem ob_eq (s : PySem.W.SharedT) : ob s = hk.obs s.abs := obsY_eq (HandSHeadRun.getT_eq s)
def lo0 : List Str := ["BoardError", "InvalidBoard", "InvalidSetting", "InvalidLot", "InvalidText", "Refused", "InvalidSize", "FIGURES", "is_integer", "is_number", "is_text", "is_sequence", "is_number_text", "MOST_MARKS", "MOST_PARTS", "MOST_SETTINGS", "settings_count", "steps_of", "setting_number", "nth_setting", "wrong_content", "wrong_size", "wrong_mark", "Board", "many_of_row", "sizes_of_row", "need_lot", "rest_of", "lot_places", "lot_marks"]
def lo1 : List Str := ["part_lines", "twice_fault", "fair_fault", "need_fair", "with_content", "changed_many", "unnoticed_many", "changed_left", "nth_unnoticed", "unnoticed_number", "_law_deal", "_law_draw", "_law_pick", "_law_mixed", "_law_settings", "_law_bends", "_law_two_bits", "_law_times", "_law_products", "_law_board", "_law_is_refused", "_law_spoilt", "_law_number", "_law_unnoticed", "_law_wrong"]
def loL : List Str := lo0 ++ lo1
abbrev Rw : PySem.W.OpenRow := PySem.W.OpenLaw.row RL
theorem run (w : World) : HandSHeadRun.RunEq Rw (PySem.W.view Rw.prog [61]) hk ob 8000 loL w := by
  intro os
  kernel_rfl
theorem exs_InvalidLot : ExS RL.prog "self" "at" "at" s_InvalidLot___init__ := ⟨⟨_, _, _, _, _, _, _, _, _, _, _, _, rfl, fun _ => ⟨_, rfl⟩, fun _ => rfl, fun _ => rfl⟩, rfl, by intros; kernel_rfl, rfl, rfl, rfl, rfl, by decide +kernel, rfl, rfl, rfl, by decide, by decide +kernel, by decide, by decide⟩
theorem exs_InvalidSize : ExS RL.prog "self" "word" "word" s_InvalidSize___init__ := ⟨⟨_, _, _, _, _, _, _, _, _, _, _, _, rfl, fun _ => ⟨_, rfl⟩, fun _ => rfl, fun _ => rfl⟩, rfl, by intros; kernel_rfl, rfl, rfl, rfl, rfl, by decide +kernel, rfl, rfl, rfl, by decide, by decide +kernel, by decide, by decide⟩
theorem exs_Refused : ExS RL.prog "self" "at" "at" s_Refused___init__ := ⟨⟨_, _, _, _, _, _, _, _, _, _, _, _, rfl, fun _ => ⟨_, rfl⟩, fun _ => rfl, fun _ => rfl⟩, rfl, by intros; kernel_rfl, rfl, rfl, rfl, rfl, by decide +kernel, rfl, rfl, rfl, by decide, by decide +kernel, by decide, by decide⟩
theorem facts {w : World} {K : PySem.W.Frag} {h : Heap} {mg : Str → Option Value} {f : Addr} (X : K.In h) (G : h.Ns mainGlobals mg) (hfa : mg ("law" : Str) = some (.ref f)) (c : SaysY faL fnL tfL exL obL vaL w h K) : LamX.LawAtS RL w K (L2.CX RL.prog w) 12 63 "script" mg f h := by
  have cd : SaysD faL fnL K := c.x.t.d
  have cf : ∀ (i : Nat) {q : Fa}, faL[i]? = some q → q.ok K = true := fun i q hq => cd.fact i hq
  have cm := c.x.more
  obtain ⟨m0, cm⟩ := ba2 cm
  obtain ⟨m1, cm⟩ := ba2 cm
  obtain ⟨m2, cm⟩ := ba2 cm
  obtain ⟨m3, cm⟩ := ba2 cm
  obtain ⟨m4, cm⟩ := ba2 cm
  obtain ⟨m5, cm⟩ := ba2 cm
  obtain ⟨m6, cm⟩ := ba2 cm
  obtain ⟨m7, cm⟩ := ba2 cm
  obtain ⟨m8, cm⟩ := ba2 cm
  obtain ⟨m9, cm⟩ := ba2 cm
  obtain ⟨m10, cm⟩ := ba2 cm
  obtain ⟨m11, cm⟩ := ba2 cm
  obtain ⟨m12, cm⟩ := ba2 cm
  obtain ⟨m13, cm⟩ := ba2 cm
  have m14 := cm
  have ini_InvalidLot : PySem.Px.IniF K RL.prog (ma K (ga K "InvalidLot") "__init__") (ga K "InvalidLot") "InvalidLot.__init__" s_InvalidLot___init__ := iniB_ok m1 (by have e := congrArg (fun l : List IniV => l[0]?) c.y; exact Option.some.inj e)
  have x_InvalidLot : ExRK K RL.prog mg "InvalidLot" (ga K "InvalidLot") (ga K "BoardError") (ma K (ga K "InvalidLot") "__init__") "InvalidLot.__init__" "at" s_InvalidLot___init__ := ⟨exbB_ok m0, ini_InvalidLot, of_decide_eq_true m2, of_decide_eq_true m3, glo_ok X G (cf 72 (q := .glo "InvalidLot") rfl), free_ok X G (cf 17 (q := .free "super") rfl), noat_ok (cf 73 (q := .noat "InvalidLot" "at") rfl)⟩
  have xf_InvalidLot : XfC K (ga K "InvalidLot") := xfB_ok m4
  have ini_InvalidSize : PySem.Px.IniF K RL.prog (ma K (ga K "InvalidSize") "__init__") (ga K "InvalidSize") "InvalidSize.__init__" s_InvalidSize___init__ := iniB_ok m6 (by have e := congrArg (fun l : List IniV => l[1]?) c.y; exact Option.some.inj e)
  have x_InvalidSize : ExRK K RL.prog mg "InvalidSize" (ga K "InvalidSize") (ga K "BoardError") (ma K (ga K "InvalidSize") "__init__") "InvalidSize.__init__" "word" s_InvalidSize___init__ := ⟨exbB_ok m5, ini_InvalidSize, of_decide_eq_true m7, of_decide_eq_true m8, glo_ok X G (cf 74 (q := .glo "InvalidSize") rfl), free_ok X G (cf 17 (q := .free "super") rfl), noat_ok (cf 75 (q := .noat "InvalidSize" "word") rfl)⟩
  have xf_InvalidSize : XfC K (ga K "InvalidSize") := xfB_ok m9
  have ini_Refused : PySem.Px.IniF K RL.prog (ma K (ga K "Refused") "__init__") (ga K "Refused") "Refused.__init__" s_Refused___init__ := iniB_ok m11 (by have e := congrArg (fun l : List IniV => l[2]?) c.y; exact Option.some.inj e)
  have x_Refused : ExRK K RL.prog mg "Refused" (ga K "Refused") (ga K "BoardError") (ma K (ga K "Refused") "__init__") "Refused.__init__" "at" s_Refused___init__ := ⟨exbB_ok m10, ini_Refused, of_decide_eq_true m12, of_decide_eq_true m13, glo_ok X G (cf 69 (q := .glo "Refused") rfl), free_ok X G (cf 17 (q := .free "super") rfl), noat_ok (cf 70 (q := .noat "Refused" "at") rfl)⟩
  have xf_Refused : XfC K (ga K "Refused") := xfB_ok m14
  have bf : Bf mg := ⟨free_ok X G (cf 0 (q := .free "len") rfl), free_ok X G (cf 1 (q := .free "tuple") rfl), free_ok X G (cf 2 (q := .free "list") rfl), free_ok X G (cf 3 (q := .free "range") rfl), free_ok X G (cf 4 (q := .free "reversed") rfl), free_ok X G (cf 5 (q := .free "enumerate") rfl), free_ok X G (cf 6 (q := .free "zip") rfl), free_ok X G (cf 7 (q := .free "sum") rfl), free_ok X G (cf 8 (q := .free "min") rfl), free_ok X G (cf 9 (q := .free "max") rfl), free_ok X G (cf 10 (q := .free "abs") rfl), free_ok X G (cf 11 (q := .free "int") rfl), free_ok X G (cf 12 (q := .free "isinstance") rfl), free_ok X G (cf 13 (q := .free "all") rfl), free_ok X G (cf 14 (q := .free "any") rfl), free_ok X G (cf 15 (q := .free "bool") rfl), free_ok X G (cf 16 (q := .free "str") rfl)⟩
  obtain ⟨fd_is_sequence, D_is_sequence⟩ := cd.def_ 0 (d := d_is_sequence) rfl
  obtain ⟨fd_is_integer, D_is_integer⟩ := cd.def_ 1 (d := d_is_integer) rfl
  obtain ⟨fd_wrong_size, D_wrong_size⟩ := cd.def_ 2 (d := d_wrong_size) rfl
  obtain ⟨fd_settings_count, D_settings_count⟩ := cd.def_ 3 (d := d_settings_count) rfl
  obtain ⟨fd_is_number, D_is_number⟩ := cd.def_ 4 (d := d_is_number) rfl
  obtain ⟨fd_wrong_mark, D_wrong_mark⟩ := cd.def_ 5 (d := d_wrong_mark) rfl
  obtain ⟨fd_steps_of, D_steps_of⟩ := cd.def_ 6 (d := d_steps_of) rfl
  obtain ⟨fd_Board___init__, D_Board___init__⟩ := cd.def_ 7 (d := d_Board___init__) rfl
  obtain ⟨fd_Board___len__, D_Board___len__⟩ := cd.def_ 8 (d := d_Board___len__) rfl
  obtain ⟨fd_wrong_content, D_wrong_content⟩ := cd.def_ 9 (d := d_wrong_content) rfl
  obtain ⟨fd_setting_number, D_setting_number⟩ := cd.def_ 10 (d := d_setting_number) rfl
  obtain ⟨fd_Board___call__, D_Board___call__⟩ := cd.def_ 11 (d := d_Board___call__) rfl
  obtain ⟨fd__law_deal, D__law_deal⟩ := cd.def_ 12 (d := d__law_deal) rfl
  obtain ⟨fd__law_draw, D__law_draw⟩ := cd.def_ 13 (d := d__law_draw) rfl
  obtain ⟨fd__law_pick, D__law_pick⟩ := cd.def_ 14 (d := d__law_pick) rfl
  obtain ⟨fd__law_mixed, D__law_mixed⟩ := cd.def_ 15 (d := d__law_mixed) rfl
  obtain ⟨fd__law_settings, D__law_settings⟩ := cd.def_ 16 (d := d__law_settings) rfl
  obtain ⟨fd__law_bends, D__law_bends⟩ := cd.def_ 17 (d := d__law_bends) rfl
  obtain ⟨fd__law_two_bits, D__law_two_bits⟩ := cd.def_ 18 (d := d__law_two_bits) rfl
  obtain ⟨fd__law_times, D__law_times⟩ := cd.def_ 19 (d := d__law_times) rfl
  obtain ⟨fd__law_products, D__law_products⟩ := cd.def_ 20 (d := d__law_products) rfl
  obtain ⟨fd__law_board, D__law_board⟩ := cd.def_ 21 (d := d__law_board) rfl
  obtain ⟨fd__law_number, D__law_number⟩ := cd.def_ 22 (d := d__law_number) rfl
  obtain ⟨fd__law_unnoticed, D__law_unnoticed⟩ := cd.def_ 23 (d := d__law_unnoticed) rfl
  obtain ⟨fd__law_spoilt, D__law_spoilt⟩ := cd.def_ 24 (d := d__law_spoilt) rfl
  obtain ⟨fd_lot_places, D_lot_places⟩ := cd.def_ 25 (d := d_lot_places) rfl
  obtain ⟨fd_rest_of, D_rest_of⟩ := cd.def_ 26 (d := d_rest_of) rfl
  obtain ⟨fd_lot_marks, D_lot_marks⟩ := cd.def_ 27 (d := d_lot_marks) rfl
  obtain ⟨fd_part_lines, D_part_lines⟩ := cd.def_ 28 (d := d_part_lines) rfl
  obtain ⟨fd_twice_fault, D_twice_fault⟩ := cd.def_ 29 (d := d_twice_fault) rfl
  obtain ⟨fd_nth_setting, D_nth_setting⟩ := cd.def_ 30 (d := d_nth_setting) rfl
  obtain ⟨fd_fair_fault, D_fair_fault⟩ := cd.def_ 31 (d := d_fair_fault) rfl
  obtain ⟨fd_need_fair, D_need_fair⟩ := cd.def_ 32 (d := d_need_fair) rfl
  obtain ⟨fd_with_content, D_with_content⟩ := cd.def_ 33 (d := d_with_content) rfl
  obtain ⟨fd_changed_many, D_changed_many⟩ := cd.def_ 34 (d := d_changed_many) rfl
  obtain ⟨fd_changed_left, D_changed_left⟩ := cd.def_ 35 (d := d_changed_left) rfl
  obtain ⟨fd_unnoticed_number, D_unnoticed_number⟩ := cd.def_ 36 (d := d_unnoticed_number) rfl
  obtain ⟨fd_need_lot, D_need_lot⟩ := cd.def_ 37 (d := d_need_lot) rfl
  obtain ⟨fd_unnoticed_many, D_unnoticed_many⟩ := cd.def_ 38 (d := d_unnoticed_many) rfl
  obtain ⟨fd_nth_unnoticed, D_nth_unnoticed⟩ := cd.def_ 39 (d := d_nth_unnoticed) rfl
  obtain ⟨fd__law_wrong, D__law_wrong⟩ := cd.def_ 40 (d := d__law_wrong) rfl
  obtain ⟨fd__law_is_refused, D__law_is_refused⟩ := cd.def_ 41 (d := d__law_is_refused) rfl
  obtain ⟨fd_law, D_law⟩ := cd.def_ 42 (d := d_law) rfl
  have e := hfa.symm.trans (glo_ok X G (cf 57 (q := .glo "law") rfl))
  cases e
  obtain ⟨oc, od, dV, kV, doc, pm, an, cdv, ct, osl, hfd, lk, hcd, _, _⟩ := D_law.ex
  obtain ⟨cc, rfl⟩ := codeIn_ref hcd
  have hco : codeOf K ("law", none) = cc := codeOf_eq (oc := oc) (od := od) (osl := osl) lk (by rw [hfd])
  have hcode : ∀ oc od osl fd', K.lookup (ga K "law") = some ⟨oc, od, .func fd', osl⟩ → fd'.code = .ref cc := fun _ _ _ _ z => by have z2 := z.symm.trans lk; cases z2; rw [hfd]
  have b := FunD.bindsA (ps := ["script"]) D_law (fun _ _ _ _ _ _ us hl => match us, hl with | [_], _ => rfl)
  refine ⟨fd_law, [cT K ("law", none)], spLawT K [((cT K ("law", none)).2, (("law" : Str) ++ ".<locals>.") ++ "<lambda>")] 63, ?_, ?_, ?_, fun s u => b s [u] rfl, ?_, ?_⟩
  · intro p hp; rw [List.mem_singleton.mp hp]; exact c.x.empty _ (List.mem_singleton.mpr rfl)
  · intro p hp; rw [List.mem_singleton.mp hp]; exact c.x.out _ (List.mem_singleton.mpr rfl)
  · intro p hp; rw [List.mem_singleton.mp hp]; exact PySem.W.codeHd_of_K X (c.x.hd _ (List.mem_singleton.mpr rfl))
  · intro H a ns hl _ hT hS; exact ⟨a, ns, rfl, hl, hS, fun p hp => by rw [List.mem_singleton.mp hp]; exact LamX.TabS.nil (hT _ (List.mem_singleton.mpr rfl)), fun _ => rfl⟩
  · intro base hKb hNb TB
    have TB0 := TB _ (List.mem_singleton.mpr rfl)
    have TB1 : LamX.TabB base mg cc (cT K ("law", none)).2 := by have z := TB0; rw [show (cT K ("law", none)).1 = cc from hco] at z; exact z
    have k_is_sequence := ok_is_sequence (P := RL.prog) (w := w) (K := K) (mg := mg) (base := base) bf D_is_sequence
    have o_is_sequence := FnD.of D_is_sequence (y := "is_sequence") (glo_ok X G (cf 18 (q := .glo "is_sequence") rfl)) (fun _ _ _ _ _ _ us hl => match us, hl with | [_], _ => rfl) k_is_sequence
    have k_is_integer := ok_is_integer (P := RL.prog) (w := w) (K := K) (mg := mg) (base := base) bf D_is_integer
    have o_is_integer := FnD.of D_is_integer (y := "is_integer") (glo_ok X G (cf 19 (q := .glo "is_integer") rfl)) (fun _ _ _ _ _ _ us hl => match us, hl with | [_], _ => rfl) k_is_integer
    have k_wrong_size := ok_wrong_size (P := RL.prog) (w := w) (K := K) (mg := mg) (base := base) bf o_is_sequence (int_ok X G (cf 58 (q := .int "MOST_PARTS" 8) rfl)) o_is_integer D_wrong_size
    have o_wrong_size := FnD.of D_wrong_size (y := "wrong_size") (glo_ok X G (cf 20 (q := .glo "wrong_size") rfl)) (fun _ _ _ _ _ _ us hl => match us, hl with | [_], _ => rfl) k_wrong_size
    have k_settings_count := ok_settings_count (P := RL.prog) (w := w) (K := K) (mg := mg) (base := base) bf D_settings_count
    have o_settings_count := FnD.of D_settings_count (y := "settings_count") (glo_ok X G (cf 21 (q := .glo "settings_count") rfl)) (fun _ _ _ _ _ _ us hl => match us, hl with | [_], _ => rfl) k_settings_count
    have k_is_number := ok_is_number (P := RL.prog) (w := w) (K := K) (mg := mg) (base := base) bf o_is_integer D_is_number
    have o_is_number := FnD.of D_is_number (y := "is_number") (glo_ok X G (cf 22 (q := .glo "is_number") rfl)) (fun _ _ _ _ _ _ us hl => match us, hl with | [_], _ => rfl) k_is_number
    have k_wrong_mark := ok_wrong_mark (P := RL.prog) (w := w) (K := K) (mg := mg) (base := base) bf o_is_sequence o_is_number D_wrong_mark
    have o_wrong_mark := FnD.of D_wrong_mark (y := "wrong_mark") (glo_ok X G (cf 23 (q := .glo "wrong_mark") rfl)) (fun _ _ _ _ _ _ us hl => match us, hl with | [_, _, _], _ => rfl) k_wrong_mark
    have k_steps_of := ok_steps_of (P := RL.prog) (w := w) (K := K) (mg := mg) (base := base) bf D_steps_of
    have o_steps_of := FnD.of D_steps_of (y := "steps_of") (glo_ok X G (cf 24 (q := .glo "steps_of") rfl)) (fun _ _ _ _ _ _ us hl => match us, hl with | [_], _ => rfl) k_steps_of
    have k_Board___init__ := ok_Board___init__ (P := RL.prog) (w := w) (K := K) (mg := mg) (base := base) bf o_is_integer (int_ok X G (cf 59 (q := .int "MOST_MARKS" 8) rfl)) o_wrong_size o_settings_count (int_ok X G (cf 60 (q := .int "MOST_SETTINGS" 20000) rfl)) o_wrong_mark (cls_ok (cf 62 (q := .cls "Board") rfl)) (noat_ok (cf 63 (q := .noat "Board" "marks") rfl)) (noat_ok (cf 64 (q := .noat "Board" "sizes") rfl)) (noat_ok (cf 65 (q := .noat "Board" "many") rfl)) (noat_ok (cf 66 (q := .noat "Board" "steps") rfl)) o_steps_of D_Board___init__
    have o_Board := mkD_of D_Board___init__ (glo_ok X G (cf 61 (q := .glo "Board") rfl)) (mkr_ok (cf 67 (q := .mkr "Board") rfl)) (fun _ _ _ _ _ _ us hl => match us, hl with | [_, _, _, _], _ => rfl) k_Board___init__
    have k_Board___len__ := ok_Board___len__ (P := RL.prog) (w := w) (K := K) (mg := mg) (base := base) bf (cls_ok (cf 62 (q := .cls "Board") rfl)) (noat_ok (cf 64 (q := .noat "Board" "sizes") rfl)) D_Board___len__
    have o_Board___len__ := spD_of D_Board___len__ (meth_ok (cf 68 (q := .meth "Board" "__len__") rfl)) (fun _ _ _ _ _ _ us hl => match us, hl with | [_], _ => rfl) k_Board___len__
    have k_wrong_content := ok_wrong_content (P := RL.prog) (w := w) (K := K) (mg := mg) (base := base) bf o_is_sequence o_is_number D_wrong_content
    have o_wrong_content := FnD.of D_wrong_content (y := "wrong_content") (glo_ok X G (cf 25 (q := .glo "wrong_content") rfl)) (fun _ _ _ _ _ _ us hl => match us, hl with | [_, _], _ => rfl) k_wrong_content
    have k_setting_number := ok_setting_number (P := RL.prog) (w := w) (K := K) (mg := mg) (base := base) bf D_setting_number
    have o_setting_number := FnD.of D_setting_number (y := "setting_number") (glo_ok X G (cf 26 (q := .glo "setting_number") rfl)) (fun _ _ _ _ _ _ us hl => match us, hl with | [_, _], _ => rfl) k_setting_number
    have k_Board___call__ := ok_Board___call__ (P := RL.prog) (w := w) (K := K) (mg := mg) (base := base) bf o_wrong_content (cls_ok (cf 62 (q := .cls "Board") rfl)) (noat_ok (cf 64 (q := .noat "Board" "sizes") rfl)) (noat_ok (cf 63 (q := .noat "Board" "marks") rfl)) o_setting_number D_Board___call__
    have o_Board___call__ := spD_of D_Board___call__ (meth_ok (cf 71 (q := .meth "Board" "__call__") rfl)) (fun _ _ _ _ _ _ us hl => match us, hl with | [_, _], _ => rfl) k_Board___call__
    have k__law_deal := ok__law_deal (P := RL.prog) (w := w) (K := K) (mg := mg) (base := base) bf D__law_deal
    have o__law_deal := FnD.of D__law_deal (y := "_law_deal") (glo_ok X G (cf 27 (q := .glo "_law_deal") rfl)) (fun _ _ _ _ _ _ us hl => match us, hl with | [_, _], _ => rfl) k__law_deal
    have k__law_draw := ok__law_draw (P := RL.prog) (w := w) (K := K) (mg := mg) (base := base) bf D__law_draw
    have o__law_draw := FnD.of D__law_draw (y := "_law_draw") (glo_ok X G (cf 28 (q := .glo "_law_draw") rfl)) (fun _ _ _ _ _ _ us hl => match us, hl with | [_, _], _ => rfl) k__law_draw
    have k__law_pick := ok__law_pick (P := RL.prog) (w := w) (K := K) (mg := mg) (base := base) bf o__law_draw D__law_pick
    have o__law_pick := FnD.of D__law_pick (y := "_law_pick") (glo_ok X G (cf 29 (q := .glo "_law_pick") rfl)) (fun _ _ _ _ _ _ us hl => match us, hl with | [_, _], _ => rfl) k__law_pick
    have k__law_mixed := ok__law_mixed (P := RL.prog) (w := w) (K := K) (mg := mg) (base := base) bf o__law_draw D__law_mixed
    have o__law_mixed := FnD.of D__law_mixed (y := "_law_mixed") (glo_ok X G (cf 30 (q := .glo "_law_mixed") rfl)) (fun _ _ _ _ _ _ us hl => match us, hl with | [_, _], _ => rfl) k__law_mixed
    have k__law_settings := ok__law_settings (P := RL.prog) (w := w) (K := K) (mg := mg) (base := base) bf D__law_settings
    have o__law_settings := FnD.of D__law_settings (y := "_law_settings") (glo_ok X G (cf 31 (q := .glo "_law_settings") rfl)) (fun _ _ _ _ _ _ us hl => match us, hl with | [_, _], _ => rfl) k__law_settings
    have k__law_bends := ok__law_bends (P := RL.prog) (w := w) (K := K) (mg := mg) (base := base) bf o__law_pick o__law_draw o__law_mixed o__law_settings D__law_bends
    have o__law_bends := FnD.of D__law_bends (y := "_law_bends") (glo_ok X G (cf 32 (q := .glo "_law_bends") rfl)) (fun _ _ _ _ _ _ us hl => match us, hl with | [_, _], _ => rfl) k__law_bends
    have k__law_two_bits := ok__law_two_bits (P := RL.prog) (w := w) (K := K) (mg := mg) (base := base) bf o__law_mixed o__law_bends o__law_settings D__law_two_bits
    have o__law_two_bits := FnD.of D__law_two_bits (y := "_law_two_bits") (glo_ok X G (cf 33 (q := .glo "_law_two_bits") rfl)) (fun _ _ _ _ _ _ us hl => match us, hl with | [_, _], _ => rfl) k__law_two_bits
    have k__law_times := ok__law_times (P := RL.prog) (w := w) (K := K) (mg := mg) (base := base) bf D__law_times
    have o__law_times := FnD.of D__law_times (y := "_law_times") (glo_ok X G (cf 34 (q := .glo "_law_times") rfl)) (fun _ _ _ _ _ _ us hl => match us, hl with | [_, _, _], _ => rfl) k__law_times
    have k__law_products := ok__law_products (P := RL.prog) (w := w) (K := K) (mg := mg) (base := base) bf o__law_mixed o__law_draw o__law_settings o__law_times D__law_products
    have o__law_products := FnD.of D__law_products (y := "_law_products") (glo_ok X G (cf 35 (q := .glo "_law_products") rfl)) (fun _ _ _ _ _ _ us hl => match us, hl with | [_, _], _ => rfl) k__law_products
    have k__law_board := ok__law_board (P := RL.prog) (w := w) (K := K) (mg := mg) (base := base) bf o__law_draw o__law_two_bits o__law_pick o__law_products o__law_mixed o__law_settings D__law_board
    have o__law_board := FnD.of D__law_board (y := "_law_board") (glo_ok X G (cf 36 (q := .glo "_law_board") rfl)) (fun _ _ _ _ _ _ us hl => match us, hl with | [_], _ => rfl) k__law_board
    have k__law_number := ok__law_number (P := RL.prog) (w := w) (K := K) (mg := mg) (base := base) bf D__law_number
    have o__law_number := FnD.of D__law_number (y := "_law_number") (glo_ok X G (cf 37 (q := .glo "_law_number") rfl)) (fun _ _ _ _ _ _ us hl => match us, hl with | [_, _], _ => rfl) k__law_number
    have k__law_unnoticed := ok__law_unnoticed (P := RL.prog) (w := w) (K := K) (mg := mg) (base := base) bf o__law_number D__law_unnoticed
    have o__law_unnoticed := FnD.of D__law_unnoticed (y := "_law_unnoticed") (glo_ok X G (cf 38 (q := .glo "_law_unnoticed") rfl)) (fun _ _ _ _ _ _ us hl => match us, hl with | [_, _, _, _, _], _ => rfl) k__law_unnoticed
    have k__law_spoilt := ok__law_spoilt (P := RL.prog) (w := w) (K := K) (mg := mg) (base := base) bf o__law_draw o_Board D__law_spoilt
    have o__law_spoilt := FnD.of D__law_spoilt (y := "_law_spoilt") (glo_ok X G (cf 39 (q := .glo "_law_spoilt") rfl)) (fun _ _ _ _ _ _ us hl => match us, hl with | [_, _, _, _], _ => rfl) k__law_spoilt
    have k_lot_places := ok_lot_places (P := RL.prog) (w := w) (K := K) (mg := mg) (base := base) bf (cls_ok (cf 62 (q := .cls "Board") rfl)) (noat_ok (cf 66 (q := .noat "Board" "steps") rfl)) (noat_ok (cf 64 (q := .noat "Board" "sizes") rfl)) D_lot_places
    have o_lot_places := FnD.of D_lot_places (y := "lot_places") (glo_ok X G (cf 40 (q := .glo "lot_places") rfl)) (fun _ _ _ _ _ _ us hl => match us, hl with | [_, _], _ => rfl) k_lot_places
    have k_rest_of := ok_rest_of (P := RL.prog) (w := w) (K := K) (mg := mg) (base := base) bf o_Board___len__ D_rest_of
    have o_rest_of := FnD.of D_rest_of (y := "rest_of") (glo_ok X G (cf 41 (q := .glo "rest_of") rfl)) (fun _ _ _ _ _ _ us hl => match us, hl with | [_, _], _ => rfl) k_rest_of
    have k_lot_marks := ok_lot_marks (P := RL.prog) (w := w) (K := K) (mg := mg) (base := base) bf o_lot_places o_rest_of (cls_ok (cf 62 (q := .cls "Board") rfl)) (noat_ok (cf 63 (q := .noat "Board" "marks") rfl)) D_lot_marks
    have o_lot_marks := FnD.of D_lot_marks (y := "lot_marks") (glo_ok X G (cf 42 (q := .glo "lot_marks") rfl)) (fun _ _ _ _ _ _ us hl => match us, hl with | [_, _], _ => rfl) k_lot_marks
    have k_part_lines := ok_part_lines (P := RL.prog) (w := w) (K := K) (mg := mg) (base := base) bf o_lot_marks o_rest_of D_part_lines
    have o_part_lines := FnD.of D_part_lines (y := "part_lines") (glo_ok X G (cf 43 (q := .glo "part_lines") rfl)) (fun _ _ _ _ _ _ us hl => match us, hl with | [_, _], _ => rfl) k_part_lines
    have k_twice_fault := ok_twice_fault (P := RL.prog) (w := w) (K := K) (mg := mg) (base := base) bf o_lot_places o_rest_of o_part_lines (cls_ok (cf 62 (q := .cls "Board") rfl)) (noat_ok (cf 66 (q := .noat "Board" "steps") rfl)) D_twice_fault
    have o_twice_fault := FnD.of D_twice_fault (y := "twice_fault") (glo_ok X G (cf 44 (q := .glo "twice_fault") rfl)) (fun _ _ _ _ _ _ us hl => match us, hl with | [_, _], _ => rfl) k_twice_fault
    have k_nth_setting := ok_nth_setting (P := RL.prog) (w := w) (K := K) (mg := mg) (base := base) bf D_nth_setting
    have o_nth_setting := FnD.of D_nth_setting (y := "nth_setting") (glo_ok X G (cf 45 (q := .glo "nth_setting") rfl)) (fun _ _ _ _ _ _ us hl => match us, hl with | [_, _], _ => rfl) k_nth_setting
    have k_fair_fault := ok_fair_fault (P := RL.prog) (w := w) (K := K) (mg := mg) (base := base) bf (cls_ok (cf 62 (q := .cls "Board") rfl)) (noat_ok (cf 64 (q := .noat "Board" "sizes") rfl)) (noat_ok (cf 65 (q := .noat "Board" "many") rfl)) o_Board___len__ o_twice_fault o_nth_setting D_fair_fault
    have o_fair_fault := FnD.of D_fair_fault (y := "fair_fault") (glo_ok X G (cf 46 (q := .glo "fair_fault") rfl)) (fun _ _ _ _ _ _ us hl => match us, hl with | [_], _ => rfl) k_fair_fault
    have k_need_fair := ok_need_fair (P := RL.prog) (w := w) (K := K) (mg := mg) (base := base) bf o_fair_fault x_Refused exs_Refused D_need_fair
    have o_need_fair := FnD.of D_need_fair (y := "need_fair") (glo_ok X G (cf 47 (q := .glo "need_fair") rfl)) (fun _ _ _ _ _ _ us hl => match us, hl with | [_], _ => rfl) k_need_fair
    have k_with_content := ok_with_content (P := RL.prog) (w := w) (K := K) (mg := mg) (base := base) bf D_with_content
    have o_with_content := FnD.of D_with_content (y := "with_content") (glo_ok X G (cf 48 (q := .glo "with_content") rfl)) (fun _ _ _ _ _ _ us hl => match us, hl with | [_, _, _], _ => rfl) k_with_content
    have k_changed_many := ok_changed_many (P := RL.prog) (w := w) (K := K) (mg := mg) (base := base) bf D_changed_many
    have o_changed_many := FnD.of D_changed_many (y := "changed_many") (glo_ok X G (cf 49 (q := .glo "changed_many") rfl)) (fun _ _ _ _ _ _ us hl => match us, hl with | [_, _], _ => rfl) k_changed_many
    have k_changed_left := ok_changed_left (P := RL.prog) (w := w) (K := K) (mg := mg) (base := base) bf o_changed_many (cls_ok (cf 62 (q := .cls "Board") rfl)) (noat_ok (cf 65 (q := .noat "Board" "many") rfl)) o_Board___call__ D_changed_left
    have o_changed_left := FnD.of D_changed_left (y := "changed_left") (glo_ok X G (cf 50 (q := .glo "changed_left") rfl)) (fun _ _ _ _ _ _ us hl => match us, hl with | [_, _, _, _], _ => rfl) k_changed_left
    have k_unnoticed_number := ok_unnoticed_number (P := RL.prog) (w := w) (K := K) (mg := mg) (base := base) bf o_need_fair o_Board___len__ (cls_ok (cf 62 (q := .cls "Board") rfl)) o_Board___call__ o_changed_left o_with_content D_unnoticed_number
    have o_unnoticed_number := FnD.of D_unnoticed_number (y := "unnoticed_number") (glo_ok X G (cf 51 (q := .glo "unnoticed_number") rfl)) (fun _ _ _ _ _ _ us hl => match us, hl with | [_, _, _], _ => rfl) k_unnoticed_number
    have o_unnoticed_number_pk := FnPk.of D_unnoticed_number (y := "unnoticed_number") (np := 2) (ks := ["wrong"]) (is := [0, 1, 2]) (glo_ok X G (cf 51 (q := .glo "unnoticed_number") rfl)) (fun _ _ _ _ _ _ us ws h1 h2 => match us, h1, ws, h2 with | [_, _], _, [_], _ => rfl) k_unnoticed_number
    have o_unnoticed_number_kw := FnKw.of D_unnoticed_number (y := "unnoticed_number") (ks := ["board", "setting", "wrong"]) (is := [0, 1, 2]) (glo_ok X G (cf 51 (q := .glo "unnoticed_number") rfl)) (fun _ _ _ _ _ _ ws hl => match ws, hl with | [_, _, _], _ => rfl) k_unnoticed_number
    have k_need_lot := ok_need_lot (P := RL.prog) (w := w) (K := K) (mg := mg) (base := base) bf o_is_sequence x_InvalidLot exs_InvalidLot o_is_number o_Board___len__ D_need_lot
    have o_need_lot := FnD.of D_need_lot (y := "need_lot") (glo_ok X G (cf 52 (q := .glo "need_lot") rfl)) (fun _ _ _ _ _ _ us hl => match us, hl with | [_, _], _ => rfl) k_need_lot
    have k_unnoticed_many := ok_unnoticed_many (P := RL.prog) (w := w) (K := K) (mg := mg) (base := base) bf o_changed_many D_unnoticed_many
    have o_unnoticed_many := FnD.of D_unnoticed_many (y := "unnoticed_many") (glo_ok X G (cf 53 (q := .glo "unnoticed_many") rfl)) (fun _ _ _ _ _ _ us hl => match us, hl with | [_, _], _ => rfl) k_unnoticed_many
    have k_nth_unnoticed := ok_nth_unnoticed (P := RL.prog) (w := w) (K := K) (mg := mg) (base := base) bf o_need_fair o_need_lot o_is_number o_unnoticed_many (cls_ok (cf 62 (q := .cls "Board") rfl)) (noat_ok (cf 65 (q := .noat "Board" "many") rfl)) x_InvalidSize exs_InvalidSize o_with_content o_changed_left D_nth_unnoticed
    have o_nth_unnoticed := FnD.of D_nth_unnoticed (y := "nth_unnoticed") (glo_ok X G (cf 54 (q := .glo "nth_unnoticed") rfl)) (fun _ _ _ _ _ _ us hl => match us, hl with | [_, _, _, _], _ => rfl) k_nth_unnoticed
    have o_nth_unnoticed_kw := FnKw.of D_nth_unnoticed (y := "nth_unnoticed") (ks := ["board", "setting", "lot", "number"]) (is := [0, 1, 2, 3]) (glo_ok X G (cf 54 (q := .glo "nth_unnoticed") rfl)) (fun _ _ _ _ _ _ ws hl => match ws, hl with | [_, _, _, _], _ => rfl) k_nth_unnoticed
    exact ok_law (w := w) (K := K) (mg := mg) (base := base) bf o__law_deal o__law_board o_Board o__law_draw (free_ok X G (cf 76 (q := .free "sorted") rfl)) o__law_mixed o__law_unnoticed o_nth_unnoticed o_unnoticed_number_pk o_nth_unnoticed_kw o__law_pick (free_ok X G (cf 80 (q := .free "repr") rfl)) o_unnoticed_number_kw o_unnoticed_number o__law_spoilt D_law D__law_wrong (glo_ok X G (cf 55 (q := .glo "_law_wrong") rfl)) D__law_is_refused (glo_ok X G (cf 56 (q := .glo "_law_is_refused") rfl)) (glo_ok X G (cf 72 (q := .glo "InvalidLot") rfl)) xf_InvalidLot (exm_ok (cf 77 (q := .exm "InvalidLot" "InvalidLot" true) rfl)) (noat_ok (cf 73 (q := .noat "InvalidLot" "at") rfl)) (glo_ok X G (cf 74 (q := .glo "InvalidSize") rfl)) xf_InvalidSize (exm_ok (cf 78 (q := .exm "InvalidSize" "InvalidSize" true) rfl)) (noat_ok (cf 75 (q := .noat "InvalidSize" "word") rfl)) (exm_ok (cf 79 (q := .exm "InvalidSize" "InvalidLot" false) rfl)) (glo_ok X G (cf 69 (q := .glo "Refused") rfl)) xf_Refused (exm_ok (cf 81 (q := .exm "Refused" "Refused" true) rfl)) (noat_ok (cf 70 (q := .noat "Refused" "at") rfl)) cc (cT K ("law", none)).2 hcode TB1 63 (fun ns hns => ev_law _ _ _ _ ns hns)
end K82
open PySem PySem.W PySem.Calls PyProof.Rows
theorem PySem.Challenge.cw_oncetested_k82_unnoticed_settings_number_holds : PySem.Challenge.rw_oncetested_k82_unnoticed_settings_number.Holds := by
  w_on; o_law
  refine HandSHeadRun.head_any (r := OpenLaw.row PySem.Challenge.rw_oncetested_k82_unnoticed_settings_number) (q := view (OpenLaw.row PySem.Challenge.rw_oncetested_k82_unnoticed_settings_number).prog [61]) (H := K82.hk) (ob := K82.ob) (M := 8000) (loose := K82.loL) (d := HandSHeadRun.topDef (OpenLaw.row PySem.Challenge.rw_oncetested_k82_unnoticed_settings_number).prog 61) (kwd := []) K82.ob_eq
    (by kernel_rfl) (fun s => by kernel_rfl) K82.run (by kernel_rfl) (by kernel_rfl) (by kernel_rfl) (by rfl) (by first | assumption | decide +kernel) (by decide +kernel) ⟨rfl, rfl, rfl, rfl, rfl, by decide +kernel⟩ ?hw ?hc
  case hw => w_witness2
  case hc =>
    refine LamX.walk_ofTsE (l := PySem.Challenge.rw_oncetested_k82_unnoticed_settings_number) (n := 63) (k := 12) (x := "script") (CX := fun w => L2.CX (PySem.Challenge.rw_oncetested_k82_unnoticed_settings_number).prog w) rfl (by decide) (by kernel_rfl) ⟨rfl, by decide, by decide⟩ ?F ?C
    · intro w mg fa h Y G hmg0
      obtain ⟨K, KX, c⟩ := Y
      have hmg : mg ("law" : PySem.Str) = some (.ref fa) := by
        have e : (HandSHeadRun.topDef (OpenLaw.row PySem.Challenge.rw_oncetested_k82_unnoticed_settings_number).prog 61).name = ("law" : PySem.Str) := by kernel_rfl
        rw [← e]
        exact hmg0
      exact ⟨K, KX, K82.facts KX G hmg c⟩
    · rintro w H s e s' ⟨a, B, H', cls, d, _, _, _, _, _, _, _, z⟩
      exact z
