import PyProof.Rows.All
import HandS.ForMost
import HandS.ForExc
import HandS.Evl
import HandS.Walk
import HandS.IsInst
import HandS.Style
import HandS.TupAny
import HandS.Wide
import HandS.Deep
import HandS.Zip
import KE.GoesNew
import KE.GoesEnum
import HandS.ExcIs
import HandS.Replace
import HandS.Strs
import HandS.Set
import HandS.TupSets
import HandS.CallLocal
import HandS.Conv
import PySem.Challenge.RW_keypadwords_k01_keypads
set_option Elab.async false
set_option linter.all false
set_option maxRecDepth 100000
namespace Kp
open PySem PySem.Spec PyProof.Rows L2
open Evl (Ex ex_l ex_t ex_rd)

/-- the error classes of the package -/
inductive Cl where
  | keypadError | invalidKeypad | invalidLetter | invalidWord | invalidWords | notThere | invalidCode | invalidNumber | tooLarge
  | invalidLetters | invalidWeights | alreadyThere | invalidWay | noWord | nothingTyped | nothingToUndo | parseError
  deriving DecidableEq

/-- plain data -/
inductive D where
  | non | bl (b : Bool) | int (i : Int) | str (l : List Nat)
  | tup (l : List D) | lst (l : List D) | dct (l : List (D × D)) | fn (x : Str) | scr (ns : List Int) | ty (n : String) | exn (c : Cl) | cls (c : Cl)

/-- a text of code points -/
def S (l : List Nat) : Str := ⟨l.toArray⟩
def okS (l : List Nat) : Prop := ∀ c ∈ l, c < 1114112

/-- what the text's top gives: the written part, where the defs and classes stand -/
structure Gv where
  fa : Str → Option Addr
  cl : Cl → Addr
  ex : Option (Addr × Cl) := none

/-- a key -/
inductive RpKey : Key → D → Prop
  | int (i : Int) : RpKey (.inl i) (.int i)
  | str {l : List Nat} : okS l → RpKey (.inr (S l)) (.str l)
inductive RpKeys : List Key → List D → Prop
  | nil : RpKeys [] []
  | cons {k : Key} {ks : List Key} {d : D} {ds : List D} : RpKey k d → RpKeys ks ds → RpKeys (k :: ks) (d :: ds)
mutual
/-- v in the abstract heap H bears d -/
inductive Rp (K : PySem.W.Frag) (G : Gv) (H : Hp) : V → D → Prop
  | non : Rp K G H .non .non
  | bl (b : Bool) : Rp K G H (.bl b) (.bl b)
  | int (i : Int) : Rp K G H (.int i) (.int i)
  | str {l : List Nat} : okS l → Rp K G H (.str (S l)) (.str l)
  | tup {a : Addr} {xs : List V} {ds : List D} : SqT K H a xs → RpAll K G H xs ds → Rp K G H (.ref a) (.tup ds)
  | lst {a : Addr} {xs : List V} {ds : List D} : H a = some (.lst xs) → RpAll K G H xs ds → Rp K G H (.ref a) (.lst ds)
  | scr {a : Addr} {ns : List Int} : SqL K H a (ns.map V.int) → Rp K G H (.ref a) (.scr ns)
  | dK {a : Addr} {kvs : List (Key × V)} {es : List (D × D)} : H a = some (.dK kvs) → RpKv K G H kvs es → Rp K G H (.ref a) (.dct es)
  | dT {a : Addr} {kvs : List (List Key × V)} {es : List (D × D)} : H a = some (.dT kvs) → RpTv K G H kvs es → Rp K G H (.ref a) (.dct es)
  | fn {f : Addr} {x : Str} : G.fa x = some f → Rp K G H (.ref f) (.fn x)
  | ty (n : String) : Rp K G H (.ty n) (.ty n)
  | exn {a : Addr} {c : Cl} : G.ex = some (a, c) → Rp K G H (.ref a) (.exn c)
  | cls (c : Cl) : Rp K G H (.ref (G.cl c)) (.cls c)
inductive RpAll (K : PySem.W.Frag) (G : Gv) (H : Hp) : List V → List D → Prop
  | nil : RpAll K G H [] []
  | cons {v : V} {vs : List V} {d : D} {ds : List D} : Rp K G H v d → RpAll K G H vs ds → RpAll K G H (v :: vs) (d :: ds)
inductive RpKv (K : PySem.W.Frag) (G : Gv) (H : Hp) : List (Key × V) → List (D × D) → Prop
  | nil : RpKv K G H [] []
  | cons {k : Key} {v : V} {kvs : List (Key × V)} {dk dv : D} {es : List (D × D)} : RpKey k dk → Rp K G H v dv → RpKv K G H kvs es → RpKv K G H ((k, v) :: kvs) ((dk, dv) :: es)
inductive RpTv (K : PySem.W.Frag) (G : Gv) (H : Hp) : List (List Key × V) → List (D × D) → Prop
  | nil : RpTv K G H [] []
  | cons {k : List Key} {v : V} {kvs : List (List Key × V)} {dk : List D} {dv : D} {es : List (D × D)} : RpKeys k dk → Rp K G H v dv → RpTv K G H kvs es → RpTv K G H ((k, v) :: kvs) ((.tup dk, dv) :: es)
end

section
variable {K : PySem.W.Frag} {G : Gv} {H H' : Hp}
mutual
theorem Rp.mono (e : Ex H H') : ∀ {v : V} {d : D}, Rp K G H v d → Rp K G H' v d
  | _, _, .non => .non
  | _, _, .bl b => .bl b
  | _, _, .int i => .int i
  | _, _, .str h => .str h
  | _, _, .tup h r => .tup (ex_t e h) (RpAll.mono e r)
  | _, _, .lst h r => .lst (e _ _ h) (RpAll.mono e r)
  | _, _, .scr h => .scr (ex_l e h)
  | _, _, .dK h r => .dK (e _ _ h) (RpKv.mono e r)
  | _, _, .dT h r => .dT (e _ _ h) (RpTv.mono e r)
  | _, _, .fn h => .fn h
  | _, _, .ty n => .ty n
  | _, _, .exn h => .exn h
  | _, _, .cls c => .cls c
theorem RpAll.mono (e : Ex H H') : ∀ {vs : List V} {ds : List D}, RpAll K G H vs ds → RpAll K G H' vs ds
  | _, _, .nil => .nil
  | _, _, .cons h r => .cons (Rp.mono e h) (RpAll.mono e r)
theorem RpKv.mono (e : Ex H H') : ∀ {vs : List (Key × V)} {ds : List (D × D)}, RpKv K G H vs ds → RpKv K G H' vs ds
  | _, _, .nil => .nil
  | _, _, .cons k h r => .cons k (Rp.mono e h) (RpKv.mono e r)
theorem RpTv.mono (e : Ex H H') : ∀ {vs : List (List Key × V)} {ds : List (D × D)}, RpTv K G H vs ds → RpTv K G H' vs ds
  | _, _, .nil => .nil
  | _, _, .cons k h r => .cons k (Rp.mono e h) (RpTv.mono e r)
end
theorem RpAll.length : ∀ {vs : List V} {ds : List D}, RpAll K G H vs ds → vs.length = ds.length
  | _, _, .nil => rfl
  | _, _, .cons _ r => congrArg (· + 1) r.length
theorem RpAll.get : ∀ {vs : List V} {ds : List D} {i : Nat} {d : D}, RpAll K G H vs ds → ds[i]? = some d → ∃ v, vs[i]? = some v ∧ Rp K G H v d
  | _, _, _, _, .nil, e => by simp at e
  | _, _, 0, _, .cons h _, e => by simp at e; subst e; exact ⟨_, rfl, h⟩
  | _, _, i + 1, d, .cons _ r, e => by
    obtain ⟨v, h1, h2⟩ := r.get (i := i) (d := d) (by simpa using e)
    exact ⟨v, by simpa using h1, h2⟩
theorem RpAll.append : ∀ {vs us : List V} {ds es : List D}, RpAll K G H vs ds → RpAll K G H us es → RpAll K G H (vs ++ us) (ds ++ es)
  | _, _, _, _, .nil, h => h
  | _, _, _, _, .cons h r, q => .cons h (r.append q)
theorem RpAll.take : ∀ {vs : List V} {ds : List D} (n : Nat), RpAll K G H vs ds → RpAll K G H (vs.take n) (ds.take n)
  | _, _, 0, _ => .nil
  | _, _, _ + 1, .nil => .nil
  | _, _, n + 1, .cons h r => .cons h (r.take n)
theorem RpAll.drop : ∀ {vs : List V} {ds : List D} (n : Nat), RpAll K G H vs ds → RpAll K G H (vs.drop n) (ds.drop n)
  | _, _, 0, r => r
  | _, _, _ + 1, .nil => .nil
  | _, _, n + 1, .cons _ r => r.drop n
theorem RpAll.set {v : V} {d : D} (h : Rp K G H v d) : ∀ {vs : List V} {ds : List D} (i : Nat), RpAll K G H vs ds → RpAll K G H (vs.set i v) (ds.set i d)
  | _, _, _, .nil => .nil
  | _, _, 0, .cons _ r => .cons h r
  | _, _, i + 1, .cons q r => .cons q (r.set h i)
theorem RpAll.rev : ∀ {vs : List V} {ds : List D}, RpAll K G H vs ds → RpAll K G H vs.reverse ds.reverse
  | _, _, .nil => .nil
  | _, _, .cons h r => by
    rw [List.reverse_cons, List.reverse_cons]
    exact r.rev.append (.cons h .nil)
theorem RpAll.eraseIdx : ∀ {vs : List V} {ds : List D} (n : Nat), RpAll K G H vs ds → RpAll K G H (vs.eraseIdx n) (ds.eraseIdx n)
  | _, _, _, .nil => .nil
  | _, _, 0, .cons _ r => r
  | _, _, n + 1, .cons h r => .cons h (r.eraseIdx n)
end
end Kp

namespace Kp
open PySem PySem.Spec PyProof.Rows L2
open Evl (Ex ex_l ex_t ex_rd)

/-! ### hiding what a body owns -/
def hid (H : Hp) (O : List Addr) : Hp := fun a => if a ∈ O then none else H a
def mrg (H1 H : Hp) (O : List Addr) : Hp := fun a => if a ∈ O then H a else H1 a
theorem hid_in {H : Hp} {O : List Addr} {a : Addr} (h : a ∈ O) : hid H O a = none := by unfold hid; rw [if_pos h]
theorem hid_out {H : Hp} {O : List Addr} {a : Addr} (h : a ∉ O) : hid H O a = H a := by unfold hid; rw [if_neg h]
theorem mrg_in {H1 H : Hp} {O : List Addr} {a : Addr} (h : a ∈ O) : mrg H1 H O a = H a := by unfold mrg; rw [if_pos h]
theorem mrg_out {H1 H : Hp} {O : List Addr} {a : Addr} (h : a ∉ O) : mrg H1 H O a = H1 a := by unfold mrg; rw [if_neg h]
theorem hid_some {H : Hp} {O : List Addr} {a : Addr} {o : HO} (h : hid H O a = some o) : a ∉ O ∧ H a = some o := by
  by_cases e : a ∈ O
  · rw [hid_in e] at h; cases h
  · rw [hid_out e] at h; exact ⟨e, h⟩
theorem hid_nil {H : Hp} : hid H [] = H := by funext a; exact hid_out (List.not_mem_nil)
theorem ex_hid {H : Hp} {O : List Addr} : Ex (hid H O) H := fun a o h => (hid_some h).2
/-- a list or a dict -/
def MutO : HO → Bool
  | .lst _ => true
  | .dK _ => true
  | .dT _ => true
  | _ => false
def OwnsM (H : Hp) (O : List Addr) : Prop := ∀ p ∈ O, ∃ o, H p = some o ∧ MutO o = true
theorem OwnsM.nil {H : Hp} : OwnsM H [] := fun _ h => nomatch h
theorem OwnsM.no {H : Hp} {O : List Addr} (m : OwnsM H O) {a : Addr} {o : HO} (h : H a = some o) (n : MutO o = false) : a ∉ O := fun q => by
  obtain ⟨u, e, mu⟩ := m a q
  rw [h] at e
  cases e
  rw [n] at mu
  cases mu
section
variable {X : Cx} {pins : List (Addr × Obj)} {σ : L2.St} {H : Hp} {s : Shared}
def pinsOf (h : Heap) (O : List Addr) : List (Addr × Obj) := O.filterMap fun p => (h.get? p).map fun o => (p, o)
theorem pinsOf_mem {h : Heap} {O : List Addr} {q : Addr × Obj} (hq : q ∈ pinsOf h O) : q.1 ∈ O ∧ h.get? q.1 = some q.2 := by
  unfold pinsOf at hq
  obtain ⟨p, hp, e⟩ := List.mem_filterMap.mp hq
  cases eg : h.get? p with
  | none => rw [eg] at e; cases e
  | some o =>
    rw [eg] at e
    cases e
    exact ⟨hp, eg⟩
theorem mem_pinsOf {h : Heap} {O : List Addr} {p : Addr} {o : Obj} (hp : p ∈ O) (e : h.get? p = some o) : (p, o) ∈ pinsOf h O :=
  List.mem_filterMap.mpr ⟨p, hp, by rw [e]; rfl⟩
theorem mut_get {P : Program} {w : World} {H : Hp} {h : Heap} {a : Addr} {o : HO} (x : ObjOk P w H h a o) (m : MutO o = true) : ∃ ob, h.get? a = some ob ∧ ∀ v, ob.data ≠ .cell v := by
  cases o with
  | lst xs => obtain ⟨_, _, _, _, e⟩ := x; exact ⟨_, e, fun v q => nomatch q⟩
  | dK kvs => obtain ⟨_, _, vs, _, ob, es, ep, e, _, d, _⟩ := x; exact ⟨_, e, fun v q => by rw [d] at q; exact nomatch q⟩
  | dT kvs => obtain ⟨_, _, xs, _, ob, es, ep, e, _, d, _⟩ := x; exact ⟨_, e, fun v q => by rw [d] at q; exact nomatch q⟩
  | _ => cases m
theorem inv_hide {O : List Addr} (I : Inv X pins σ H s) (m : OwnsM H O) : Inv X (pins ++ pinsOf s.heap O) σ (hid H O) s := by
  have nfs : ∀ p ∈ O, p ∉ X.fs := fun p hp hb => by
    obtain ⟨o, e, _⟩ := m p hp
    obtain ⟨_, ob, ho, _⟩ := I.ok.funs.mem hb
    have hx : p ∉ X.ex := fun z => I.ok.exfs p z hb
    rw [I.base.free p ob ho (I.ok.frf p hb) hx] at e
    cases e
  refine ⟨I.ok, I.os, I.bare, ⟨I.base.keep, I.base.slot, fun b o h1 h2 h3 => ?_, I.base.there, fun b xs h => ?_, fun b o u h => ?_, fun b ps h => ?_⟩, I.loc, I.cell, ?_, fun x c e => ?_, fun p hp => ?_, fun a o e => ?_, I.len⟩
  · by_cases hb : b ∈ O
    · exact hid_in hb
    · rw [hid_out hb]; exact I.base.free b o h1 h2 h3
  · have q := I.base.tups b xs h
    rw [hid_out (m.no q rfl)]; exact q
  · have q := I.base.frzs b o u h
    rw [hid_out (m.no q rfl)]; exact q
  · obtain ⟨more, q⟩ := I.base.tbls b ps h
    exact ⟨more, by rw [hid_out (m.no q rfl)]; exact q⟩
  · by_cases hb : X.env.locals ∈ O
    · exact hid_in hb
    · rw [hid_out hb]; exact I.free
  · by_cases hb : c ∈ O
    · exact hid_in hb
    · rw [hid_out hb]; exact I.freeC x c e
  · have hp' : p ∈ X.pn ++ pins ∨ p ∈ pinsOf s.heap O := by
      rw [← List.append_assoc] at hp
      exact List.mem_append.mp hp
    rcases hp' with hp' | hp'
    · obtain ⟨h1, h2, h3⟩ := I.pin p hp'
      refine ⟨h1, ?_, h3⟩
      by_cases hb : p.1 ∈ O
      · exact hid_in hb
      · rw [hid_out hb]; exact h2
    · obtain ⟨hO, e⟩ := pinsOf_mem hp'
      obtain ⟨o, eo, mo⟩ := m _ hO
      obtain ⟨ob, e1, nc⟩ := mut_get (I.hok _ _ eo) mo
      rw [e] at e1
      cases e1
      refine ⟨e, hid_in hO, fun z => ?_, nfs _ hO, nc⟩
      rw [z, I.free] at eo
      cases eo
  · obtain ⟨na, ea⟩ := hid_some e
    exact (I.hok a o ea).stay (fun b u _ q => q) (fun b q => by rw [hid_out (m.no q rfl)]; exact q) (fun b xs q => by rw [hid_out (m.no q rfl)]; exact q)
theorem inv_unhide {O : List Addr} {H1 : Hp} {s1 : Shared} {σ1 : L2.St} (I : Inv X pins σ H s) (m : OwnsM H O) (I1 : Inv X (pins ++ pinsOf s.heap O) σ1 H1 s1) (x : Ex (hid H O) H1) :
    (∀ p ∈ O, H1 p = none) ∧ Inv X pins σ1 (mrg H1 H O) s1 := by
  have pg : ∀ p ∈ O, ∀ o, s.heap.get? p = some o → s1.heap.get? p = some o ∧ H1 p = none := fun p hp o e => by
    obtain ⟨h1, h2, _⟩ := I1.pin (p, o) (by rw [← List.append_assoc]; exact List.mem_append.mpr (.inr (mem_pinsOf hp e)))
    exact ⟨h1, h2⟩
  have pn : ∀ p ∈ O, H1 p = none := fun p hp => by
    obtain ⟨o, e, mo⟩ := m p hp
    obtain ⟨ob, e1, _⟩ := mut_get (I.hok _ _ e) mo
    exact (pg p hp ob e1).2
  have tp : ∀ q xs, H q = some (.tup xs) → mrg H1 H O q = some (.tup xs) := fun q xs e => by
    have hq := m.no e rfl
    rw [mrg_out hq]
    exact x _ _ (by rw [hid_out hq]; exact e)
  refine ⟨pn, I1.ok, I1.os, I1.bare, ⟨I1.base.keep, I1.base.slot, fun b o h1 h2 h3 => ?_, I1.base.there, fun b xs h => ?_, fun b o u h => ?_, fun b ps h => ?_⟩, I1.loc, I1.cell, ?_, fun y c e => ?_, fun p hp => ?_, fun a o e => ?_, I1.len⟩
  · by_cases hb : b ∈ O
    · rw [mrg_in hb]; exact I.base.free b o h1 h2 h3
    · rw [mrg_out hb]; exact I1.base.free b o h1 h2 h3
  · by_cases hb : b ∈ O
    · rw [mrg_in hb]; exact I.base.tups b xs h
    · rw [mrg_out hb]; exact I1.base.tups b xs h
  · by_cases hb : b ∈ O
    · rw [mrg_in hb]; exact I.base.frzs b o u h
    · rw [mrg_out hb]; exact I1.base.frzs b o u h
  · by_cases hb : b ∈ O
    · obtain ⟨more, q⟩ := I.base.tbls b ps h
      exact ⟨more, by rw [mrg_in hb]; exact q⟩
    · obtain ⟨more, q⟩ := I1.base.tbls b ps h
      exact ⟨more, by rw [mrg_out hb]; exact q⟩
  · by_cases hb : X.env.locals ∈ O
    · rw [mrg_in hb]; exact I.free
    · rw [mrg_out hb]; exact I1.free
  · by_cases hb : c ∈ O
    · rw [mrg_in hb]; exact I.freeC y c e
    · rw [mrg_out hb]; exact I1.freeC y c e
  · obtain ⟨h1, h2, h3⟩ := I1.pin p (by rw [← List.append_assoc]; exact List.mem_append.mpr (.inl hp))
    refine ⟨h1, ?_, h3⟩
    by_cases hb : p.1 ∈ O
    · rw [mrg_in hb]; exact (I.pin p hp).2.1
    · rw [mrg_out hb]; exact h2
  · by_cases hb : a ∈ O
    · rw [mrg_in hb] at e
      obtain ⟨o', e', mo⟩ := m a hb
      rw [e] at e'
      cases e'
      have z := I.hok a o e
      cases o with
      | lst xs => obtain ⟨h1, its, n, r, eg⟩ := z; exact ⟨h1, its, n, r, (pg a hb _ eg).1⟩
      | dK kvs => obtain ⟨h1, h2, vs, r, ob, es, ep, eg, c⟩ := z; exact ⟨h1, h2, vs, r, ob, es, ep, (pg a hb _ eg).1, c⟩
      | dT kvs =>
        obtain ⟨h1, h2, xs, r, ob, es, ep, eg, c⟩ := z
        exact ⟨h1, h2, xs, Paired.mapP r fun p q z => ⟨z.1, tp _ _ z.2.1, z.2.2⟩, ob, es, ep, (pg a hb _ eg).1, c⟩
      | _ => cases mo
    · rw [mrg_out hb] at e
      have nb : ∀ b u, H1 b = some u → b ∉ O := fun b u q z => by rw [pn b z] at q; cases q
      exact (I1.hok a o e).stay (fun b u _ q => q) (fun b q => by rw [mrg_out (nb _ _ q)]; exact q) (fun b xs q => by rw [mrg_out (nb _ _ q)]; exact q)
/-- a reading with what is owned out of sight -/
def tHid (t : TE) : TE := fun σ H Q => ∃ O : List Addr, OwnsM H O ∧ t σ (hid H O) fun v H1 => Ex (hid H O) H1 ∧ ((∀ p ∈ O, H1 p = none) → Q v (mrg H1 H O))
theorem pe_hide {e : Expr} {t : TE} (h : PE X e t) : PE X e (tHid t) := by
  refine ⟨fun pins s σ H Q I hq => ?_⟩
  obtain ⟨O, m, ht⟩ := hq
  refine thn (h.run _ s σ _ _ (inv_hide I m) ht) fun u s1 ⟨v, H1, I1, r, x, q⟩ => ?_
  obtain ⟨pn, I2⟩ := inv_unhide I m I1 x
  exact ⟨v, _, I2, r, q pn⟩
def Ends.hid (Dn : Ends) (O : List Addr) (H : Hp) : Ends where
  nx := fun σ H1 => Ex (Kp.hid H O) H1 ∧ ((∀ p ∈ O, H1 p = none) → Dn.nx σ (mrg H1 H O))
  rt := fun v H1 => Ex (Kp.hid H O) H1 ∧ ((∀ p ∈ O, H1 p = none) → Dn.rt v (mrg H1 H O))
  bk := fun σ H1 => Ex (Kp.hid H O) H1 ∧ ((∀ p ∈ O, H1 p = none) → Dn.bk σ (mrg H1 H O))
  ct := fun σ H1 => Ex (Kp.hid H O) H1 ∧ ((∀ p ∈ O, H1 p = none) → Dn.ct σ (mrg H1 H O))
def tHidS (t : TS) : TS := fun Dn σ H => ∃ O : List Addr, OwnsM H O ∧ t (Ends.hid Dn O H) σ (hid H O)
theorem ps_hide {st : Stmt} {t : TS} (h : PS X st t) : PS X st (tHidS t) := by
  refine ⟨fun pins s σ H Dn I hq => ?_⟩
  obtain ⟨O, m, ht⟩ := hq
  refine thn (h.run _ s σ _ _ (inv_hide I m) ht) fun f s1 q => ?_
  cases f with
  | next =>
    obtain ⟨σ1, H1, I1, x, q⟩ := q
    obtain ⟨pn, I2⟩ := inv_unhide I m I1 x
    exact ⟨σ1, _, I2, q pn⟩
  | brk =>
    obtain ⟨σ1, H1, I1, x, q⟩ := q
    obtain ⟨pn, I2⟩ := inv_unhide I m I1 x
    exact ⟨σ1, _, I2, q pn⟩
  | cont =>
    obtain ⟨σ1, H1, I1, x, q⟩ := q
    obtain ⟨pn, I2⟩ := inv_unhide I m I1 x
    exact ⟨σ1, _, I2, q pn⟩
  | ret u =>
    obtain ⟨v, σ1, H1, I1, r, x, q⟩ := q
    obtain ⟨pn, I2⟩ := inv_unhide I m I1 x
    exact ⟨v, σ1, _, I2, r, q pn⟩
end
end Kp

namespace Kp
open PySem PySem.Spec PyProof.Rows L2
open Evl (Ex ex_l ex_t ex_rd)

/-! ### results, states, mirrors -/
abbrev Rs (α : Type) := Option (Except Cl α)
def Rs.bnd {α β : Type} (x : Rs α) (f : α → Rs β) : Rs β := match x with
  | some (.ok a) => f a
  | some (.error c) => some (.error c)
  | none => none
def ofO {α : Type} : Option α → Rs α
  | some a => some (.ok a)
  | none => none
def okR {α : Type} (a : α) : Rs α := some (.ok a)
@[simp] theorem bnd_ok {α β : Type} (a : α) (f : α → Rs β) : Rs.bnd (some (.ok a)) f = f a := rfl
@[simp] theorem bnd_okR {α β : Type} (a : α) (f : α → Rs β) : Rs.bnd (okR a) f = f a := rfl
@[simp] theorem bnd_error {α β : Type} (c : Cl) (f : α → Rs β) : Rs.bnd (some (.error c)) f = some (.error c) := rfl
@[simp] theorem bnd_none {α β : Type} (f : α → Rs β) : Rs.bnd none f = none := rfl
@[simp] theorem ofO_some {α : Type} (a : α) : ofO (some a) = some (.ok a) := rfl
@[simp] theorem ofO_none {α : Type} : ofO (none : Option α) = none := rfl

/-- a slot: nothing is said; data; data that the body owns and may change -/
inductive Sl where
  | un | sh (d : D) | ow (d : D)
def Sl.get : Sl → Option D
  | .un => none
  | .sh d => some d
  | .ow d => some d
abbrev PSt := List Sl
def lookS (st : PSt) (i : Nat) : Option D := match st[i]? with
  | some x => x.get
  | none => none
abbrev M := PSt → Rs D
abbrev MA := PSt → Rs (List D)

section
variable {K : PySem.W.Frag} {G : Gv} {W : WX} {σ : L2.St} {H H1 : Hp}
def RepE (K : PySem.W.Frag) (G : Gv) (H : Hp) (σ : L2.St) (st : PSt) : Prop := σ.length = st.length ∧ ∀ i d, lookS st i = some d → ∃ v, σ[i]? = some (some v) ∧ Rp K G H v d
theorem RepE.mono {st : PSt} (h : RepE K G H σ st) (e : Ex H H1) : RepE K G H1 σ st := ⟨h.1, fun i d q => by
  obtain ⟨v, h1, h2⟩ := h.2 i d q
  exact ⟨v, h1, h2.mono e⟩⟩
/-- what a result promises -/
def OkR (K : PySem.W.Frag) (G : Gv) (W : WX) (σ : L2.St) (H : Hp) (Q : VK) : Rs D → Prop
  | some (.ok d) => ∀ v H', Ex H H' → Rp K G H' v d → Q v H'
  | some (.error c) => ∀ H', Ex H H' → W (.ref (G.cl c)) none σ H'
  | none => False
def OkA (K : PySem.W.Frag) (G : Gv) (W : WX) (σ : L2.St) (H : Hp) (Q : List V → Hp → Prop) : Rs (List D) → Prop
  | some (.ok ds) => ∀ vs H', Ex H H' → RpAll K G H' vs ds → Q vs H'
  | some (.error c) => ∀ H', Ex H H' → W (.ref (G.cl c)) none σ H'
  | none => False
theorem OkR.mono {Q : VK} {r : Rs D} (h : OkR K G W σ H Q r) (e : Ex H H1) : OkR K G W σ H1 Q r := by
  cases r with
  | none => exact h
  | some r => cases r with
    | ok d => exact fun v H' e' => h v H' (e.trans e')
    | error c => exact fun H' e' => h H' (e.trans e')
theorem OkA.mono {Q : List V → Hp → Prop} {r : Rs (List D)} (h : OkA K G W σ H Q r) (e : Ex H H1) : OkA K G W σ H1 Q r := by
  cases r with
  | none => exact h
  | some r => cases r with
    | ok d => exact fun v H' e' => h v H' (e.trans e')
    | error c => exact fun H' e' => h H' (e.trans e')
/-- first x, then f of it -/
theorem OkR.bnd {Q Q' : VK} {x : Rs D} {f : D → Rs D} (h : OkR K G W σ H Q (x.bnd f)) (k : ∀ a v H1, Ex H H1 → Rp K G H1 v a → OkR K G W σ H1 Q (f a) → Q' v H1) : OkR K G W σ H Q' x := by
  cases x with
  | none => exact h
  | some r => cases r with
    | ok d => exact fun v H' e r => k d v H' e r (OkR.mono (r := f d) h e)
    | error c => exact h
theorem OkR.bndA {Q : VK} {Q' : List V → Hp → Prop} {x : Rs (List D)} {f : List D → Rs D} (h : OkR K G W σ H Q (x.bnd f)) (k : ∀ a v H1, Ex H H1 → RpAll K G H1 v a → OkR K G W σ H1 Q (f a) → Q' v H1) : OkA K G W σ H Q' x := by
  cases x with
  | none => exact h
  | some r => cases r with
    | ok d => exact fun v H' e r => k d v H' e r (OkR.mono (r := f d) h e)
    | error c => exact h
theorem OkA.bnd {Q : List V → Hp → Prop} {Q' : VK} {x : Rs D} {f : D → Rs (List D)} (h : OkA K G W σ H Q (x.bnd f)) (k : ∀ a v H1, Ex H H1 → Rp K G H1 v a → OkA K G W σ H1 Q (f a) → Q' v H1) : OkR K G W σ H Q' x := by
  cases x with
  | none => exact h
  | some r => cases r with
    | ok d => exact fun v H' e r => k d v H' e r (OkA.mono (r := f d) h e)
    | error c => exact h
theorem OkA.bndA {Q Q' : List V → Hp → Prop} {x : Rs (List D)} {f : List D → Rs (List D)} (h : OkA K G W σ H Q (x.bnd f)) (k : ∀ a v H1, Ex H H1 → RpAll K G H1 v a → OkA K G W σ H1 Q (f a) → Q' v H1) : OkA K G W σ H Q' x := by
  cases x with
  | none => exact h
  | some r => cases r with
    | ok d => exact fun v H' e r => k d v H' e r (OkA.mono (r := f d) h e)
    | error c => exact h
theorem OkR.ofO {Q : VK} {o : Option D} (h : OkR K G W σ H Q (Kp.ofO o)) : ∃ d, o = some d ∧ ∀ v H', Ex H H' → Rp K G H' v d → Q v H' := by
  cases o with
  | none => exact h.elim
  | some d => exact ⟨d, rfl, h⟩
end

/-- an expression's reading by its mirror -/
def tE (K : PySem.W.Frag) (G : Gv) (W : WX) (m : M) : TE := fun σ H Q => ∃ st, RepE K G H σ st ∧ OkR K G W σ H Q (m st)
def tAr (K : PySem.W.Frag) (G : Gv) (W : WX) (m : MA) : TA := fun σ H Q => ∃ st, RepE K G H σ st ∧ OkA K G W σ H Q (m st)
abbrev SE (X : Cx) (G : Gv) (W : WX) (e : Expr) (m : M) : Prop := PE X e (tE X.K G W m)
abbrev SA (X : Cx) (G : Gv) (W : WX) (es : List Expr) (m : MA) : Prop := PA X es (tAr X.K G W m)
/-- by values -/
def rD1 (K : PySem.W.Frag) (G : Gv) (g : D → Option D) : V → Hp → VK → Prop := fun x H Q => ∃ a d, Rp K G H x a ∧ g a = some d ∧ ∀ v H', Ex H H' → Rp K G H' v d → Q v H'
def rD2 (K : PySem.W.Frag) (G : Gv) (g : D → D → Option D) : R2 := fun x y H Q => ∃ a b d, Rp K G H x a ∧ Rp K G H y b ∧ g a b = some d ∧ ∀ v H', Ex H H' → Rp K G H' v d → Q v H'
def rDA (K : PySem.W.Frag) (G : Gv) (g : List D → Option D) : List V → Hp → VK → Prop := fun vs H Q => ∃ ds d, RpAll K G H vs ds ∧ g ds = some d ∧ ∀ v H', Ex H H' → Rp K G H' v d → Q v H'
def rDM (K : PySem.W.Frag) (G : Gv) (g : D → List D → Option D) : V → List V → Hp → VK → Prop := fun x vs H Q => ∃ a ds d, Rp K G H x a ∧ RpAll K G H vs ds ∧ g a ds = some d ∧ ∀ v H', Ex H H' → Rp K G H' v d → Q v H'

section
variable {X : Cx} {G : Gv} {W : WX} {a b c e : Expr} {es : List Expr} {pos : Pos} {ma mb mc : M} {mr : MA}
theorem pe_weak {t t' : TE} (h : PE X e t) (k : ∀ σ H Q, t' σ H Q → t σ H Q) : PE X e t' := ⟨fun pins s σ H Q I q => h.run pins s σ H Q I (k σ H Q q)⟩
theorem pa_weak {t t' : TA} (h : PA X es t) (k : ∀ σ H Q, t' σ H Q → t σ H Q) : PA X es t' := ⟨fun pos pins s σ H Q I q => h.run pos pins s σ H Q I (k σ H Q q)⟩

/-! ### names, constants -/
def mVar (i : Nat) : M := fun st => ofO (lookS st i)
def mC (d : D) : M := fun _ => okR d
theorem se_var (i : Nat) {x : Str} (hN : X.N[i]? = some x := by rfl) (hv : Vis X.env.scope x := by first | exact Or.inl rfl | exact Or.inr (Or.inl rfl) | exact Or.inr (Or.inr rfl)) (hd : (x == ("__debug__" : Str)) = false := by decide)
    (hcd : (x == ("__classdict__" : Str)) = false := by decide) : SE X G W (.Name x pos) (mVar i) :=
  pe_weak (pe_var hN hv hd hcd) fun σ H Q ⟨st, r, h⟩ => by
    obtain ⟨d, e, q⟩ := OkR.ofO h
    obtain ⟨v, h1, h2⟩ := r.2 i d e
    exact ⟨v, h1, q v H (Ex.refl H) h2⟩
theorem se_c {v : V} {d : D} (h : PE X e (tC v)) (r : ∀ H, Rp X.K G H v d) : SE X G W e (mC d) := pe_weak h fun σ H Q ⟨st, _, q⟩ => q v H (Ex.refl H) (r H)
theorem se_int {i : Int} {j} : SE X G W (.Constant (.int i) j pos) (mC (.int i)) := se_c pe_int fun _ => .int i
theorem se_bl {t : Bool} {j} : SE X G W (.Constant (.bool t) j pos) (mC (.bl t)) := se_c pe_bl fun _ => .bl t
theorem se_non {j} : SE X G W (.Constant .none j pos) (mC .non) := se_c pe_non fun _ => .non
theorem S_of (x : Str) : S x.cps.toList = x := by cases x; simp [S]
theorem okS_of {l : List Nat} (h : l.all (fun c => decide (c < 1114112)) = true) : okS l := fun c hc => of_decide_eq_true (List.all_eq_true.mp h c hc)
theorem se_str {x : Str} {j} {l : List Nat} (hl : x = S l := by rfl) (ok : l.all (fun c => decide (c < 1114112)) = true := by decide) : SE X G W (.Constant (.str x) j pos) (mC (.str l)) := by
  subst hl
  exact se_c pe_str fun _ => .str (okS_of ok)
/-- a constant of the module: a text, an int -/
theorem se_gstr {x : Str} {l : List Nat} {y : Str} (hg : Gl X x) (hm : ∃ t, X.mg x = some (.str y t)) (hl : y = S l := by rfl) (ok : l.all (fun c => decide (c < 1114112)) = true := by decide) (hd : (x == ("__debug__" : Str)) = false := by decide) : SE X G W (.Name x pos) (mC (.str l)) := by
  obtain ⟨t, hm⟩ := hm
  subst hl
  exact se_c (pe_glob (v := .str (S l)) hg hm ⟨t, rfl⟩ hd) fun _ => .str (okS_of ok)
theorem se_gint {x : Str} {i : Int} (hg : Gl X x) (hm : ∃ t, X.mg x = some (.int i t)) (hd : (x == ("__debug__" : Str)) = false := by decide) : SE X G W (.Name x pos) (mC (.int i)) := by
  obtain ⟨t, hm⟩ := hm
  exact se_c (pe_glob (v := .int i) hg hm ⟨t, rfl⟩ hd) fun _ => .int i
theorem se_gfn {x : Str} {f : Addr} (hg : Gl X x) (hm : X.mg x = some (.ref f)) (hf : G.fa x = some f) (hd : (x == ("__debug__" : Str)) = false := by decide) : SE X G W (.Name x pos) (mC (.fn x)) :=
  se_c (pe_glob (v := .ref f) hg hm rfl hd) fun _ => .fn hf

/-! ### operators -/
def mOp (g : D → D → Option D) (ma mb : M) : M := fun st => (ma st).bnd fun a => (mb st).bnd fun b => ofO (g a b)
def mUn (g : D → Option D) (ma : M) : M := fun st => (ma st).bnd fun a => ofO (g a)
theorem tE_op {K : PySem.W.Frag} {g : D → D → Option D} (σ : L2.St) (H : Hp) (Q : VK) (h : tE K G W (mOp g ma mb) σ H Q) : tOp (rD2 K G g) (tE K G W ma) (tE K G W mb) σ H Q := by
  obtain ⟨st, r, h⟩ := h
  refine ⟨st, r, h.bnd fun x v H1 e1 r1 h1 => ⟨st, r.mono e1, h1.bnd fun y u H2 e2 r2 h2 => ?_⟩⟩
  obtain ⟨d, ed, q⟩ := OkR.ofO h2
  exact ⟨x, y, d, r1.mono e2, r2, ed, q⟩
theorem se_op {op : Operator} {g : D → D → Option D} (ho : OpR X (binaryOp op) (rD2 X.K G g)) (ha : SE X G W a ma) (hb : SE X G W b mb) : SE X G W (.BinOp a op b pos) (mOp g ma mb) :=
  pe_weak (pe_op ho ha hb) fun σ H Q h => tE_op σ H Q h
theorem se_cmp {op : CmpOp} {g : D → D → Option D} (ho : OpR X (compareOp op) (rD2 X.K G g)) (ha : SE X G W a ma) (hb : SE X G W b mb) (hm : behindInMarks op b = false := by first | exact nomark _ | rfl) : SE X G W (.Compare a [op] [b] pos) (mOp g ma mb) :=
  pe_weak (pe_cmpR ho ha hb hm) fun σ H Q h => tE_op σ H Q h
theorem se_un {op : UnaryOp} {g : D → Option D} (ho : UnR X (unaryOp op) (rD1 X.K G g)) (ha : SE X G W a ma) : SE X G W (.UnaryOp op a pos) (mUn g ma) :=
  pe_weak (pe_un ho ha) fun σ H Q ⟨st, r, h⟩ => ⟨st, r, h.bnd fun x v H1 e1 r1 h1 => by
    obtain ⟨d, ed, q⟩ := OkR.ofO h1
    exact ⟨x, d, r1, ed, q⟩⟩
/-- a op b op' c -/
def mChain (g g' : D → D → Option D) (ma mb mc : M) : M := fun st => (ma st).bnd fun a => (mb st).bnd fun b => (ofO (g a b)).bnd fun z => match z with
  | .bl true => (mc st).bnd fun c => ofO (g' b c)
  | .bl false => okR (.bl false)
  | _ => none
theorem tE_chain {K : PySem.W.Frag} {g g' : D → D → Option D} (σ : L2.St) (H : Hp) (Q : VK) (h : tE K G W (mChain g g' ma mb mc) σ H Q) : tChain (rD2 K G g) (rD2 K G g') (tE K G W ma) (tE K G W mb) (tE K G W mc) σ H Q := by
  obtain ⟨st, r, h⟩ := h
  exact ⟨st, r, h.bnd fun x v H1 e1 r1 h1 => ⟨st, r.mono e1, h1.bnd fun y u H2 e2 r2 h2 => by
    cases eg : g x y with
    | none => rw [eg] at h2; exact h2.elim
    | some z =>
      rw [eg] at h2
      refine ⟨x, y, z, r1.mono e2, r2, eg, fun w H3 e3 r3 => ?_⟩
      cases r3 with
      | bl t =>
        refine ⟨t, rfl, ?_⟩
        cases t with
        | false => rw [if_neg Bool.false_ne_true]; exact h2 _ H3 e3 (.bl false)
        | true =>
          rw [if_pos rfl]
          have h3 : OkR K G W σ H3 Q ((mc st).bnd fun c => ofO (g' y c)) := OkR.mono h2 e3
          refine ⟨st, ((r.mono e1).mono e2).mono e3, h3.bnd fun cc w' H4 e4 r4 h4 => ?_⟩
          obtain ⟨d, ed, q⟩ := OkR.ofO h4
          exact ⟨y, cc, d, (r2.mono e3).mono e4, r4, ed, q⟩
      | _ => exact h2.elim⟩⟩
theorem se_chain {op op' : CmpOp} {g g' : D → D → Option D} (ho : OpR X (compareOp op) (rD2 X.K G g)) (ho' : OpR X (compareOp op') (rD2 X.K G g')) (ha : SE X G W a ma) (hb : SE X G W b mb) (hc : SE X G W c mc) (hm : lastMarks [op, op'] [b, c] = false := by rfl) :
    SE X G W (.Compare a [op, op'] [b, c] pos) (mChain g g' ma mb mc) :=
  pe_weak (pe_chain ho ho' ha hb hc hm) fun σ H Q h => tE_chain σ H Q h

/-! ### bools -/
abbrev MB := PSt → Rs Bool
def OkB (K : PySem.W.Frag) (G : Gv) (W : WX) (σ : L2.St) (H : Hp) (Q : Bool → Hp → Prop) : Rs Bool → Prop
  | some (.ok b) => ∀ H', Ex H H' → Q b H'
  | some (.error c) => ∀ H', Ex H H' → W (.ref (G.cl c)) none σ H'
  | none => False
def tTs (K : PySem.W.Frag) (G : Gv) (W : WX) (m : MB) : TT := fun σ H Q => ∃ st, RepE K G H σ st ∧ OkB K G W σ H Q (m st)
abbrev STt (X : Cx) (G : Gv) (W : WX) (e : Expr) (m : MB) : Prop := PT X e (tTs X.K G W m)
abbrev STw (X : Cx) (G : Gv) (W : WX) (e : Expr) (m : MB) : Prop := PW X e (tTs X.K G W m)
theorem OkB.mono {K : PySem.W.Frag} {σ : L2.St} {H H1 : Hp} {Q : Bool → Hp → Prop} {r : Rs Bool} (h : OkB K G W σ H Q r) (e : Ex H H1) : OkB K G W σ H1 Q r := by
  cases r with
  | none => exact h
  | some r => cases r with
    | ok d => exact fun H' e' => h H' (e.trans e')
    | error c => exact fun H' e' => h H' (e.trans e')
theorem OkB.bnd {K : PySem.W.Frag} {σ : L2.St} {H : Hp} {Q : Bool → Hp → Prop} {Q' : VK} {x : Rs D} {f : D → Rs Bool} (h : OkB K G W σ H Q (x.bnd f)) (k : ∀ a v H1, Ex H H1 → Rp K G H1 v a → OkB K G W σ H1 Q (f a) → Q' v H1) : OkR K G W σ H Q' x := by
  cases x with
  | none => exact h
  | some r => cases r with
    | ok d => exact fun v H' e r => k d v H' e r (OkB.mono (r := f d) h e)
    | error c => exact h
theorem OkB.bndB {K : PySem.W.Frag} {σ : L2.St} {H : Hp} {Q Q' : Bool → Hp → Prop} {x : Rs Bool} {f : Bool → Rs Bool} (h : OkB K G W σ H Q (x.bnd f)) (k : ∀ a H1, Ex H H1 → OkB K G W σ H1 Q (f a) → Q' a H1) : OkB K G W σ H Q' x := by
  cases x with
  | none => exact h
  | some r => cases r with
    | ok d => exact fun H' e => k d H' e (OkB.mono (r := f d) h e)
    | error c => exact h
theorem OkR.bndB {K : PySem.W.Frag} {σ : L2.St} {H : Hp} {Q : VK} {Q' : Bool → Hp → Prop} {x : Rs Bool} {f : Bool → Rs D} (h : OkR K G W σ H Q (x.bnd f)) (k : ∀ a H1, Ex H H1 → OkR K G W σ H1 Q (f a) → Q' a H1) : OkB K G W σ H Q' x := by
  cases x with
  | none => exact h
  | some r => cases r with
    | ok d => exact fun H' e => k d H' e (OkR.mono (r := f d) h e)
    | error c => exact h
theorem pt_weak {t t' : TT} (h : PT X e t) (k : ∀ σ H Q, t' σ H Q → t σ H Q) : PT X e t' := ⟨fun pins s σ H Q I q => h.run pins s σ H Q I (k σ H Q q)⟩
theorem pw_weak {t t' : TT} (h : PW X e t) (k : ∀ σ H Q, t' σ H Q → t σ H Q) : PW X e t' := ⟨fun wh pins s σ H Q I q => h.run wh pins s σ H Q I (k σ H Q q)⟩
def asB : D → Rs Bool
  | .bl b => okR b
  | _ => none
@[simp] theorem asB_bl (b : Bool) : asB (.bl b) = okR b := rfl
def mBl (m : M) : MB := fun st => (m st).bnd asB
theorem tTs_bl {K : PySem.W.Frag} (σ : L2.St) (H : Hp) (Q : Bool → Hp → Prop) (h : tTs K G W (mBl ma) σ H Q) : tB (tE K G W ma) σ H Q := by
  obtain ⟨st, r, h⟩ := h
  refine ⟨st, r, h.bnd fun x v H1 e1 r1 h1 => ?_⟩
  cases r1 with
  | bl t => exact ⟨t, rfl, h1 H1 (Ex.refl _)⟩
  | _ => exact h1.elim
theorem st_val (h : SE X G W e ma) (he : ∀ whole, isTrue e X.env whole = (do let v ← whole; standAt e.pos; holding [v] (truthy v)) := by intro _; rfl) : STt X G W e (mBl ma) :=
  pt_weak (pt_val h he) fun σ H Q h => tTs_bl σ H Q h
theorem st_cmp {op : CmpOp} {g : D → D → Option D} (ho : OpR X (compareOp op) (rD2 X.K G g)) (ha : SE X G W a ma) (hb : SE X G W b mb) (hm : behindInMarks op b = false := by first | exact nomark _ | rfl) : STt X G W (.Compare a [op] [b] pos) (mBl (mOp g ma mb)) :=
  pt_weak (pt_cmpR ho ha hb hm) fun σ H Q ⟨st, r, h⟩ => by
    have h' : tB (tE X.K G W (mOp g ma mb)) σ H Q := tTs_bl σ H Q ⟨st, r, h⟩
    exact tE_op σ H _ h'
theorem st_chain {op op' : CmpOp} {g g' : D → D → Option D} (ho : OpR X (compareOp op) (rD2 X.K G g)) (ho' : OpR X (compareOp op') (rD2 X.K G g')) (ha : SE X G W a ma) (hb : SE X G W b mb) (hc : SE X G W c mc) (hm : lastMarks [op, op'] [b, c] = false := by rfl) :
    STt X G W (.Compare a [op, op'] [b, c] pos) (mBl (mChain g g' ma mb mc)) :=
  pt_weak (pt_chain ho ho' ha hb hc hm) fun σ H Q ⟨st, r, h⟩ => by
    have h' : tB (tE X.K G W (mChain g g' ma mb mc)) σ H Q := tTs_bl σ H Q ⟨st, r, h⟩
    exact tE_chain σ H _ h'
def mNotB (m : MB) : MB := fun st => (m st).bnd fun b => okR (!b)
def mAndB (m n : MB) : MB := fun st => (m st).bnd fun b => if b = true then n st else okR false
def mOrB (m n : MB) : MB := fun st => (m st).bnd fun b => if b = true then okR true else n st
variable {mA mB : MB}
theorem st_not (ha : STt X G W a mA) : STt X G W (.UnaryOp .Not a pos) (mNotB mA) :=
  pt_weak (pt_not ha) fun σ H Q ⟨st, r, h⟩ => ⟨st, r, h.bndB fun x H1 e1 h1 => h1 H1 (Ex.refl _)⟩
theorem st_w (h : STw X G W e mA) : STt X G W e mA := h.pt
theorem sw_and1 (ha : STt X G W a mA) : STw X G W (.BoolOp .And [a] pos) mA := pw_and1 ha
theorem sw_or1 (ha : STt X G W a mA) : STw X G W (.BoolOp .Or [a] pos) mA := pw_or1 ha
theorem sw_and {rest : List Expr} (ha : STt X G W a mA) (hb : STw X G W (.BoolOp .And (b :: rest) pos) mB) : STw X G W (.BoolOp .And (a :: b :: rest) pos) (mAndB mA mB) :=
  pw_weak (pw_and ha hb) fun σ H Q ⟨st, r, h⟩ => ⟨st, r, h.bndB fun x H1 e1 h1 => by
    cases x with
    | true => rw [if_pos rfl]; rw [if_pos rfl] at h1; exact ⟨st, r.mono e1, h1⟩
    | false => rw [if_neg Bool.false_ne_true]; rw [if_neg Bool.false_ne_true] at h1; exact h1 H1 (Ex.refl _)⟩
theorem sw_or {rest : List Expr} (ha : STt X G W a mA) (hb : STw X G W (.BoolOp .Or (b :: rest) pos) mB) : STw X G W (.BoolOp .Or (a :: b :: rest) pos) (mOrB mA mB) :=
  pw_weak (pw_or ha hb) fun σ H Q ⟨st, r, h⟩ => ⟨st, r, h.bndB fun x H1 e1 h1 => by
    cases x with
    | false => rw [if_neg Bool.false_ne_true]; rw [if_neg Bool.false_ne_true] at h1; exact ⟨st, r.mono e1, h1⟩
    | true => rw [if_pos rfl]; rw [if_pos rfl] at h1; exact h1 H1 (Ex.refl _)⟩
/-! as values -/
def mAndV (ma mb : M) : M := fun st => (ma st).bnd fun a => match a with
  | .bl true => mb st
  | .bl false => okR (.bl false)
  | _ => none
def mOrV (ma mb : M) : M := fun st => (ma st).bnd fun a => match a with
  | .bl true => okR (.bl true)
  | .bl false => mb st
  | _ => none
def mNotV (ma : M) : M := fun st => (ma st).bnd fun a => match a with
  | .bl b => okR (.bl (!b))
  | _ => none
theorem se_one {op} (ha : SE X G W a ma) : SE X G W (.BoolOp op [a] pos) ma := pe_one ha
theorem se_and {rest : List Expr} (ha : SE X G W a ma) (hb : SE X G W (.BoolOp .And (b :: rest) pos) mb) : SE X G W (.BoolOp .And (a :: b :: rest) pos) (mAndV ma mb) :=
  pe_weak (pe_and ha hb) fun σ H Q ⟨st, r, h⟩ => ⟨st, r, h.bnd fun x v H1 e1 r1 h1 => by
    cases r1 with
    | bl t =>
      refine ⟨t, rfl, ?_⟩
      cases t with
      | true => rw [if_pos rfl]; exact ⟨st, r.mono e1, h1⟩
      | false => rw [if_neg Bool.false_ne_true]; exact h1 _ H1 (Ex.refl _) (.bl false)
    | _ => exact h1.elim⟩
theorem se_or {rest : List Expr} (ha : SE X G W a ma) (hb : SE X G W (.BoolOp .Or (b :: rest) pos) mb) : SE X G W (.BoolOp .Or (a :: b :: rest) pos) (mOrV ma mb) :=
  pe_weak (pe_or ha hb) fun σ H Q ⟨st, r, h⟩ => ⟨st, r, h.bnd fun x v H1 e1 r1 h1 => by
    cases r1 with
    | bl t =>
      refine ⟨t, rfl, ?_⟩
      cases t with
      | false => rw [if_neg Bool.false_ne_true]; exact ⟨st, r.mono e1, h1⟩
      | true => rw [if_pos rfl]; exact h1 _ H1 (Ex.refl _) (.bl true)
    | _ => exact h1.elim⟩
theorem se_not (ha : SE X G W a ma) : SE X G W (.UnaryOp .Not a pos) (mNotV ma) :=
  pe_weak (pe_not ha) fun σ H Q ⟨st, r, h⟩ => ⟨st, r, h.bnd fun x v H1 e1 r1 h1 => by
    cases r1 with
    | bl t => exact ⟨t, rfl, h1 _ H1 (Ex.refl _) (.bl _)⟩
    | _ => exact h1.elim⟩
def mIf (mc : MB) (ma mb : M) : M := fun st => (mc st).bnd fun t => if t = true then ma st else mb st
theorem se_if (hc : STt X G W c mA) (ha : SE X G W a ma) (hb : SE X G W b mb) : SE X G W (.IfExp c a b pos) (mIf mA ma mb) :=
  pe_weak (pe_ifExp hc ha hb) fun σ H Q ⟨st, r, h⟩ => ⟨st, r, h.bndB fun x H1 e1 h1 => by
    cases x with
    | true => rw [if_pos rfl]; rw [if_pos rfl] at h1; exact ⟨st, r.mono e1, h1⟩
    | false => rw [if_neg Bool.false_ne_true]; rw [if_neg Bool.false_ne_true] at h1; exact ⟨st, r.mono e1, h1⟩⟩

/-! ### arguments, displays -/
def mNil : MA := fun _ => okR []
def mCons (m : M) (mr : MA) : MA := fun st => (m st).bnd fun d => (mr st).bnd fun ds => okR (d :: ds)
theorem sa_nil : SA X G W [] mNil := pa_weak pa_nil fun σ H Q ⟨st, r, h⟩ => h [] H (Ex.refl _) .nil
theorem sa_cons (ha : SE X G W e ma) (hr : SA X G W es mr) (hs : starEach (e :: es) X.env = (false, eval e X.env) :: starEach es X.env := by rfl) : SA X G W (e :: es) (mCons ma mr) :=
  pa_weak (pa_cons ha hr hs) fun σ H Q ⟨st, r, h⟩ => ⟨st, r, h.bnd fun x v H1 e1 r1 h1 => ⟨st, r.mono e1, h1.bndA fun xs vs H2 e2 r2 h2 => h2 _ H2 (Ex.refl _) (.cons (r1.mono e2) r2)⟩⟩
theorem ex_new {H : Hp} {p : Addr} {o : HO} (h : H p = none) : Ex H (upd H p o) := Ex.new h
theorem rp_tup {K : PySem.W.Frag} {H : Hp} {p : Addr} {xs : List V} {ds : List D} (h : H p = some (.tup xs)) (r : RpAll K G H xs ds) : Rp K G H (.ref p) (.tup ds) := .tup (Or.inl (Or.inl h)) r
theorem rp_lst {K : PySem.W.Frag} {H : Hp} {p : Addr} {xs : List V} {ds : List D} (h : H p = some (.lst xs)) (r : RpAll K G H xs ds) : Rp K G H (.ref p) (.lst ds) := .lst h r
theorem new_tup {K : PySem.W.Frag} {H : Hp} {p : Addr} {xs : List V} {ds : List D} (h : H p = none) (r : RpAll K G H xs ds) : Rp K G (upd H p (.tup xs)) (.ref p) (.tup ds) := rp_tup upd_same (r.mono (ex_new h))
theorem new_lst {K : PySem.W.Frag} {H : Hp} {p : Addr} {xs : List V} {ds : List D} (h : H p = none) (r : RpAll K G H xs ds) : Rp K G (upd H p (.lst xs)) (.ref p) (.lst ds) := rp_lst upd_same (r.mono (ex_new h))
/-- the length of what arguments give -/
def LenA (mr : MA) (n : Nat) : Prop := ∀ st ds, mr st = okR ds → ds.length = n
theorem lenA_nil : LenA mNil 0 := fun st ds h => by
  have e : ([] : List D) = ds := Except.ok.inj (Option.some.inj h)
  rw [← e]; rfl
theorem lenA_cons {n : Nat} (h : LenA mr n) : LenA (mCons ma mr) (n + 1) := fun st ds q => by
  unfold mCons at q
  cases e1 : ma st with
  | none => rw [e1] at q; cases q
  | some x => cases x with
    | error c => rw [e1] at q; cases q
    | ok d =>
      rw [e1, bnd_ok] at q
      cases e2 : mr st with
      | none => rw [e2] at q; cases q
      | some y => cases y with
        | error c => rw [e2] at q; cases q
        | ok ds' =>
          rw [e2, bnd_ok] at q
          have e : d :: ds' = ds := Except.ok.inj (Option.some.inj q)
          rw [← e, List.length_cons, h st ds' e2]
def mTup (mr : MA) : M := fun st => (mr st).bnd fun ds => okR (.tup ds)
def mLst (mr : MA) : M := fun st => (mr st).bnd fun ds => okR (.lst ds)
theorem OkR.bndA' {K : PySem.W.Frag} {σ : L2.St} {H : Hp} {Q : VK} {Q' : List V → Hp → Prop} {x : Rs (List D)} {f : List D → Rs D} (h : OkR K G W σ H Q (x.bnd f)) (k : ∀ a, x = okR a → ∀ v H1, Ex H H1 → RpAll K G H1 v a → OkR K G W σ H1 Q (f a) → Q' v H1) : OkA K G W σ H Q' x := by
  cases x with
  | none => exact h
  | some r => cases r with
    | ok d => exact fun v H' e r => k d rfl v H' e r (OkR.mono (r := f d) h e)
    | error c => exact h
theorem se_tup {x1 : Nat} {n : Nat} (h : SA X G W es mr) (hl : LenA mr n) (hn : n ≤ 1000 := by decide) : SE X G W (.Tuple es x1 pos) (mTup mr) :=
  pe_weak (pe_tup h) fun σ H Q ⟨st, r, q⟩ => ⟨st, r, q.bndA' fun ds ed vs H1 e1 r1 h1 => by
    have l1 := r1.length
    have l2 := hl st ds ed
    refine ⟨Nat.le_of_lt (small1000 (by omega)), fun p hp => h1 _ _ (ex_new hp) (new_tup hp r1)⟩⟩
theorem se_lst {n : Nat} (h : SA X G W es mr) (hl : LenA mr n) (hn : n ≤ 1000 := by decide) : SE X G W (.List es pos) (mLst mr) :=
  pe_weak (pe_lst h) fun σ H Q ⟨st, r, q⟩ => ⟨st, r, q.bndA' fun ds ed vs H1 e1 r1 h1 => by
    have l1 := r1.length
    have l2 := hl st ds ed
    refine ⟨Nat.le_of_lt (small1000 (by omega)), fun p hp => h1 _ _ (ex_new hp) (new_lst hp r1)⟩⟩

/-! ### calls of built-ins, methods, subscripts, slices -/
def mCB (g : List D → Option D) (mr : MA) : M := fun st => (mr st).bnd fun ds => ofO (g ds)
theorem tE_cb {K : PySem.W.Frag} {g : List D → Option D} (σ : L2.St) (H : Hp) (Q : VK) (h : tE K G W (mCB g mr) σ H Q) : tCB (rDA K G g) (tAr K G W mr) σ H Q := by
  obtain ⟨st, r, h⟩ := h
  refine ⟨st, r, h.bndA fun ds vs H1 e1 r1 h1 => ?_⟩
  obtain ⟨d, ed, q⟩ := OkR.ofO h1
  exact ⟨ds, d, r1, ed, q⟩
theorem se_cb {x : Str} {id : String} {p : Pos} {g : List D → Option D} (hc : CallR X (.builtin id) (rDA X.K G g)) (hg : Gl X x) (hm : X.mg x = none) (hv : bootBuiltins x = some (.builtin id)) (ha : SA X G W (e :: es) mr)
    (hn : x ≠ "__name__" := by decide) (hd : (x == ("__debug__" : Str)) = false := by decide) (he : starEach (e :: es) X.env = (false, eval e X.env) :: starEach es X.env := by rfl) (hpl : (backTo pos (starEach es X.env)).any (·.1) = false := by rfl) :
    SE X G W (.Call (.Name x p) (e :: es) [] pos) (mCB g mr) :=
  pe_weak (pe_callB hc hg hm hv ha (hn := hn) (hdb := hd) (he := he) (hpl := hpl)) fun σ H Q h => tE_cb σ H Q h
theorem se_ty {x : Str} {T : String} {p : Pos} {g : List D → Option D} (hc : CallR X (.type T) (rDA X.K G g)) (hg : Gl X x) (hm : X.mg x = none) (hv : bootBuiltins x = some (.type T)) (ha : SA X G W (e :: es) mr)
    (hn : x ≠ "__name__" := by decide) (hd : (x == ("__debug__" : Str)) = false := by decide) (he : starEach (e :: es) X.env = (false, eval e X.env) :: starEach es X.env := by rfl) (hpl : (backTo pos (starEach es X.env)).any (·.1) = false := by rfl) :
    SE X G W (.Call (.Name x p) (e :: es) [] pos) (mCB g mr) :=
  pe_weak (pe_callTy hc hg hm hv ha (hn := hn) (hdb := hd) (he := he) (hpl := hpl)) fun σ H Q h => tE_cb σ H Q h
theorem se_ix {g : D → D → Option D} (hr : IxR X (rD2 X.K G g)) (ha : SE X G W a ma) (hb : SE X G W b mb) (hs : PlainIx b := by exact fun _ _ => rfl) : SE X G W (.Subscript a b pos) (mOp g ma mb) :=
  pe_weak (pe_ix hr ha hb hs) fun σ H Q h => tE_op σ H Q h
end
end Kp

namespace Kp
open PySem PySem.Spec PyProof.Rows L2
open Evl (Ex ex_l ex_t ex_rd)

/-! ### walks that hand out new tuples, from the library's GoesN -/
theorem turn_goesN {P : Program} {w : World} {K : PySem.W.Frag} {tg : Expr} {J : It} {fp : List Addr} {it : Addr} {tn : Nat → Heap → Prop}
    (mem : it ∈ fp) (obj : ∀ i h, tn i h → ∀ b ∈ fp, ∃ o, h.get? b = some o ∧ ∀ v, o.data ≠ .cell v)
    (keep : ∀ i h h', tn i h → (∀ b ∈ fp, ∀ o, h.get? b = some o → h'.get? b = some o) → tn i h')
    (go : ∀ (X : Cx), X.prog = P → X.w = w → X.K = K → X.calm = true → ∀ (i : Nat) (pins : List (Addr × Obj)) (s : Shared) (σ : L2.St) (H : Hp), Inv X pins σ H s → tn i s.heap → J.go i H →
      ∃ (ffp wr : List Addr) (m : Nat) (Y : Nat → Heap → Value → Heap → Prop) (St : Nat → Heap → Prop), GoesN P w X.A tg it ffp wr m Y St ∧ i < m ∧ St i s.heap ∧ (∀ b ∈ wr, b ∈ fp) ∧ (∀ h', St (i + 1) h' → tn (i + 1) h') ∧
        ∀ v h', Y i s.heap v h' → ∃ (T : Addr) (xs : List V) (us : List Value), v = .ref T ∧ s.heap.objs.size ≤ T ∧ Vals xs us ∧ xs.length ≤ 1000 ∧ h'.IsTuple T us.toArray ∧ (H T = none → J.yld i H (.ref T) (upd H T (.tup xs))))
    (dn : ∀ (X : Cx), X.prog = P → X.w = w → X.K = K → X.calm = true → ∀ (i : Nat) (pins : List (Addr × Obj)) (s : Shared) (σ : L2.St) (H : Hp), Inv X pins σ H s → tn i s.heap → J.stop i H →
      ∃ (ffp wr : List Addr) (Y : Nat → Heap → Value → Heap → Prop) (St : Nat → Heap → Prop) (m : Nat), GoesN P w X.A tg it ffp wr m Y St ∧ St m s.heap ∧ (∀ b ∈ wr, b ∈ fp))
    (self : ∀ (A : Around) (i : Nat) (s : Shared) (Q : Value → Shared → Prop) (E : Value → Shared → Prop), tn i s.heap → Q (.ref it) s → wpAny (model P w) A (pyIter (.ref it)) Q E s) :
    Turn P w K tg J fp it tn where
  mem := mem
  obj := obj
  keep := keep
  item := by
    intro X hP hw hK hc i pins s σ H E I hf st hg
    obtain ⟨ffp, wr, m, Y, St, W, hi, hs, hwr, hnx, hY⟩ := go X hP hw hK hc i pins s σ H I st hg
    subst hP hw hK
    refine wpAny_mono (W.goes i s (fun u s2 => ∃ x H', Inv X pins σ H' s2 ∧ RelV x u ∧ J.yld i H x H' ∧ tn (i + 1) s2.heap ∧ ∀ b ∈ fp, H' b = none) E hi hs fun v h' tk y st' hk htk => ?_) (fun r s1 ⟨u, e, h⟩ => ⟨u, e, h⟩) (fun _ _ z => z)
    obtain ⟨T, xs, us, rfl, hT, rv, hz, hTu, hy⟩ := hY v h' y
    have hn : H T = none := I.hok.fresh hT
    have new : ObjOk X.prog X.w (upd H T (.tup xs)) h' T (.tup xs) := ⟨Nat.le_of_lt (small1000 hz), us, rv, hTu⟩
    have I1 : Inv X pins σ (upd H T (.tup xs)) { s with heap := h', toks := tk } := I.turnedNew (ch := wr) (fun b ob hb q => hk b ob hb q) (fun b hb => hf b (hwr b hb)) hT new
    refine ⟨.ref T, _, I1, rfl, hy hn, hnx h' st', fun b hb => ?_⟩
    obtain ⟨o, ho, _⟩ := obj i s.heap st b hb
    rw [upd_ne (Nat.ne_of_lt (Nat.lt_of_lt_of_le (Heap.lt_size ho) hT))]
    exact (hf b hb).1
  done := by
    intro X hP hw hK hc i pins s σ H E I hf st hg
    obtain ⟨ffp, wr, Y, St, m, W, hs, hwr⟩ := dn X hP hw hK hc i pins s σ H I st hg
    subst hP hw hK
    exact wpAny_mono (W.stops s (fun s1 => Inv X pins σ H s1) E hs fun h' tk hk htk => I.turnedL (ch := wr) (fun b ob hb q => hk b ob hb q) fun b hb => hf b (hwr b hb)) (fun r s1 h => h) (fun _ _ z => z)
  self := self

/-! ### enumerate of a tuple, of a text; zip of two texts -/
/-- enumerate: the i-th of xs with its number, in a new pair, while G stands -/
def ItEn (G : Hp → Prop) (xs : List V) : It :=
  ⟨fun i H => G H ∧ i < xs.length, fun i H v H' => ∃ T x, v = .ref T ∧ H T = none ∧ H' = upd H T (.tup [.int (i : Nat), x]) ∧ xs[i]? = some x, fun i H => G H ∧ i = xs.length⟩
def ItZp (G : Hp → Prop) (xs ys : List V) : It :=
  ⟨fun i H => G H ∧ i < xs.length ∧ i < ys.length, fun i H v H' => ∃ T x y, v = .ref T ∧ H T = none ∧ H' = upd H T (.tup [x, y]) ∧ xs[i]? = some x ∧ ys[i]? = some y, fun i H => G H ∧ i = min xs.length ys.length⟩
theorem turn_enT {P : Program} {w : World} {K : PySem.W.Frag} {elts : List Expr} {kk : Nat} {tpos : Pos} (a e it : Addr) (xs : List V) (hai : a ≠ it) (hae : a ≠ e) :
    Turn P w K (.Tuple elts kk tpos) (ItEn (fun H => SqT K H a xs) xs) [e, it] e (fun i h => (∃ old, IsEnum h e it (0 + (i : Int)) old) ∧ h.IsTupleIter it a i ∧ e ≠ it) := by
  refine turn_goesN (by simp) (fun i h st b hb => ?_) (fun i h h' st k => let ⟨⟨old, he⟩, hi, hne⟩ := st; ⟨⟨old, k e (by simp) _ he⟩, hi.at fun o q => k it (by simp) o q, hne⟩) ?_ ?_ (fun A i s Q E st h => let ⟨⟨_, he⟩, _⟩ := st; wpAny_pyIter_enum he h)
  · obtain ⟨⟨old, he⟩, ⟨o, ho, hc, hd⟩, _⟩ := st
    have e' : b = e ∨ b = it := by simpa using hb
    rcases e' with z | z
    · rw [z]; exact ⟨_, he, fun v q => nomatch q⟩
    · rw [z]; exact ⟨o, ho, fun v q => by rw [hd] at q; cases q⟩
  · intro X hP hw hK hc i pins s σ H I st hg
    subst hP hw hK
    obtain ⟨⟨old, he⟩, hit, hne⟩ := st
    obtain ⟨hq, hx⟩ := hg
    obtain ⟨its, rv, p, hz⟩ := I.tuple hq
    have hl := rv.length
    have hh : (X.A.in1).handled = none := I.ok.hd hc
    refine ⟨_, _, _, _, _, GoesN.enumFrom (A := X.A) 0 (Draws.tuple hh it a hai its.toArray) e hne (by simp; exact ⟨hne, fun z => hae z.symm⟩) (by simp), ?_, ⟨⟨old, he⟩, hit, p⟩, by simp, fun h' ⟨h1, h2, _⟩ => ⟨h1, h2, hne⟩, ?_⟩
    · rw [List.size_toArray]; omega
    · rintro v h' ⟨T, t, x, rfl, hT, hx', hTu⟩
      have hx2 : its[i]? = some x := by simpa using hx'
      have hi' : i < xs.length := hx
      have hxv : xs[i]? = some xs[i] := List.getElem?_eq_getElem hi'
      obtain ⟨u, hu, ru⟩ := rv.get hxv
      rw [hx2] at hu
      cases hu
      exact ⟨T, [.int (i : Nat), xs[i]], [.int (0 + (i : Int)) t, x], rfl, hT, .cons ⟨t, by rw [Int.zero_add]⟩ (.cons ru .nil), by simp, hTu, fun hn => ⟨T, xs[i], rfl, hn, rfl, hxv⟩⟩
  · intro X hP hw hK hc i pins s σ H I st hg
    subst hP hw hK
    obtain ⟨⟨old, he⟩, hit, hne⟩ := st
    obtain ⟨hq, hx⟩ := hg
    subst hx
    obtain ⟨its, rv, p, hz⟩ := I.tuple hq
    have hl := rv.length
    have hh : (X.A.in1).handled = none := I.ok.hd hc
    have W := GoesN.enumFrom (elts := elts) (x1 := kk) (pos := tpos) (A := X.A) 0 (Draws.tuple (prog := X.prog) (w := X.w) hh it a hai its.toArray) e hne (by simp; exact ⟨hne, fun z => hae z.symm⟩) (by simp)
    refine ⟨_, _, _, _, _, W, ?_, by simp⟩
    rw [List.size_toArray, ← hl]
    exact ⟨⟨old, he⟩, hit, p⟩
theorem strIter_at {h h' : Heap} {a : Addr} {ty : String} {x : Str} {t : Tok} {i : Nat} (q : h.IsStrIter a ty x t i) (k : ∀ o, h.get? a = some o → h'.get? a = some o) : h'.IsStrIter a ty x t i := by
  obtain ⟨o, e, r⟩ := q
  exact ⟨o, k o e, r⟩
def chV (l : List Nat) : List V := l.map fun c => .str ⟨#[c]⟩
theorem turn_enS {P : Program} {w : World} {K : PySem.W.Frag} {elts : List Expr} {kk : Nat} {tpos : Pos} (e it : Addr) (z : Str) (t : Tok) :
    Turn P w K (.Tuple elts kk tpos) (ItEn (fun _ => True) (chV z.cps.toList)) [e, it] e (fun i h => (∃ old, IsEnum h e it (0 + (i : Int)) old) ∧ h.IsStrIter it (strIterType z) z t i ∧ e ≠ it) := by
  have hlen : (chV z.cps.toList).length = z.cps.size := by simp [chV]
  refine turn_goesN (by simp) (fun i h st b hb => ?_) (fun i h h' st k => let ⟨⟨old, he⟩, hi, hne⟩ := st; ⟨⟨old, k e (by simp) _ he⟩, strIter_at hi fun o q => k it (by simp) o q, hne⟩) ?_ ?_ (fun A i s Q E st h => let ⟨⟨_, he⟩, _⟩ := st; wpAny_pyIter_enum he h)
  · obtain ⟨⟨old, he⟩, ⟨o, ho, hc, hd⟩, _⟩ := st
    have e' : b = e ∨ b = it := by simpa using hb
    rcases e' with z | z
    · rw [z]; exact ⟨_, he, fun v q => nomatch q⟩
    · rw [z]; exact ⟨o, ho, fun v q => by rw [hd] at q; cases q⟩
  · intro X hP hw hK hc i pins s σ H I st hg
    subst hP hw hK
    obtain ⟨⟨old, he⟩, hit, hne⟩ := st
    obtain ⟨_, hx⟩ := hg
    have hh : (X.A.in1).handled = none := I.ok.hd hc
    refine ⟨_, _, _, _, _, GoesN.enumFrom (A := X.A) 0 (Draws.text hh it z t) e hne (by simp; exact hne) (by simp), by rw [hlen] at hx; exact hx, ⟨⟨old, he⟩, hit⟩, by simp, fun h' ⟨h1, h2⟩ => ⟨h1, h2, hne⟩, ?_⟩
    rintro v h' ⟨T, t1, x, rfl, hT, ⟨c, u, hx', rfl⟩, hTu⟩
    have hxv : (chV z.cps.toList)[i]? = some (.str ⟨#[c]⟩) := by
      unfold chV
      rw [List.getElem?_map, Array.getElem?_toList, hx']
      rfl
    exact ⟨T, [.int (i : Nat), .str ⟨#[c]⟩], [.int (0 + (i : Int)) t1, .str ⟨#[c]⟩ u], rfl, hT, .cons ⟨t1, by rw [Int.zero_add]⟩ (.cons ⟨u, rfl⟩ .nil), by simp, hTu, fun hn => ⟨T, _, rfl, hn, rfl, hxv⟩⟩
  · intro X hP hw hK hc i pins s σ H I st hg
    subst hP hw hK
    obtain ⟨⟨old, he⟩, hit, hne⟩ := st
    obtain ⟨_, hx⟩ := hg
    subst hx
    have hh : (X.A.in1).handled = none := I.ok.hd hc
    have W := GoesN.enumFrom (elts := elts) (x1 := kk) (pos := tpos) (A := X.A) 0 (Draws.text (prog := X.prog) (w := X.w) hh it z t) e hne (by simp; exact hne) (by simp)
    refine ⟨_, _, _, _, _, W, ?_, by simp⟩
    rw [← hlen]
    exact ⟨⟨old, he⟩, hit⟩
theorem turn_zpS {P : Program} {w : World} {K : PySem.W.Frag} {elts : List Expr} {kk : Nat} {tpos : Pos} {z TI TO i1 i2 : Addr} (y1 y2 : Str) (t1 t2 : Tok) (S : ZipSep2 z TI TO i1 i2 [i1] [i2]) :
    Turn P w K (.Tuple elts kk tpos) (ItZp (fun _ => True) (chV y1.cps.toList) (chV y2.cps.toList)) [z, TI, TO, i1, i2] z
      (fun i h => IsZip h z TI TO .none ∧ IsTupOf2 h TI (.ref i1) (.ref i2) ∧ (∃ a1 a2, IsTupOf2 h TO a1 a2) ∧ h.IsStrIter i1 (strIterType y1) y1 t1 i ∧ h.IsStrIter i2 (strIterType y2) y2 t2 i) := by
  have l1 : (chV y1.cps.toList).length = y1.cps.size := by simp [chV]
  have l2 : (chV y2.cps.toList).length = y2.cps.size := by simp [chV]
  refine turn_goesN (by simp) (fun i h st c hc => ?_) (fun i h h' st k => ?_) ?_ ?_ (fun A i s Q E st h => wpAny_pyIter_zip st.1 h)
  · obtain ⟨hz, hTI, ⟨x, y, hTO⟩, ⟨o1, e1, _, d1⟩, ⟨o2, e2, _, d2⟩⟩ := st
    have e' : c = z ∨ c = TI ∨ c = TO ∨ c = i1 ∨ c = i2 := by simpa using hc
    rcases e' with q | q | q | q | q
    · rw [q]; exact ⟨_, hz, fun v q => nomatch q⟩
    · rw [q]; exact ⟨_, hTI, fun v q => nomatch q⟩
    · rw [q]; exact ⟨_, hTO, fun v q => nomatch q⟩
    · rw [q]; exact ⟨o1, e1, fun v q => by rw [d1] at q; cases q⟩
    · rw [q]; exact ⟨o2, e2, fun v q => by rw [d2] at q; cases q⟩
  · obtain ⟨hz, hTI, ⟨x, y, hTO⟩, h1, h2⟩ := st
    exact ⟨k z (by simp) _ hz, k TI (by simp) _ hTI, ⟨x, y, k TO (by simp) _ hTO⟩, strIter_at h1 fun o q => k i1 (by simp) o q, strIter_at h2 fun o q => k i2 (by simp) o q⟩
  · intro X hP hw hK hc i pins s σ H I st hg
    subst hP hw hK
    obtain ⟨hz, hTI, hTO, h1, h2⟩ := st
    obtain ⟨_, hx, hy⟩ := hg
    have hh : (X.A.in1).handled = none := I.ok.hd hc
    refine ⟨_, _, _, _, _, GoesN.zip2 (A := X.A) S (Draws.text hh i1 y1 t1) (Draws.text hh i2 y2 t2), by rw [l1] at hx; rw [l2] at hy; omega, ⟨hz, hTI, hTO, h1, h2⟩, by simp, fun h' st' => st', ?_⟩
    rintro v h' ⟨T, x, y, rfl, hT, ⟨c, u, hx', rfl⟩, ⟨c2, u2, hy', rfl⟩, hTu⟩
    have hxv : (chV y1.cps.toList)[i]? = some (.str ⟨#[c]⟩) := by
      unfold chV
      rw [List.getElem?_map, Array.getElem?_toList, hx']
      rfl
    have hyv : (chV y2.cps.toList)[i]? = some (.str ⟨#[c2]⟩) := by
      unfold chV
      rw [List.getElem?_map, Array.getElem?_toList, hy']
      rfl
    exact ⟨T, [.str ⟨#[c]⟩, .str ⟨#[c2]⟩], [.str ⟨#[c]⟩ u, .str ⟨#[c2]⟩ u2], rfl, hT, .cons ⟨u, rfl⟩ (.cons ⟨u2, rfl⟩ .nil), by simp, hTu, fun hn => ⟨T, _, _, rfl, hn, rfl, hxv, hyv⟩⟩
  · intro X hP hw hK hc i pins s σ H I st hg
    subst hP hw hK
    obtain ⟨hz, hTI, hTO, h1, h2⟩ := st
    obtain ⟨_, hx⟩ := hg
    subst hx
    have hh : (X.A.in1).handled = none := I.ok.hd hc
    have W := GoesN.zip2 (elts := elts) (x1 := kk) (pos := tpos) (A := X.A) S (Draws.text (prog := X.prog) (w := X.w) hh i1 y1 t1) (Draws.text hh i2 y2 t2)
    refine ⟨_, _, _, _, _, W, ?_, by simp⟩
    rw [← l1, ← l2]
    exact ⟨hz, hTI, hTO, h1, h2⟩
end Kp

namespace Kp
open PySem PySem.Spec PyProof.Rows L2
open Evl (Ex ex_l ex_t ex_rd)

/-! ### enumerate(v) begins -/
set_option maxHeartbeats 1000000 in
theorem meets_enum1 {v : Value} {o : Obj} {H : Heap → Prop} (B : Begins v o H) :
    Meets (Builtin.«enumerate.__new__» ⟨[.type "enumerate", v], []⟩) (fun _ R s => H s.heap ∧
      R (.ok (.ret (.ref (s.heap.push o).objs.size))) { s with heap := (s.heap.push o).push { cls := .type "enumerate", data := .fields #[.none, .bool false, .ref s.heap.objs.size, rawInt 0, .none, .none] } }) :=
  .of_wp fun prog w A R s h => by
    obtain ⟨hp, g, d, tk, os⟩ := s; obtain ⟨h1, h⟩ := h
    have hsub := sub_enumerate
    have q1 : ∀ {A' : Around} {E : Value → Shared → Prop} {Q : Value → Shared → Prop}, Q (.ref hp.objs.size) ⟨hp.push o, g, d, tk, os⟩ → wpAny (model prog w) A' (pyIter v) Q E ⟨hp, g, d, tk, os⟩ :=
      fun q => B.iter prog w _ _ ⟨hp, g, d, tk, os⟩ _ h1 q
    wp_walk using q1
    refine wpAny_stack_any fun st => wpAny_pure ?_
    split
    · rename_i c _ _ _ _ _
      cases (c == Value.type "enumerate")
      · wp_walk using q1
        exact ⟨_, rfl, h⟩
      · wp_walk using q1
        exact ⟨_, rfl, h⟩
    · wp_walk using q1
      exact ⟨_, rfl, h⟩
theorem enum_begins1 {prog : Program} {w : World} {A : Around} {E : Value → Shared → Prop} {s : Shared} {v : Value} {o : Obj} {H : Heap → Prop} {Q : Value → Shared → Prop} (B : Begins v o H) (h1 : H s.heap)
    (h : ∀ h', IsEnum h' (s.heap.objs.size + 1) s.heap.objs.size 0 .none → h'.get? s.heap.objs.size = some o → h'.objs.size = s.heap.objs.size + 2 →
      (∀ b o, s.heap.get? b = some o → h'.get? b = some o) → Q (.ref (s.heap.objs.size + 1)) { s with heap := h' }) :
    wpAny (model prog w) A (call (.type "enumerate") [v]) Q E s := by
  refine callType_new F.called_enumerate (by decide) (F.typeCall_enumerate_1 _) (F.newCall_enumerate_1 _) (fun obj => F.args_object_init_2 obj _) F.entry_enumerate_new
    (meets_enum1 B) ⟨h1, ?_⟩
  have hz : (s.heap.push o).objs.size = s.heap.objs.size + 1 := Heap.size_push ..
  show _ ∧ _
  rw [hz]
  have he : IsEnum ((s.heap.push o).push { cls := .type "enumerate", data := .fields #[.none, .bool false, .ref s.heap.objs.size, rawInt 0, .none, .none] }) (s.heap.objs.size + 1) s.heap.objs.size 0 .none := by
    have := Heap.get?_push_size (s.heap.push o) (o := { cls := .type "enumerate", data := .fields #[.none, .bool false, .ref s.heap.objs.size, rawInt 0, .none, .none] }) rfl
    rw [hz] at this; exact this
  refine ⟨⟨_, he, rfl⟩, h _ he (Heap.get?_push_of_some _ (Heap.get?_push_size _ B.free)) (by rw [Heap.size_push, hz]) fun b o x => Heap.get?_push_of_some _ (Heap.get?_push_of_some _ x)⟩

/-! ### what a loop walks, by data -/
def iterD : D → Option (List D)
  | .lst l => some l
  | .tup l => some l
  | .str l => if l.length ≤ 100000 then some (l.map fun c => .str [c]) else none
  | _ => none
def enumL (l : List D) : List D := l.zipIdx.map fun p => .tup [.int (p.2 : Nat), p.1]
def zipL (l m : List D) : List D := List.zipWith (fun a b => .tup [a, b]) l m
theorem enumL_len (l : List D) : (enumL l).length = l.length := by simp [enumL]
theorem enumL_get {l : List D} {i : Nat} {d : D} (h : l[i]? = some d) : (enumL l)[i]? = some (.tup [.int (i : Nat), d]) := by
  simp [enumL, List.getElem?_zipIdx, h]
section
variable {K : PySem.W.Frag} {G : Gv} {W : WX}
/-- what comes at turn i: a thing of the ground B, or a new tuple of such -/
def YD (K : PySem.W.Frag) (G : Gv) (B : Hp) (ds : List D) : Nat → Hp → V → Hp → Prop := fun i H x H' => ∃ d, ds[i]? = some d ∧
  ((H' = H ∧ Rp K G B x d) ∨ ∃ T vs es, x = .ref T ∧ H T = none ∧ H' = upd H T (.tup vs) ∧ d = .tup es ∧ RpAll K G B vs es)
def WalkD (K : PySem.W.Frag) (G : Gv) (J : It) (ds : List D) (B : Hp) : Prop := Walk J ds.length (Ex B) (YD K G B ds)
def OkI (K : PySem.W.Frag) (G : Gv) (W : WX) (σ : L2.St) (H : Hp) (R : It → Hp → Prop) : Rs (List D) → Prop
  | some (.ok ds) => ds.length ≤ sizeLine → ∀ J H', Ex H H' → WalkD K G J ds H' → R J H'
  | some (.error c) => ∀ H', Ex H H' → W (.ref (G.cl c)) none σ H'
  | none => False
def tIt (K : PySem.W.Frag) (G : Gv) (W : WX) (m : MA) : TI := fun σ H R => ∃ st, RepE K G H σ st ∧ OkI K G W σ H R (m st)
abbrev SI (X : Cx) (G : Gv) (W : WX) (tg iter : Expr) (m : MA) : Prop := PI X tg iter (tIt X.K G W m)
theorem OkI.bnd {σ : L2.St} {H : Hp} {R : It → Hp → Prop} {Q' : VK} {x : Rs D} {f : D → Rs (List D)} (h : OkI K G W σ H R (x.bnd f)) (k : ∀ a v H1, Ex H H1 → Rp K G H1 v a → OkI K G W σ H1 R (f a) → Q' v H1) : OkR K G W σ H Q' x := by
  cases x with
  | none => exact h
  | some r => cases r with
    | ok d =>
      refine fun v H' e r => k d v H' e r ?_
      have h' : OkI K G W σ H R (f d) := h
      cases ef : f d with
      | none => rw [ef] at h'; exact h'
      | some y => cases y with
        | ok ds => rw [ef] at h'; exact fun z J H2 e2 => h' z J H2 (e.trans e2)
        | error c => rw [ef] at h'; exact fun H2 e2 => h' H2 (e.trans e2)
    | error c => exact h
theorem OkI.bndA {σ : L2.St} {H : Hp} {R : It → Hp → Prop} {Q' : List V → Hp → Prop} {x : Rs (List D)} {f : List D → Rs (List D)} (h : OkI K G W σ H R (x.bnd f)) (k : ∀ a v H1, Ex H H1 → RpAll K G H1 v a → OkI K G W σ H1 R (f a) → Q' v H1) : OkA K G W σ H Q' x := by
  cases x with
  | none => exact h
  | some r => cases r with
    | ok d =>
      refine fun v H' e r => k d v H' e r ?_
      have h' : OkI K G W σ H R (f d) := h
      cases ef : f d with
      | none => rw [ef] at h'; exact h'
      | some y => cases y with
        | ok ds => rw [ef] at h'; exact fun z J H2 e2 => h' z J H2 (e.trans e2)
        | error c => rw [ef] at h'; exact fun H2 e2 => h' H2 (e.trans e2)
    | error c => exact h
theorem RpAll.get' {H : Hp} {vs : List V} {ds : List D} (r : RpAll K G H vs ds) {i : Nat} {v : V} (h : vs[i]? = some v) : ∃ d, ds[i]? = some d ∧ Rp K G H v d := by
  have hl := r.length
  have hi : i < vs.length := (List.getElem?_eq_some_iff.mp h).1
  obtain ⟨v', h1, h2⟩ := r.get (i := i) (d := ds[i]'(by omega)) (List.getElem?_eq_getElem _)
  rw [h] at h1
  cases h1
  exact ⟨_, List.getElem?_eq_getElem _, h2⟩
theorem S_cps (l : List Nat) : (S l).cps.toList = l := by simp [S]
theorem okS_one {l : List Nat} {c : Nat} (ok : okS l) (h : c ∈ l) : okS [c] := fun x hx => by
  have e : x = c := by simpa using hx
  rw [e]
  exact ok c h
theorem chV_rp {H : Hp} {l : List Nat} (ok : okS l) : RpAll K G H (chV l) (l.map fun c => .str [c]) := by
  unfold chV
  induction l with
  | nil => exact .nil
  | cons c l ih => exact .cons (.str (l := [c]) (okS_one ok (List.mem_cons_self ..))) (ih fun x hx => ok x (List.mem_cons_of_mem _ hx))
theorem walkD_list {a : Addr} {xs : List V} {ds : List D} {B : Hp} (h : SqL K B a xs) (r : RpAll K G B xs ds) : WalkD K G (Itl K a) ds B := by
  have w := walk_list (K := K) (a := a) (xs := xs)
  rw [r.length] at w
  exact w.mono (fun H e => ex_l e h) fun i H x H' _ _ ⟨e, hx⟩ => by
    obtain ⟨d, hd, rd⟩ := r.get' hx
    exact ⟨d, hd, .inl ⟨e, rd⟩⟩
theorem walkD_tup {a : Addr} {xs : List V} {ds : List D} {B : Hp} (h : SqT K B a xs) (r : RpAll K G B xs ds) : WalkD K G (Itt K a) ds B := by
  have w := walk_tup (K := K) (a := a) (xs := xs)
  rw [r.length] at w
  exact w.mono (fun H e => ex_t e h) fun i H x H' _ _ ⟨e, hx⟩ => by
    obtain ⟨d, hd, rd⟩ := r.get' hx
    exact ⟨d, hd, .inl ⟨e, rd⟩⟩
theorem walkD_str {l : List Nat} {B : Hp} (ok : okS l) : WalkD K G (Its (S l)) (l.map fun c => .str [c]) B := by
  have w := walk_str (z := S l)
  have e : (S l).cps.size = (l.map fun c => D.str [c]).length := by simp [S]
  rw [e] at w
  refine w.mono (fun H e => trivial) fun i H x H' _ _ ⟨e, c, hc, ex⟩ => ?_
  have hc' : l[i]? = some c := by simpa [S] using hc
  refine ⟨.str [c], by rw [List.getElem?_map, hc']; rfl, .inl ⟨e, ?_⟩⟩
  rw [ex]
  exact .str (l := [c]) (okS_one ok (List.mem_of_getElem? hc'))
theorem walkD_en {Gd : Hp → Prop} {xs : List V} {ds : List D} {B : Hp} (hG : ∀ H, Ex B H → Gd H) (r : RpAll K G B xs ds) : WalkD K G (ItEn Gd xs) (enumL ds) B := by
  have hl := r.length
  have w : Walk (ItEn Gd xs) (enumL ds).length (Ex B) (YD K G B (enumL ds)) := by
    refine ⟨fun i H hi e => ⟨hG H e, ?_⟩, fun H e => ⟨hG H e, ?_⟩, fun i H x H' hi e y => ?_⟩
    · rw [enumL_len] at hi; omega
    · rw [enumL_len]; omega
    · obtain ⟨T, v, rfl, hn, rfl, hv⟩ := y
      obtain ⟨d, hd, rd⟩ := r.get' hv
      exact ⟨_, enumL_get hd, .inr ⟨T, _, _, rfl, hn, rfl, rfl, .cons (.int _) (.cons rd .nil)⟩⟩
  exact w
theorem walkD_enL {a : Addr} {xs : List V} {ds : List D} {B : Hp} (h : SqL K B a xs) (r : RpAll K G B xs ds) : WalkD K G (Ite K a) (enumL ds) B := by
  have w := walk_enum (K := K) (a := a) (xs := xs)
  rw [r.length, ← enumL_len] at w
  refine w.mono (fun H e => ex_l e h) fun i H x H' _ _ ⟨T, x1, y1, e1, e2, e3, e4, e5⟩ => ?_
  obtain ⟨d, hd, rd⟩ := r.get' e5
  cases e4
  exact ⟨_, enumL_get hd, .inr ⟨T, _, _, e1, e2, e3, rfl, .cons (.int _) (.cons rd .nil)⟩⟩
theorem zipL_len (l m : List D) : (zipL l m).length = min l.length m.length := by simp [zipL]
theorem zipL_get {l m : List D} {i : Nat} {d e : D} (h : l[i]? = some d) (h' : m[i]? = some e) : (zipL l m)[i]? = some (.tup [d, e]) := by
  simp [zipL, List.getElem?_zipWith, h, h']
theorem walkD_zp {Gd : Hp → Prop} {xs ys : List V} {ds es : List D} {B : Hp} (hG : ∀ H, Ex B H → Gd H) (r : RpAll K G B xs ds) (q : RpAll K G B ys es) : WalkD K G (ItZp Gd xs ys) (zipL ds es) B := by
  have hl := r.length
  have hm := q.length
  have w : Walk (ItZp Gd xs ys) (zipL ds es).length (Ex B) (YD K G B (zipL ds es)) := by
    refine ⟨fun i H hi e => ⟨hG H e, ?_⟩, fun H e => ⟨hG H e, ?_⟩, fun i H x H' hi e y => ?_⟩
    · rw [zipL_len] at hi; omega
    · rw [zipL_len]; omega
    · obtain ⟨T, v, u, rfl, hn, rfl, hv, hu⟩ := y
      obtain ⟨d, hd, rd⟩ := r.get' hv
      obtain ⟨c, hc, rc⟩ := q.get' hu
      exact ⟨_, zipL_get hd hc, .inr ⟨T, _, _, rfl, hn, rfl, rfl, .cons rd (.cons rc .nil)⟩⟩
  exact w
theorem walkD_zpL {a b : Addr} {xs ys : List V} {ds es : List D} {B : Hp} (h : SqL K B a xs) (h' : SqL K B b ys) (r : RpAll K G B xs ds) (q : RpAll K G B ys es) : WalkD K G (Itz K a b) (zipL ds es) B := by
  have w := walk_zip (K := K) (a := a) (b := b) (xs := xs) (ys := ys) (n := (zipL ds es).length) (by rw [zipL_len, r.length, q.length])
  refine w.mono (fun H e => ⟨ex_l e h, ex_l e h'⟩) fun i H x H' _ _ ⟨T, x1, y1, e1, e2, e3, e4, e5⟩ => ?_
  obtain ⟨d, hd, rd⟩ := r.get' e4
  obtain ⟨c, hc, rc⟩ := q.get' e5
  exact ⟨_, zipL_get hd hc, .inr ⟨T, _, _, e1, e2, e3, rfl, .cons rd (.cons rc .nil)⟩⟩
theorem walkD_zpT {a b : Addr} {xs ys : List V} {ds es : List D} {B : Hp} (h : SqT K B a xs) (h' : SqT K B b ys) (r : RpAll K G B xs ds) (q : RpAll K G B ys es) : WalkD K G (RZ.ItzT K a b) (zipL ds es) B := by
  have hl := r.length
  have hm := q.length
  have w : Walk (RZ.ItzT K a b) (zipL ds es).length (Ex B) (YD K G B (zipL ds es)) := by
    refine ⟨fun i H hi e => ?_, fun H e => ⟨xs, ys, ex_t e h, ex_t e h', ?_⟩, fun i H x H' hi e y => ?_⟩
    · rw [zipL_len] at hi
      have h1 : i < xs.length := by omega
      have h2 : i < ys.length := by omega
      exact ⟨xs, ys, xs[i], ys[i], ex_t e h, ex_t e h', List.getElem?_eq_getElem h1, List.getElem?_eq_getElem h2⟩
    · rw [zipL_len]; omega
    · obtain ⟨T, v, u, rfl, hn, rfl, hv, hu⟩ := y
      obtain ⟨d, hd, rd⟩ := r.get' (hv xs (ex_t e h))
      obtain ⟨c, hc, rc⟩ := q.get' (hu ys (ex_t e h'))
      exact ⟨_, zipL_get hd hc, .inr ⟨T, _, _, rfl, hn, rfl, rfl, .cons rd (.cons rc .nil)⟩⟩
  exact w
def rangeL (lo c : Int) (n : Nat) : List D := (List.range n).map fun (i : Nat) => .int (lo + (i : Int) * c)
theorem rangeL_get {lo c : Int} {n i : Nat} (h : i < n) : (rangeL lo c n)[i]? = some (.int (lo + (i : Int) * c)) := by
  simp [rangeL, h]
theorem walkD_range {lo : Int} {n : Nat} {B : Hp} : WalkD K G (Itr lo n) (rangeL lo 1 n) B := by
  have w := walk_range (lo := lo) (n := n)
  have e : n = (rangeL lo 1 n).length := by simp [rangeL]
  have w' : Walk (Itr lo n) (rangeL lo 1 n).length (Ex B) (YD K G B (rangeL lo 1 n)) := by
    rw [← e]
    refine w.mono (fun H e => trivial) fun i H x H' hi _ ⟨e, ex⟩ => ?_
    refine ⟨_, rangeL_get hi, .inl ⟨e, ?_⟩⟩
    rw [ex, Int.mul_one]
    exact .int _
  exact w'
theorem walkD_rangeC {lo c : Int} {n : Nat} {B : Hp} : WalkD K G (Itc lo c n) (rangeL lo c n) B := by
  have w := walk_rangeC (lo := lo) (c := c) (n := n)
  have e : n = (rangeL lo c n).length := by simp [rangeL]
  have w' : Walk (Itc lo c n) (rangeL lo c n).length (Ex B) (YD K G B (rangeL lo c n)) := by
    rw [← e]
    refine w.mono (fun H e => trivial) fun i H x H' hi _ ⟨e, ex⟩ => ?_
    refine ⟨_, rangeL_get hi, .inl ⟨e, ?_⟩⟩
    rw [ex]
    exact .int _
  exact w'

/-! ### the sources -/
theorem size_big : (100000 : Nat) ≤ sizeLine := by decide
variable {X : Cx} {e e2 : Expr} {ma : M} {mr : MA} {p pos tpos : Pos} {elts : List Expr} {kk : Nat}
def mIter (m : M) : MA := fun st => (m st).bnd fun d => ofO (iterD d)
theorem pi_weak {tg iter : Expr} {t t' : TI} (h : PI X tg iter t) (k : ∀ σ H Q, t' σ H Q → t σ H Q) : PI X tg iter t' := ⟨fun pins s σ H Q I q => h.run pins s σ H Q I (k σ H Q q)⟩
theorem si_val {tg : Expr} (h : SE X G W e ma) : SI X G W tg e (mIter ma) := by
  refine ⟨fun pins s σ H R I ⟨st, r, q⟩ => ?_⟩
  have q' : OkI X.K G W σ H R ((ma st).bnd fun d => ofO (iterD d)) := q
  refine thn (h.run pins s σ H (fun v H1 => ∃ d, Rp X.K G H1 v d ∧ OkI X.K G W σ H1 R (ofO (iterD d))) I ⟨st, r, q'.bnd fun a v H1 e1 r1 h1 => ⟨a, r1, h1⟩⟩) fun v s1 ⟨x, H1, I1, r1, d, rd, hd⟩ => ?_
  cases rd with
  | @lst a xs ds hs0 ra =>
    cases r1
    have hs : SqL X.K H1 a xs := Or.inl (Or.inl hs0)
    obtain ⟨its, rv, p, hz⟩ := I1.list hs
    refine wpAny_pyIter_list p.isList ?_
    refine ⟨s1.heap.objs.size, [s1.heap.objs.size], _, _, H1, rfl, I1.kept (t' := s1.toks) fun b o e => Heap.get?_push_of_some _ e, turn_list a _, ⟨_, Heap.get?_push_size _ rfl, rfl, rfl⟩, fun b hb => ?_, hd (by rw [← ra.length]; exact hz) _ H1 (Ex.refl _) (walkD_list hs ra)⟩
    have e : b = s1.heap.objs.size := by simpa using hb
    subst e
    exact I1.fpOk (Nat.le_refl _) (I1.hok.fresh (Nat.le_refl _))
  | @tup a xs ds hs ra =>
    cases r1
    obtain ⟨its, rv, p, hz⟩ := I1.tuple hs
    refine wpAny_pyIter_tuple (show s1.heap.IsTuple a its.toArray from p) ?_
    refine ⟨s1.heap.objs.size, [s1.heap.objs.size], _, _, H1, rfl, I1.kept (t' := s1.toks) fun b o e => Heap.get?_push_of_some _ e, turn_tuple a _, ⟨_, Heap.get?_push_size _ rfl, rfl, rfl⟩, fun b hb => ?_, hd (by rw [← ra.length]; exact hz) _ H1 (Ex.refl _) (walkD_tup hs ra)⟩
    have e : b = s1.heap.objs.size := by simpa using hb
    subst e
    exact I1.fpOk (Nat.le_refl _) (I1.hok.fresh (Nat.le_refl _))
  | @str l ok =>
    obtain ⟨t, rfl⟩ := r1
    have hd' : OkI X.K G W σ H1 R (ofO (if l.length ≤ 100000 then some (l.map fun c => D.str [c]) else none)) := hd
    by_cases hl : l.length ≤ 100000
    · rw [if_pos hl] at hd'
      have q := hd' (by rw [List.length_map]; exact Nat.le_trans hl size_big) _ H1 (Ex.refl _) (walkD_str ok)
      cases ha : (S l).cps.all (· < 128)
      · exact wpAny_pyIter_wide ha (pi_one (tk := s1.toks) I1 _ (turn_str _ (S l) t "str_iterator" (.inr rfl)) ⟨_, Heap.get?_push_size _ rfl, rfl, rfl⟩ q)
      · exact wpAny_pyIter_ascii ha (pi_one (tk := s1.toks) I1 _ (turn_str _ (S l) t "str_ascii_iterator" (.inl rfl)) ⟨_, Heap.get?_push_size _ rfl, rfl, rfl⟩ q)
    · rw [if_neg hl] at hd'
      exact hd'.elim
  | _ => exact hd.elim
def mEnum (mr : MA) : MA := fun st => (mr st).bnd fun ds => match ds with
  | [d] => ofO ((iterD d).map enumL)
  | _ => none
theorem si_enum (hg : Gl X "enumerate") (hm : X.mg "enumerate" = none) (ha : SA X G W [e] mr) (hs : starEach [e] X.env = [(false, eval e X.env)] := by rfl) :
    SI X G W (.Tuple elts kk tpos) (.Call (.Name "enumerate" p) [e] [] pos) (mEnum mr) := by
  refine ⟨fun pins s σ H R I ⟨st, r, q⟩ => ?_⟩
  have q' : OkI X.K G W σ H R ((mr st).bnd fun ds => match ds with
    | [d] => ofO ((iterD d).map enumL)
    | _ => none) := q
  refine Call_ (ld_blt I hg hm boot_enumerate (PyProof.Rows.callWith_type1 (thn (ha.run pos pins s σ H (fun vs H1 => ∃ v d, vs = [v] ∧ Rp X.K G H1 v d ∧ OkI X.K G W σ H1 R (ofO ((iterD d).map enumL))) I
    ⟨st, r, q'.bndA fun ds vs H1 e1 r1 h1 => ?_⟩) fun us s1 ⟨vs, H1, I1, r1, q1⟩ => ?_) hs rfl))
  · cases r1 with
    | nil => exact h1.elim
    | cons rv rr => cases rr with
      | nil => exact ⟨_, _, rfl, rv, h1⟩
      | cons _ _ => exact h1.elim
  · obtain ⟨v, d, rfl, rd, hd⟩ := q1
    cases r1 with
    | cons rv rr =>
      cases rr
      have fin : ∀ (u : Value) (o : Obj) (Hh : Heap → Prop) (J : It) (ds : List D) (tn : Nat → Heap → Prop), Begins u o Hh → Hh s1.heap → RelV v u → ds.length ≤ sizeLine → OkI X.K G W σ H1 R (some (.ok (enumL ds))) →
          Turn X.prog X.w X.K (.Tuple elts kk tpos) J [s1.heap.objs.size + 1, s1.heap.objs.size] (s1.heap.objs.size + 1) tn → WalkD X.K G J (enumL ds) H1 →
          (∀ h' : Heap, IsEnum h' (s1.heap.objs.size + 1) s1.heap.objs.size 0 .none → h'.get? s1.heap.objs.size = some o → tn 0 h') →
          wpAny (model X.prog X.w) X.A (call (.type "enumerate") [u]) (fun v s1 => wpAny (model X.prog X.w) X.A (pyIter v) (PIE X pins σ (.Tuple elts kk tpos) R) X.xe s1) X.xe s1 := by
        intro u o Hh J ds tn B hB _ hz hR T wk ht
        refine enum_begins1 B hB fun h' he ho hsz hk => wpAny_pyIter_enum he ?_
        have I2 : Inv X pins σ H1 { s1 with heap := h' } := I1.kept (t' := s1.toks) hk
        refine ⟨s1.heap.objs.size + 1, [s1.heap.objs.size + 1, s1.heap.objs.size], tn, J, H1, rfl, I2, T, ht h' he ho, fun b hb => ?_, hR (by rw [enumL_len]; exact hz) J H1 (Ex.refl _) wk⟩
        have e' : b = s1.heap.objs.size + 1 ∨ b = s1.heap.objs.size := by simpa using hb
        have hle : s1.heap.objs.size ≤ b := by
          rcases e' with z | z
          · rw [z]; exact Nat.le_add_right _ _
          · rw [z]; exact Nat.le_refl _
        exact I1.fpOk hle (I1.hok.fresh hle)
      cases rd with
      | @lst a xs ds hs0 ra =>
        cases rv
        have hs : SqL X.K H1 a xs := Or.inl (Or.inl hs0)
        obtain ⟨its, rv, p, hz⟩ := I1.list hs
        exact fin _ _ _ _ ds _ (begins_list a its.toArray) p.isList rfl (by rw [← ra.length]; exact hz) hd (turn_enum a _ _) (walkD_enL hs ra) fun h' he ho => ⟨⟨.none, he⟩, ⟨_, ho, rfl, rfl⟩, Nat.succ_ne_self _⟩
      | @tup a xs ds hs ra =>
        cases rv
        obtain ⟨its, rv, p, hz⟩ := I1.tuple hs
        have hal : a < s1.heap.objs.size := by obtain ⟨o, ho, _⟩ := id p; exact Heap.lt_size ho
        exact fin _ _ _ _ ds _ (begins_tuple a its.toArray) (show s1.heap.IsTuple a its.toArray from p) rfl (by rw [← ra.length]; exact hz) hd (turn_enT a _ _ xs (Nat.ne_of_lt hal) (Nat.ne_of_lt (Nat.lt_succ_of_lt hal))) (walkD_en (fun H e => ex_t e hs) ra)
          fun h' he ho => ⟨⟨.none, he⟩, ⟨_, ho, rfl, rfl⟩, Nat.succ_ne_self _⟩
      | @str l ok =>
        obtain ⟨t, rfl⟩ := rv
        have hd' : OkI X.K G W σ H1 R (ofO ((if l.length ≤ 100000 then some (l.map fun c => D.str [c]) else none).map enumL)) := hd
        by_cases hl : l.length ≤ 100000
        · rw [if_pos hl] at hd'
          have wk : WalkD X.K G (ItEn (fun _ => True) (chV (S l).cps.toList)) (enumL (l.map fun c => D.str [c])) H1 := by
            rw [S_cps]
            exact walkD_en (fun _ _ => trivial) (chV_rp ok)
          exact fin _ _ _ _ _ _ (begins_text (S l) t) trivial ⟨t, rfl⟩ (by rw [List.length_map]; exact Nat.le_trans hl size_big) hd' (turn_enS _ _ (S l) t) wk fun h' he ho => ⟨⟨.none, he⟩, ⟨_, ho, rfl, rfl⟩, Nat.succ_ne_self _⟩
        · rw [if_neg hl] at hd'
          exact hd'.elim
      | _ => exact hd.elim
/-- zip of two of one kind -/
def zipD : D → D → Option (List D)
  | .lst a, .lst b => some (zipL a b)
  | .tup a, .tup b => some (zipL a b)
  | .str a, .str b => if a.length ≤ 100000 then some (zipL (a.map fun c => .str [c]) (b.map fun c => .str [c])) else none
  | _, _ => none
def mZip (mr : MA) : MA := fun st => (mr st).bnd fun ds => match ds with
  | [d, e] => ofO (zipD d e)
  | _ => none
theorem si_zip (hg : Gl X "zip") (hm : X.mg "zip" = none) (ha : SA X G W [e, e2] mr) (hs : starEach [e, e2] X.env = (false, eval e X.env) :: starEach [e2] X.env := by rfl) (hpl : (backTo pos (starEach [e2] X.env)).any (·.1) = false := by rfl) :
    SI X G W (.Tuple elts kk tpos) (.Call (.Name "zip" p) [e, e2] [] pos) (mZip mr) := by
  refine ⟨fun pins s σ H R I ⟨st, r, q⟩ => ?_⟩
  have q' : OkI X.K G W σ H R ((mr st).bnd fun ds => match ds with
    | [d, e] => ofO (zipD d e)
    | _ => none) := q
  refine Call_ (ld_blt I hg hm boot_zip (PyProof.Rows.callWith_type1 (thn (ha.run pos pins s σ H (fun vs H1 => ∃ v u d c, vs = [v, u] ∧ Rp X.K G H1 v d ∧ Rp X.K G H1 u c ∧ OkI X.K G W σ H1 R (ofO (zipD d c))) I
    ⟨st, r, q'.bndA fun ds vs H1 e1 r1 h1 => ?_⟩) fun us s1 ⟨vs, H1, I1, r1, q1⟩ => ?_) hs hpl))
  · cases r1 with
    | nil => exact h1.elim
    | cons rv rr => cases rr with
      | nil => exact h1.elim
      | cons ru rr => cases rr with
        | nil => exact ⟨_, _, _, _, rfl, rv, ru, h1⟩
        | cons _ _ => exact h1.elim
  · obtain ⟨v, u, d, c, rfl, rd, rc, hd⟩ := q1
    cases r1 with
    | cons rv rr =>
      cases rr with
      | cons ru rr =>
        cases rr
        have fresh5 : ∀ c, c ∈ [s1.heap.objs.size + 4, s1.heap.objs.size + 2, s1.heap.objs.size + 3, s1.heap.objs.size, s1.heap.objs.size + 1] → FpOk X pins H1 c := fun c hcm => by
          have e' : c = s1.heap.objs.size + 4 ∨ c = s1.heap.objs.size + 2 ∨ c = s1.heap.objs.size + 3 ∨ c = s1.heap.objs.size ∨ c = s1.heap.objs.size + 1 := by simpa using hcm
          have hle : s1.heap.objs.size ≤ c := by
            rcases e' with z | z | z | z | z
            · rw [z]; exact Nat.le_add_right _ _
            · rw [z]; exact Nat.le_add_right _ _
            · rw [z]; exact Nat.le_add_right _ _
            · rw [z]; exact Nat.le_refl _
            · rw [z]; exact Nat.le_add_right _ _
          exact I1.fpOk hle (I1.hok.fresh hle)
        cases rd with
        | @lst a xs ds hs0 ra =>
          cases rc with
          | @lst b ys es hs1 rb =>
            cases rv
            cases ru
            have hs : SqL X.K H1 a xs := Or.inl (Or.inl hs0)
            have hs' : SqL X.K H1 b ys := Or.inl (Or.inl hs1)
            obtain ⟨its, rv, p1, hz⟩ := I1.list hs
            obtain ⟨its2, rv2, p2, _⟩ := I1.list hs'
            refine call_zip_2 p1.isList p2.isList fun h' hz' hTI hTO h1 h2 hsz hk => wpAny_pyIter_zip hz' ?_
            have I2 : Inv X pins σ H1 { s1 with heap := h' } := I1.kept (t' := s1.toks) hk
            exact ⟨s1.heap.objs.size + 4, [s1.heap.objs.size + 4, s1.heap.objs.size + 2, s1.heap.objs.size + 3, s1.heap.objs.size, s1.heap.objs.size + 1], _, _, H1, rfl, I2, turn_zip (PySem.W.ktu_apart s1.heap.objs.size a b p1.lt p2.lt), ⟨hz', hTI, ⟨_, _, hTO⟩, h1, h2⟩, fresh5,
              hd (by rw [zipL_len]; exact Nat.le_trans (Nat.min_le_left _ _) (by rw [← ra.length]; exact hz)) _ H1 (Ex.refl _) (walkD_zpL hs hs' ra rb)⟩
          | _ => exact hd.elim
        | @tup a xs ds hs ra =>
          cases rc with
          | @tup b ys es hs' rb =>
            cases rv
            cases ru
            obtain ⟨its, rv, p1, hz⟩ := I1.tuple hs
            obtain ⟨its2, rv2, p2, _⟩ := I1.tuple hs'
            obtain ⟨o1, ho1, _⟩ := id p1
            obtain ⟨o2, ho2, _⟩ := id p2
            refine RZ.call_zipT (show s1.heap.IsTuple a its.toArray from p1) (show s1.heap.IsTuple b its2.toArray from p2) fun h' hz' hTI hTO h1 h2 hsz hk => wpAny_pyIter_zip hz' ?_
            have I2 : Inv X pins σ H1 { s1 with heap := h' } := I1.kept (t' := s1.toks) hk
            exact ⟨s1.heap.objs.size + 4, [s1.heap.objs.size + 4, s1.heap.objs.size + 2, s1.heap.objs.size + 3, s1.heap.objs.size, s1.heap.objs.size + 1], _, _, H1, rfl, I2, RZ.turn_zipT (PySem.W.ktu_apart s1.heap.objs.size a b (Heap.lt_size ho1) (Heap.lt_size ho2)), ⟨hz', hTI, ⟨_, _, hTO⟩, h1, h2⟩, fresh5,
              hd (by rw [zipL_len]; exact Nat.le_trans (Nat.min_le_left _ _) (by rw [← ra.length]; exact hz)) _ H1 (Ex.refl _) (walkD_zpT hs hs' ra rb)⟩
          | _ => exact hd.elim
        | @str l ok =>
          cases rc with
          | @str l2 ok2 =>
            obtain ⟨t, rfl⟩ := rv
            obtain ⟨t2, rfl⟩ := ru
            have hd' : OkI X.K G W σ H1 R (ofO (if l.length ≤ 100000 then some (zipL (l.map fun c => D.str [c]) (l2.map fun c => .str [c])) else none)) := hd
            by_cases hl : l.length ≤ 100000
            · rw [if_pos hl] at hd'
              have wk : WalkD X.K G (ItZp (fun _ => True) (chV (S l).cps.toList) (chV (S l2).cps.toList)) (zipL (l.map fun c => D.str [c]) (l2.map fun c => .str [c])) H1 := by
                rw [S_cps, S_cps]
                exact walkD_zp (fun _ _ => trivial) (chV_rp ok) (chV_rp ok2)
              refine zip_begins2 (begins_text (S l) t) (begins_text (S l2) t2) trivial trivial fun h' hz' hTI hTO h1 h2 hsz hk => wpAny_pyIter_zip hz' ?_
              have I2 : Inv X pins σ H1 { s1 with heap := h' } := I1.kept (t' := s1.toks) hk
              exact ⟨s1.heap.objs.size + 4, [s1.heap.objs.size + 4, s1.heap.objs.size + 2, s1.heap.objs.size + 3, s1.heap.objs.size, s1.heap.objs.size + 1], _, _, H1, rfl, I2, turn_zpS (S l) (S l2) t t2 (zip_sep2 (N := s1.heap.objs.size) (fp1 := []) (fp2 := []) (by simp) (by simp)), ⟨hz', hTI, ⟨_, _, hTO⟩, ⟨_, h1, rfl, rfl⟩, ⟨_, h2, rfl, rfl⟩⟩, fresh5,
                hd' (by rw [zipL_len, List.length_map]; exact Nat.le_trans (Nat.min_le_left _ _) (Nat.le_trans hl size_big)) _ H1 (Ex.refl _) wk⟩
            · rw [if_neg hl] at hd'
              exact hd'.elim
          | _ => exact hd.elim
        | _ => exact hd.elim
def mRange1 (mr : MA) : MA := fun st => (mr st).bnd fun ds => match ds with
  | [.int n] => if -100000 ≤ n ∧ n ≤ 100000 then okR (rangeL 0 1 n.toNat) else none
  | _ => none
def mRange2 (mr : MA) : MA := fun st => (mr st).bnd fun ds => match ds with
  | [.int a, .int b] => if (-100000 ≤ a ∧ a ≤ 100000) ∧ (-100000 ≤ b ∧ b ≤ 100000) then okR (rangeL a 1 (b - a).toNat) else none
  | _ => none
/-- a step of -1 -/
def mRange3 (mr : MA) : MA := fun st => (mr st).bnd fun ds => match ds with
  | [.int a, .int b, .int c] => if ((-100000 ≤ a ∧ a ≤ 100000) ∧ (-100000 ≤ b ∧ b ≤ 100000)) ∧ c = -1 then okR (rangeL a (-1) (a - b).toNat) else none
  | _ => none
theorem rangeL_len (lo c : Int) (n : Nat) : (rangeL lo c n).length = n := by simp [rangeL]
theorem size_big2 : (200000 : Nat) ≤ sizeLine := by decide
theorem si_range1 {tg : Expr} (hg : Gl X "range") (hm : X.mg "range" = none) (ha : SA X G W [e] mr) (hs : starEach [e] X.env = [(false, eval e X.env)] := by rfl) : SI X G W tg (.Call (.Name "range" p) [e] [] pos) (mRange1 mr) :=
  pi_weak (pi_range1 hg hm ha hs) fun σ H R ⟨st, r, q⟩ => ⟨st, r, OkI.bndA q fun ds vs H1 e1 r1 h1 => by
    cases r1 with
    | nil => exact h1.elim
    | cons rv rr => cases rr with
      | cons _ _ => cases rv <;> exact h1.elim
      | nil => cases rv with
        | int n =>
          have h1' : OkI X.K G W σ H1 R (if -100000 ≤ n ∧ n ≤ 100000 then okR (rangeL 0 1 n.toNat) else none) := h1
          by_cases c : -100000 ≤ n ∧ n ≤ 100000
          · rw [if_pos c] at h1'
            exact ⟨n, rfl, by omega, by omega, h1' (by rw [rangeL_len]; exact Nat.le_trans (by omega) size_big) _ H1 (Ex.refl _) walkD_range⟩
          · rw [if_neg c] at h1'; exact h1'.elim
        | _ => exact h1.elim⟩
theorem si_range2 {tg : Expr} (hg : Gl X "range") (hm : X.mg "range" = none) (ha : SA X G W [e, e2] mr) (hs : starEach [e, e2] X.env = [(false, eval e X.env), (false, eval e2 X.env)] := by rfl) (hs2 : starEach [e2] X.env = [(false, eval e2 X.env)] := by rfl) : SI X G W tg (.Call (.Name "range" p) [e, e2] [] pos) (mRange2 mr) :=
  pi_weak (pi_range2 hg hm ha hs hs2) fun σ H R ⟨st, r, q⟩ => ⟨st, r, OkI.bndA q fun ds vs H1 e1 r1 h1 => by
    cases r1 with
    | nil => exact h1.elim
    | cons rv rr => cases rr with
      | nil => cases rv <;> exact h1.elim
      | cons ru rr => cases rr with
        | cons _ _ => cases rv <;> cases ru <;> exact h1.elim
        | nil => cases rv with
          | int a => cases ru with
            | int b =>
              have h1' : OkI X.K G W σ H1 R (if (-100000 ≤ a ∧ a ≤ 100000) ∧ (-100000 ≤ b ∧ b ≤ 100000) then okR (rangeL a 1 (b - a).toNat) else none) := h1
              by_cases c : (-100000 ≤ a ∧ a ≤ 100000) ∧ (-100000 ≤ b ∧ b ≤ 100000)
              · rw [if_pos c] at h1'
                exact ⟨a, b, rfl, by omega, h1' (by rw [rangeL_len]; exact Nat.le_trans (by omega) size_big2) _ H1 (Ex.refl _) walkD_range⟩
              · rw [if_neg c] at h1'; exact h1'.elim
            | _ => exact h1.elim
          | _ => exact h1.elim⟩
theorem si_range3 {tg e3 : Expr} (hg : Gl X "range") (hm : X.mg "range" = none) (ha : SA X G W [e, e2, e3] mr) (hs : starEach [e, e2, e3] X.env = (false, eval e X.env) :: starEach [e2, e3] X.env := by rfl) (hpl : (backTo pos (starEach [e2, e3] X.env)).any (·.1) = false := by rfl) :
    SI X G W tg (.Call (.Name "range" p) [e, e2, e3] [] pos) (mRange3 mr) :=
  pi_weak (pi_range3 hg hm ha hs hpl) fun σ H R ⟨st, r, q⟩ => ⟨st, r, OkI.bndA q fun ds vs H1 e1 r1 h1 => by
    have key : ∃ a b c, ds = [.int a, .int b, .int c] := by
      match ds, h1 with
      | [.int a, .int b, .int c], _ => exact ⟨a, b, c, rfl⟩
    obtain ⟨a, b, c, rfl⟩ := key
    cases r1 with
    | cons rv rr => cases rr with
      | cons ru rr => cases rr with
        | cons rw_ rr =>
          cases rr
          cases rv
          cases ru
          cases rw_
          have h1' : OkI X.K G W σ H1 R (if ((-100000 ≤ a ∧ a ≤ 100000) ∧ (-100000 ≤ b ∧ b ≤ 100000)) ∧ c = -1 then okR (rangeL a (-1) (a - b).toNat) else none) := h1
          by_cases q : ((-100000 ≤ a ∧ a ≤ 100000) ∧ (-100000 ≤ b ∧ b ≤ 100000)) ∧ c = -1
          · rw [if_pos q] at h1'
            obtain ⟨q1, rfl⟩ := q
            exact ⟨a, b, -1, (a - b).toNat, rfl, RgC.neg (by omega) (by omega) (by omega) (by omega), h1' (by rw [rangeL_len]; exact Nat.le_trans (by omega) size_big2) _ H1 (Ex.refl _) walkD_rangeC⟩
          · rw [if_neg q] at h1'; exact h1'.elim⟩
end
end Kp

namespace Kp
open PySem PySem.Spec PyProof.Rows L2
open Evl (Ex ex_l ex_t ex_rd)

/-! ### targets -/
inductive Tg where
  | one (i : Nat) | two (i j : Nat)
def Tg.put : Tg → D → PSt → Option PSt
  | .one i, d, st => some (st.set i (.sh d))
  | .two i j, .tup [a, b], st => some ((st.set i (.sh a)).set j (.sh b))
  | _, _, _ => none
def Tg.g (K : PySem.W.Frag) : Tg → TG
  | .one i => gName i
  | .two i j => gTup K 2 (gCons (gName i) (gCons (gName j) gNil))
def Tg.slots : Tg → List Nat
  | .one i => [i]
  | .two i j => [i, j]
section
variable {K : PySem.W.Frag} {G : Gv} {W : WX} {σ : L2.St} {H : Hp} {st : PSt}
theorem lookS_set {i k : Nat} {d e : D} (h : lookS (st.set i (.sh d)) k = some e) : (k = i ∧ e = d ∧ i < st.length) ∨ (k ≠ i ∧ lookS st k = some e) := by
  unfold lookS at h ⊢
  by_cases c : k = i
  · subst c
    by_cases l : k < st.length
    · rw [List.getElem?_set_self l] at h
      exact .inl ⟨rfl, (Option.some.inj h).symm, l⟩
    · rw [List.getElem?_eq_none (by simpa using l)] at h
      cases h
  · rw [List.getElem?_set_ne (fun z => c z.symm)] at h
    exact .inr ⟨c, h⟩
theorem RepE.set (r : RepE K G H σ st) {i : Nat} {v : V} {d : D} (h : Rp K G H v d) : RepE K G H (σ.set i (some v)) (st.set i (.sh d)) := by
  refine ⟨by rw [List.length_set, List.length_set, r.1], fun k e q => ?_⟩
  rcases lookS_set q with ⟨rfl, rfl, l⟩ | ⟨c, q⟩
  · exact ⟨v, List.getElem?_set_self (by rw [r.1]; exact l), h⟩
  · obtain ⟨u, h1, h2⟩ := r.2 k e q
    exact ⟨u, by rw [List.getElem?_set_ne (fun z => c z.symm)]; exact h1, h2⟩
theorem wipe_set {i : Nat} {v : Option V} : ∀ {vs : List Nat}, i ∈ vs → ∀ σ : L2.St, wipe (σ.set i v) vs = wipe σ vs
  | [], h, _ => nomatch h
  | j :: vs, h, σ => by
    unfold wipe
    by_cases c : i ∈ vs
    · rw [wipe_set c σ]
    · have e : i = j := by
        rcases List.mem_cons.mp h with e | e
        · exact e
        · exact absurd e c
      subst e
      have hw : ∀ (ws : List Nat), i ∉ ws → wipe (σ.set i v) ws = (wipe σ ws).set i v := fun ws => by
        induction ws with
        | nil => intro _; rfl
        | cons k ws ih =>
          intro hn
          unfold wipe
          rw [ih (fun z => hn (List.mem_cons_of_mem _ z)), List.set_comm _ _ (fun z => hn (by rw [z]; exact List.mem_cons_self ..))]
      rw [hw vs c, List.set_set]
theorem wipe_in : ∀ {us vs : List Nat}, (∀ i ∈ us, i ∈ vs) → ∀ σ : L2.St, wipe (wipe σ us) vs = wipe σ vs
  | [], _, _, _ => rfl
  | u :: us, vs, h, σ => by
    show wipe ((wipe σ us).set u none) vs = wipe σ vs
    rw [wipe_set (h u (List.mem_cons_self ..)), wipe_in fun i hi => h i (List.mem_cons_of_mem _ hi)]
/-- putting into a target: told of the heap H0, run over a wider one -/
theorem Tg.run (t : Tg) {H0 : Hp} {v : V} {d : D} {st' : PSt} {Q : L2.St → Hp → Prop} (e : Ex H0 H) (r : RepE K G H0 σ st) (h : Rp K G H0 v d) (p : t.put d st = some st')
    (k : ∀ σ', RepE K G H0 σ' st' → (∀ vs : List Nat, (∀ i ∈ t.slots, i ∈ vs) → wipe σ' vs = wipe σ vs) → Q σ' H) : t.g K v σ H Q := by
  cases t with
  | one i =>
    cases (Option.some.inj p)
    exact k _ (r.set h) fun vs hv => wipe_set (hv i (List.mem_cons_self ..)) σ
  | two i j =>
    match d, p, h with
    | .tup [a, b], p, .tup (a := ad) (xs := xs) hs ra =>
      cases (Option.some.inj p)
      cases ra with
      | cons r1 rr => cases rr with
        | cons r2 rr =>
          cases rr
          exact ⟨ad, _, rfl, ex_t e hs, rfl, _, _, rfl, _, _, rfl, rfl, k _ ((r.set r1).set r2) fun vs hv => by
            rw [wipe_set (hv j (by simp [Tg.slots])), wipe_set (hv i (by simp [Tg.slots]))]⟩
end

/-! ### list comprehensions -/
def noE {α : Type} : Rs α → Rs α
  | some (.ok a) => some (.ok a)
  | _ => none
@[simp] theorem noE_ok {α : Type} (a : α) : noE (some (.ok a)) = some (.ok a) := rfl
@[simp] theorem noE_okR {α : Type} (a : α) : noE (okR a) = okR a := rfl
def lcGo (t : Tg) (mt : MB) (me : M) (st : PSt) : List D → Rs (List D)
  | [] => okR []
  | d :: ds => match t.put d st with
    | none => none
    | some st2 => (noE (mt st2)).bnd fun b => if b = true then (noE (me st2)).bnd fun x => (lcGo t mt me st ds).bnd fun r => okR (x :: r) else lcGo t mt me st ds
def wipeS (st : PSt) : List Nat → PSt
  | [] => st
  | v :: vs => (wipeS st vs).set v .un
def mLc (src : MA) (t : Tg) (mt : MB) (me : M) (vs : List Nat) : M := fun st => (src st).bnd fun ds => (lcGo t mt me (wipeS st vs) ds).bnd fun es => okR (.lst es)
def mYes : MB := fun _ => okR true
abbrev W0 : WX := fun _ _ _ _ => False
section
variable {K : PySem.W.Frag} {G : Gv} {W : WX} {σ : L2.St} {H : Hp} {st : PSt}
theorem lookS_un {i k : Nat} {e : D} (h : lookS (st.set i .un) k = some e) : k ≠ i ∧ lookS st k = some e := by
  unfold lookS at h ⊢
  by_cases c : k = i
  · subst c
    by_cases l : k < st.length
    · rw [List.getElem?_set_self l] at h
      cases h
    · rw [List.getElem?_eq_none (by simpa using l)] at h
      cases h
  · rw [List.getElem?_set_ne (fun z => c z.symm)] at h
    exact ⟨c, h⟩
theorem RepE.wipe (r : RepE K G H σ st) : ∀ vs : List Nat, RepE K G H (wipe σ vs) (wipeS st vs)
  | [] => r
  | v :: vs => by
    have q := r.wipe vs
    unfold L2.wipe wipeS
    refine ⟨by rw [List.length_set, List.length_set, q.1], fun k e h => ?_⟩
    obtain ⟨c, h⟩ := lookS_un h
    obtain ⟨u, h1, h2⟩ := q.2 k e h
    exact ⟨u, by rw [List.getElem?_set_ne (fun z => c z.symm)]; exact h1, h2⟩
theorem lcGo_noerr {t : Tg} {mt : MB} {me : M} : ∀ (ds : List D) (c : Cl), lcGo t mt me st ds ≠ some (.error c)
  | [], c, h => nomatch h
  | d :: ds, c, h => by
    unfold lcGo at h
    split at h
    · cases h
    · rename_i st2 _
      cases e1 : mt st2 with
      | none => rw [e1] at h; cases h
      | some x => cases x with
        | error c' => rw [e1] at h; cases h
        | ok b =>
          rw [e1] at h
          cases b with
          | false => exact lcGo_noerr ds c h
          | true =>
            cases e2 : me st2 with
            | none => rw [e2] at h; cases h
            | some y => cases y with
              | error c' => rw [e2] at h; cases h
              | ok a =>
                rw [e2] at h
                cases e3 : lcGo t mt me st ds with
                | none => rw [show Rs.bnd (noE (some (Except.ok true))) _ = _ from rfl] at h; simp [e3] at h
                | some z => cases z with
                  | error c' => exact lcGo_noerr ds c' e3
                  | ok l => simp [e3, okR] at h
/-- one turn of it -/
theorem lcGo_cons {t : Tg} {mt : MB} {me : M} {d : D} {ds es : List D} (h : lcGo t mt me st (d :: ds) = okR es) :
    ∃ st2, t.put d st = some st2 ∧ ((mt st2 = okR false ∧ lcGo t mt me st ds = okR es) ∨ (mt st2 = okR true ∧ ∃ x r, me st2 = okR x ∧ lcGo t mt me st ds = okR r ∧ es = x :: r)) := by
  unfold lcGo at h
  split at h
  · cases h
  · rename_i st2 hp
    refine ⟨st2, hp, ?_⟩
    cases e1 : mt st2 with
    | none => rw [e1] at h; cases h
    | some x => cases x with
      | error c' => rw [e1] at h; cases h
      | ok b =>
        rw [e1] at h
        cases b with
        | false => exact .inl ⟨rfl, h⟩
        | true =>
          cases e2 : me st2 with
          | none => rw [e2] at h; cases h
          | some y => cases y with
            | error c' => rw [e2] at h; cases h
            | ok a =>
              rw [e2] at h
              cases e3 : lcGo t mt me st ds with
              | none => simp [e3, okR] at h
              | some z => cases z with
                | error c' => simp [e3, okR] at h
                | ok l =>
                  simp [e3, okR] at h
                  exact .inr ⟨rfl, a, l, rfl, rfl, h.symm⟩
theorem hid_ex {H H' : Hp} {O : List Addr} (e : Ex H H') : Ex (hid H O) (hid H' O) := fun a o h => by
  obtain ⟨na, ha⟩ := hid_some h
  rw [hid_out na]
  exact e _ _ ha
theorem yd_rp {B H H' : Hp} {ds : List D} {i : Nat} {x : V} {O : List Addr} (y : YD K G B ds i H x H') (e : Ex B (hid H O)) (hO : OwnsM H O) : ∃ d, ds[i]? = some d ∧ Ex H H' ∧ Ex (hid H O) (hid H' O) ∧ Rp K G (hid H' O) x d := by
  obtain ⟨d, hd, y⟩ := y
  refine ⟨d, hd, ?_⟩
  rcases y with ⟨rfl, r⟩ | ⟨T, vs, es, rfl, hn, rfl, rfl, r⟩
  · exact ⟨Ex.refl _, Ex.refl _, r.mono e⟩
  · have e1 : Ex H (upd H T (.tup vs)) := ex_new hn
    have hT : T ∉ O := fun z => by
      obtain ⟨o, q, _⟩ := hO T z
      rw [hn] at q
      cases q
    exact ⟨e1, hid_ex e1, rp_tup (by rw [hid_out hT]; exact upd_same) (r.mono (e.trans (hid_ex e1)))⟩
theorem OkI.ofR {Q : VK} {R : It → Hp → Prop} {x : Rs (List D)} {f : List D → Rs D} (h : OkR K G W σ H Q (x.bnd f)) (k : ∀ ds J H1, ds.length ≤ sizeLine → Ex H H1 → WalkD K G J ds H1 → OkR K G W σ H1 Q (f ds) → R J H1) : OkI K G W σ H R x := by
  cases x with
  | none => exact h
  | some r => cases r with
    | ok d => exact fun z J H' e w => k d J H' z e w (OkR.mono (r := f d) h e)
    | error c => exact h
theorem tE_lc {src : MA} {t : Tg} {mt : MB} {me : M} {vs : List Nat} (hv : ∀ i ∈ t.slots, i ∈ vs) (σ : L2.St) (H : Hp) (Q : VK) (h : tE K G W (mLc src t mt me vs) σ H Q) :
    tLc (tIt K G W src) (t.g K) (tTs K G W0 mt) (tHid (tE K G W0 me)) vs σ H Q := by
  obtain ⟨st, r, h⟩ := h
  refine ⟨st, r, OkI.ofR h fun ds J B hz eB wk h1 Dl hD => ?_⟩
  have hgo : ∃ es, lcGo t mt me (wipeS st vs) ds = okR es := by
    cases e : lcGo t mt me (wipeS st vs) ds with
    | none => rw [e] at h1; exact h1.elim
    | some z => cases z with
      | error c => exact absurd e (lcGo_noerr ds c)
      | ok es => exact ⟨es, rfl⟩
  obtain ⟨es, hgo⟩ := hgo
  rw [hgo] at h1
  have rw0 : RepE K G B (wipe σ vs) (wipeS st vs) := (r.mono eB).wipe vs
  have hB0 : ∀ o, hid (upd B Dl o) [Dl] = B := fun o => by
    funext a
    by_cases c : a = Dl
    · subst c; rw [hid_in (List.mem_cons_self ..), hD]
    · rw [hid_out (by simpa using c), upd_ne c]
  refine lc_it wk (fun i H' => ∃ acc ea er, H' Dl = some (.lst acc) ∧ RpAll K G (hid H' [Dl]) acc ea ∧ lcGo t mt me (wipeS st vs) (ds.drop i) = okR er ∧ es = ea ++ er ∧ acc.length ≤ i ∧ Ex B (hid H' [Dl]))
    ⟨[], [], es, upd_same, .nil, hgo, rfl, Nat.le_refl _, by rw [hB0]; exact Ex.refl _⟩ (fun i H' hi ⟨_, _, _, _, _, _, _, _, e⟩ => e.trans ex_hid) (fun i x H1 H2 hi hP y => ?_) fun H' hP => ?_
  · obtain ⟨acc, ea, er, hacc, racc, hgo', hes, hla, hex⟩ := hP
    have own1 : OwnsM H1 [Dl] := fun p hp => by
      have e : p = Dl := by simpa using hp
      subst e
      exact ⟨_, hacc, rfl⟩
    obtain ⟨d, hd, e12, h12, rx⟩ := yd_rp y hex own1
    have hdrop : ds.drop i = d :: ds.drop (i + 1) := by
      obtain ⟨hlt, e⟩ := List.getElem?_eq_some_iff.mp hd
      rw [List.drop_eq_getElem_cons hlt, e]
    rw [hdrop] at hgo'
    obtain ⟨st2, hput, hcase⟩ := lcGo_cons hgo'
    have exB2 : Ex B (hid H2 [Dl]) := hex.trans h12
    refine t.run (H0 := hid H2 [Dl]) ex_hid (rw0.mono exB2) rx hput fun σ2 r2 hw => ⟨by rw [hw vs hv, wipe_in fun i hi => hi], ?_⟩
    rcases hcase with ⟨hb, hr⟩ | ⟨hb, x', rr, hx', hr, hes'⟩
    · refine ⟨st2, r2.mono ex_hid, ?_⟩
      rw [hb]
      intro H3 e23
      rw [if_neg Bool.false_ne_true]
      exact ⟨acc, ea, er, e23 _ _ (e12 _ _ hacc), racc.mono (h12.trans (hid_ex e23)), hr, hes, Nat.le_succ_of_le hla, exB2.trans (hid_ex e23)⟩
    · refine ⟨st2, r2.mono ex_hid, ?_⟩
      rw [hb]
      intro H3 e23
      rw [if_pos rfl]
      have hacc3 : H3 Dl = some (.lst acc) := e23 _ _ (e12 _ _ hacc)
      refine ⟨[Dl], fun p hp => ?_, st2, r2.mono (hid_ex e23), ?_⟩
      · have e : p = Dl := by simpa using hp
        subst e
        exact ⟨_, hacc3, rfl⟩
      · rw [hx']
        intro v H5 e5 rv
        refine ⟨e5, fun hn => ?_⟩
        have hn5 : H5 Dl = none := hn Dl (List.mem_cons_self ..)
        refine ⟨acc, by rw [mrg_in (List.mem_cons_self ..)]; exact hacc3, Nat.lt_of_le_of_lt hla (Nat.lt_of_lt_of_le hi hz), acc ++ [v], ea ++ [x'], rr, upd_same, ?_, hr, ?_, ?_, ?_⟩
        · have eh : hid (upd (mrg H5 H3 [Dl]) Dl (.lst (acc ++ [v]))) [Dl] = H5 := by
            funext a
            by_cases c : a = Dl
            · subst c; rw [hid_in (List.mem_cons_self ..), hn5]
            · rw [hid_out (by simpa using c), upd_ne c, mrg_out (by simpa using c)]
          rw [eh]
          exact (racc.mono ((h12.trans (hid_ex e23)).trans e5)).append (.cons rv .nil)
        · rw [hes, hes', List.append_assoc]; rfl
        · rw [List.length_append]; exact Nat.succ_le_succ hla
        · have eh : hid (upd (mrg H5 H3 [Dl]) Dl (.lst (acc ++ [v]))) [Dl] = H5 := by
            funext a
            by_cases c : a = Dl
            · subst c; rw [hid_in (List.mem_cons_self ..), hn5]
            · rw [hid_out (by simpa using c), upd_ne c, mrg_out (by simpa using c)]
          rw [eh]
          exact (exB2.trans (hid_ex e23)).trans e5
  · obtain ⟨acc, ea, er, hacc, racc, hgo', hes, hla, hex⟩ := hP
    rw [List.drop_length] at hgo'
    have e : ([] : List D) = er := Except.ok.inj (Option.some.inj hgo')
    subst e
    rw [List.append_nil] at hes
    subst hes
    exact h1 _ H' (hex.trans ex_hid) (rp_lst hacc (racc.mono ex_hid))
end
end Kp

namespace Kp
open PySem PySem.Spec PyProof.Rows L2
open Evl (Ex ex_l ex_t ex_rd)

section
variable {X : Cx} {G : Gv} {W : WX}
/-! ### comprehensions as expressions -/
theorem pts_weak {ifs : List Expr} {t t' : TT} (h : PTs X ifs t) (k : ∀ σ H Q, t' σ H Q → t σ H Q) : PTs X ifs t' := ⟨fun pins s σ H Q I q => h.run pins s σ H Q I (k σ H Q q)⟩
theorem st_nil {K : PySem.W.Frag} : PTs X [] (tTs K G W mYes) := pts_weak pts_nil fun σ H Q ⟨st, r, h⟩ => h H (Ex.refl _)
theorem sg_one (i : Nat) {x : Str} {pos : Pos} {K : PySem.W.Frag} (hN : X.N.Nodup) (hi : X.N[i]? = some x := by rfl) (hx : Loc X.env.scope x := by first | exact Or.inl rfl | exact Or.inr rfl) (hf : X.fn x = true ∨ X.env.scope.names.lookup x = some .local := by first | exact .inl rfl | exact .inr rfl | assumption) : PG X (.Name x pos) ((Tg.one i).g K) := pg_name hN hi hx hf
theorem sg_two (i j : Nat) {x y : Str} {k : Nat} {pos px py : Pos} {K : PySem.W.Frag} (hK : X.K = K) (hc : X.calm = true) (hN : X.N.Nodup) (hi : X.N[i]? = some x := by rfl) (hj : X.N[j]? = some y := by rfl) (hx : Loc X.env.scope x := by first | exact Or.inl rfl | exact Or.inr rfl) (hy : Loc X.env.scope y := by first | exact Or.inl rfl | exact Or.inr rfl)
    (hf : X.fn x = true ∨ X.env.scope.names.lookup x = some .local := by first | exact .inl rfl | exact .inr rfl | assumption) (hf2 : X.fn y = true ∨ X.env.scope.names.lookup y = some .local := by first | exact .inl rfl | exact .inr rfl | assumption) :
    PG X (.Tuple [.Name x px, .Name y py] k pos) ((Tg.two i j).g K) := by
  subst hK
  exact pg_tup hc (pgs_cons (pg_name hN hi hx hf) (pgs_cons (pg_name hN hj hy hf2) pgs_nil))
theorem se_lc {elt tg iter : Expr} {ifs : List Expr} {scope : Scope} {own : List (Str × Nat)} {pos : Pos} {src : MA} {t : Tg} {mt : MB} {me : M} (hc : X.calm = true) (hN : X.N.Nodup) (hi : SI X G W tg iter src) (ok : BlkOk X.N X.env.scope scope own)
    (hg : ∀ (s : Shared) (H : Hp) (C : Addr) (cl : List (Str × Addr)) (fp : List Addr), PG (X.blk s H scope (compEnvC scope cl C X.env) fp) tg (t.g X.K))
    (ht : ∀ (s : Shared) (H : Hp) (C : Addr) (cl : List (Str × Addr)) (fp : List Addr), PTs (X.blk s H scope (compEnvC scope cl C X.env) fp) ifs (tTs X.K G W0 mt))
    (he : ∀ (s : Shared) (H : Hp) (C : Addr) (cl : List (Str × Addr)) (fp : List Addr), PE (X.blk s H scope (compEnvC scope cl C X.env) fp) elt (tE X.K G W0 me))
    (hv : ∀ i ∈ t.slots, i ∈ own.map (·.2) := by decide) (hs : ∀ x, foldedSetIterable iter X.env x = pure x := by intro _; rfl) :
    SE X G W (.ListComp elt [⟨tg, iter, ifs, 0⟩] scope pos) (mLc src t mt me (own.map (·.2))) :=
  pe_weak (pe_lc hc hN hi ok hg ht (fun s H C cl fp => pe_hide (he s H C cl fp)) hs) fun σ H Q h => tE_lc hv σ H Q h

/-! ### states of a body -/
/-- an object that is owned -/
inductive RpO (K : PySem.W.Frag) (G : Gv) (H : Hp) : HO → D → Prop
  | lst {xs : List V} {ds : List D} : RpAll K G H xs ds → RpO K G H (.lst xs) (.lst ds)
  | dK {kvs : List (Key × V)} {es : List (D × D)} : RpKv K G H kvs es → RpO K G H (.dK kvs) (.dct es)
  | dT {kvs : List (List Key × V)} {es : List (D × D)} : RpTv K G H kvs es → RpO K G H (.dT kvs) (.dct es)
variable {K : PySem.W.Frag} {σ : L2.St} {H H' : Hp} {B : Hp} {O O' : List Addr} {st : PSt}
theorem RpO.mono {o : HO} {d : D} (e : Ex H H') (h : RpO K G H o d) : RpO K G H' o d := by
  cases h with
  | lst r => exact .lst (r.mono e)
  | dK r => exact .dK (r.mono e)
  | dT r => exact .dT (r.mono e)
theorem RpO.mut {o : HO} {d : D} (h : RpO K G H o d) : MutO o = true := by cases h <;> rfl
theorem RpO.rp {o : HO} {d : D} {p : Addr} (h : RpO K G H' o d) (e : Ex H' H) (hp : H p = some o) : Rp K G H (.ref p) d := by
  cases h with
  | lst r => exact rp_lst hp (r.mono e)
  | dK r => exact .dK hp (r.mono e)
  | dT r => exact .dT hp (r.mono e)
structure RepS (K : PySem.W.Frag) (G : Gv) (B : Hp) (O : List Addr) (σ : L2.St) (H : Hp) (st : PSt) : Prop where
  len : σ.length = st.length
  ex : Ex B H
  own : OwnsM H O
  fresh : ∀ p ∈ O, B p = none
  sh : ∀ (i : Nat) (d : D), st[i]? = some (Sl.sh d) → ∃ v, σ[i]? = some (some v) ∧ Rp K G (hid H O) v d
  ow : ∀ (i : Nat) (d : D), st[i]? = some (Sl.ow d) → ∃ (p : Addr) (o : HO), σ[i]? = some (some (V.ref p)) ∧ p ∈ O ∧ H p = some o ∧ RpO K G (hid H O) o d
  ne : ∀ (i j : Nat) (d e : D), st[i]? = some (Sl.ow d) → st[j]? = some (Sl.ow e) → σ[i]? = σ[j]? → i = j
theorem RepS.repE (r : RepS K G B O σ H st) : RepE K G H σ st := ⟨r.len, fun i d h => by
  unfold lookS at h
  cases e : st[i]? with
  | none => rw [e] at h; cases h
  | some x =>
    rw [e] at h
    cases x with
    | un => cases h
    | sh d' =>
      cases (Option.some.inj h)
      obtain ⟨v, h1, h2⟩ := r.sh i d e
      exact ⟨v, h1, h2.mono ex_hid⟩
    | ow d' =>
      cases (Option.some.inj h)
      obtain ⟨p, o, h1, _, h3, h4⟩ := r.ow i d e
      exact ⟨_, h1, h4.rp ex_hid h3⟩⟩
/-- the owned slots out of sight -/
def hidS (st : PSt) : PSt := st.map fun x => match x with
  | .ow _ => .un
  | x => x
theorem RepS.repH (r : RepS K G B O σ H st) : RepE K G (hid H O) σ (hidS st) := ⟨by rw [r.len]; simp [hidS], fun i d h => by
  unfold lookS hidS at h
  rw [List.getElem?_map] at h
  cases e : st[i]? with
  | none => rw [e] at h; cases h
  | some x =>
    rw [e] at h
    cases x with
    | un => cases h
    | sh d' =>
      cases (Option.some.inj h)
      exact r.sh i d e
    | ow d' => cases h⟩
theorem RepS.exB (r : RepS K G B O σ H st) : Ex B (hid H O) := fun a o h => by
  have hn : a ∉ O := fun z => by
    have q := r.fresh a z
    rw [h] at q
    cases q
  rw [hid_out hn]
  exact r.ex _ _ h
/-- a step: what stands stays, what is owned is as it was, more may be owned -/
structure Stp (H : Hp) (O : List Addr) (H' : Hp) (O' : List Addr) : Prop where
  sub : ∀ p ∈ O, p ∈ O'
  hx : Ex (hid H O) (hid H' O')
  keep : ∀ p ∈ O, H' p = H p
  new : ∀ p ∈ O', p ∉ O → H p = none
  own : OwnsM H' O'
theorem RepS.step (r : RepS K G B O σ H st) (s : Stp H O H' O') : RepS K G B O' σ H' st where
  len := r.len
  ex := fun a o h => ex_hid _ _ (s.hx _ _ (r.exB _ _ h))
  own := s.own
  fresh := fun p hp => by
    by_cases c : p ∈ O
    · exact r.fresh p c
    · cases e : B p with
      | none => rfl
      | some o =>
        have q := r.ex _ _ e
        rw [s.new p hp c] at q
        cases q
  sh := fun i d h => by
    obtain ⟨v, h1, h2⟩ := r.sh i d h
    exact ⟨v, h1, h2.mono s.hx⟩
  ow := fun i d h => by
    obtain ⟨p, o, h1, h2, h3, h4⟩ := r.ow i d h
    exact ⟨p, o, h1, s.sub p h2, by rw [s.keep p h2]; exact h3, h4.mono s.hx⟩
  ne := r.ne
theorem Stp.refl (h : OwnsM H O) : Stp H O H O := ⟨fun _ h => h, Ex.refl _, fun _ _ => rfl, fun _ h n => absurd h n, h⟩
theorem Stp.ex (h : OwnsM H O) (e : Ex H H') : Stp H O H' O := ⟨fun _ h => h, hid_ex e, fun p hp => by
  obtain ⟨o, q, _⟩ := h p hp
  rw [q]
  exact e _ _ q, fun _ h n => absurd h n, fun p hp => by
  obtain ⟨o, q, m⟩ := h p hp
  exact ⟨o, e _ _ q, m⟩⟩
theorem Stp.trans {H2 : Hp} {O2 : List Addr} (s : Stp H O H' O') (t : Stp H' O' H2 O2) : Stp H O H2 O2 where
  sub := fun p hp => t.sub p (s.sub p hp)
  hx := s.hx.trans t.hx
  keep := fun p hp => (t.keep p (s.sub p hp)).trans (s.keep p hp)
  new := fun p hp n => by
    by_cases c : p ∈ O'
    · exact s.new p c n
    · cases e : H p with
      | none => rfl
      | some o =>
        have q := s.hx p o (by rw [hid_out n]; exact e)
        have q2 := t.new p hp c
        rw [ex_hid _ _ q] at q2
        cases q2
  own := t.own
/-- hidden evaluation is a step -/
theorem Stp.mrg {H1 : Hp} (h : OwnsM H O) (e : Ex (hid H O) H1) (n : ∀ p ∈ O, H1 p = none) : Stp H O (mrg H1 H O) O ∧ hid (Kp.mrg H1 H O) O = H1 := by
  have eq : hid (Kp.mrg H1 H O) O = H1 := by
    funext a
    by_cases c : a ∈ O
    · rw [hid_in c, n a c]
    · rw [hid_out c, mrg_out c]
  exact ⟨⟨fun _ h => h, by rw [eq]; exact e, fun p hp => mrg_in hp, fun _ h n => absurd h n, fun p hp => by
    obtain ⟨o, q, m⟩ := h p hp
    exact ⟨o, by rw [mrg_in hp]; exact q, m⟩⟩, eq⟩
/-- a new owned object -/
theorem Stp.cons {p : Addr} {o : HO} (h : OwnsM H O) (hp : H p = none) (m : MutO o = true) : Stp H O (upd H p o) (p :: O) where
  sub := fun q hq => List.mem_cons_of_mem _ hq
  hx := fun a u e => by
    obtain ⟨na, ha⟩ := hid_some e
    have hne : a ≠ p := fun z => by
      rw [z, hp] at ha
      cases ha
    rw [hid_out (fun z => by
      rcases List.mem_cons.mp z with z | z
      · exact hne z
      · exact na z), upd_ne hne]
    exact ha
  keep := fun q hq => upd_ne fun z => by
    obtain ⟨u, e, _⟩ := h q hq
    rw [z, hp] at e
    cases e
  new := fun q hq n => by
    rcases List.mem_cons.mp hq with z | z
    · rw [z]; exact hp
    · exact absurd z n
  own := fun q hq => by
    rcases List.mem_cons.mp hq with z | z
    · rw [z]; exact ⟨o, upd_same, m⟩
    · obtain ⟨u, e, mu⟩ := h q z
      exact ⟨u, by rw [upd_ne fun w => by rw [w, hp] at e; cases e]; exact e, mu⟩

/-! ### immutable data -/
mutual
def imm : D → Bool
  | .non => true
  | .bl _ => true
  | .int _ => true
  | .str _ => true
  | .fn _ => true
  | .ty _ => true
  | .tup l => immAll l
  | .lst _ => false
  | .dct _ => false
  | .scr _ => false
  | .exn _ => true
  | .cls _ => true
def immAll : List D → Bool
  | [] => true
  | d :: ds => imm d && immAll ds
end
mutual
theorem Rp.clean (m : OwnsM H O) : ∀ {v : V} {d : D}, Rp K G H v d → imm d = true → Rp K G (hid H O) v d
  | _, _, .non, _ => .non
  | _, _, .bl b, _ => .bl b
  | _, _, .int i, _ => .int i
  | _, _, .str h, _ => .str h
  | _, _, .fn h, _ => .fn h
  | _, _, .ty n, _ => .ty n
  | _, _, .exn h, _ => .exn h
  | _, _, .cls c, _ => .cls c
  | _, _, .tup h r, i => by
    refine .tup ?_ (RpAll.clean m r (by simpa [imm] using i))
    rcases h with h | h
    · rcases h with h | ⟨o, h⟩
      · exact .inl (.inl (by rw [hid_out (m.no h rfl)]; exact h))
      · exact .inl (.inr ⟨o, by rw [hid_out (m.no h rfl)]; exact h⟩)
    · exact .inr h
  | _, _, .lst _ _, i => by simp [imm] at i
  | _, _, .dK _ _, i => by simp [imm] at i
  | _, _, .dT _ _, i => by simp [imm] at i
  | _, _, .scr _, i => by simp [imm] at i
theorem RpAll.clean (m : OwnsM H O) : ∀ {vs : List V} {ds : List D}, RpAll K G H vs ds → immAll ds = true → RpAll K G (hid H O) vs ds
  | _, _, .nil, _ => .nil
  | _, _, .cons h r, i => by
    have i' := i
    simp only [immAll, Bool.and_eq_true] at i'
    exact .cons (Rp.clean m h i'.1) (RpAll.clean m r i'.2)
end

/-! ### what is stored -/
abbrev MV := PSt → Rs Sl
/-- v is such a thing, over the owned O' -/
def ValIn (K : PySem.W.Frag) (G : Gv) (O : List Addr) (H' : Hp) (O' : List Addr) (v : V) : Sl → Prop
  | .un => True
  | .sh d => Rp K G (hid H' O') v d
  | .ow d => ∃ p o, v = .ref p ∧ p ∈ O' ∧ p ∉ O ∧ H' p = some o ∧ RpO K G (hid H' O') o d
def OkV (K : PySem.W.Frag) (G : Gv) (W : WX) (B : Hp) (O : List Addr) (H : Hp) (Q : VK) : Rs Sl → Prop
  | some (.ok x) => ∀ v H' O', Stp H O H' O' → ValIn K G O H' O' v x → Q v H'
  | some (.error c) => ∀ σ' H', Ex B H' → W (.ref (G.cl c)) none σ' H'
  | none => False
def tV (K : PySem.W.Frag) (G : Gv) (W : WX) (m : MV) : TE := fun σ H Q => ∃ B O st, RepS K G B O σ H st ∧ OkV K G W B O H Q (m st)
abbrev SV (X : Cx) (G : Gv) (W : WX) (e : Expr) (m : MV) : Prop := PE X e (tV X.K G W m)
/-- data, shared from then on: not changeable, or reckoned without what is owned -/
def mSh (m : M) : MV := fun st => (m st).bnd fun d => if imm d = true then okR (.sh d) else (m (hidS st)).bnd fun d' => okR (.sh d')
theorem pe_or {e : Expr} {t u : TE} (h : PE X e t) (k : PE X e u) : PE X e (fun σ H Q => t σ H Q ∨ u σ H Q) := ⟨fun pins s σ H Q I q => q.elim (fun q => h.run pins s σ H Q I q) (fun q => k.run pins s σ H Q I q)⟩
theorem tV_sh {m : M} (σ : L2.St) (H : Hp) (Q : VK) (h : tV K G W (mSh m) σ H Q) : tE K G W m σ H Q ∨ tHid (tE K G W m) σ H Q := by
  obtain ⟨B, O, st, r, h⟩ := h
  cases e : m st with
  | none => unfold mSh at h; rw [e] at h; exact h.elim
  | some x => cases x with
    | error c =>
      unfold mSh at h
      rw [e] at h
      refine .inl ⟨st, r.repE, ?_⟩
      rw [e]
      exact fun H' e' => h σ H' (r.ex.trans e')
    | ok d =>
      by_cases i : imm d = true
      · refine .inl ⟨st, r.repE, ?_⟩
        unfold mSh at h
        rw [e, bnd_ok, if_pos i] at h
        rw [e]
        exact fun v H' e' rv => h v H' O (Stp.ex r.own e') (Rp.clean (Stp.ex r.own e').own rv i)
      · refine .inr ⟨O, r.own, hidS st, r.repH, ?_⟩
        unfold mSh at h
        rw [e, bnd_ok, if_neg i] at h
        cases e2 : m (hidS st) with
        | none => rw [e2] at h; exact h.elim
        | some y => cases y with
          | error c =>
            rw [e2] at h
            exact fun H' e' => h σ H' (r.exB.trans e')
          | ok d' =>
            rw [e2] at h
            intro v H1 e1 rv
            refine ⟨e1, fun n => ?_⟩
            obtain ⟨s, eq⟩ := Stp.mrg r.own e1 n
            exact h v _ O s (by show Rp K G (hid (mrg H1 H O) O) v d'; rw [eq]; exact rv)
theorem sv_sh {e : Expr} {m : M} (h : SE X G W e m) : SV X G W e (mSh m) := pe_weak (pe_or h (pe_hide h)) fun σ H Q q => tV_sh σ H Q q
/-- a new list by a display, owned -/
def mOwn (m : M) : MV := fun st => (m (hidS st)).bnd fun d => okR (.ow d)
end
end Kp

namespace Kp
open PySem PySem.Spec PyProof.Rows L2
open Evl (Ex ex_l ex_t ex_rd)

section
variable {X : Cx} {G : Gv} {W : WX} {K : PySem.W.Frag} {σ : L2.St} {H H' : Hp} {B : Hp} {O O' : List Addr} {st : PSt}
/-! ### arguments with what is owned out of sight -/
def tHidA (t : TA) : TA := fun σ H Q => ∃ O : List Addr, OwnsM H O ∧ t σ (hid H O) fun v H1 => Ex (hid H O) H1 ∧ ((∀ p ∈ O, H1 p = none) → Q v (mrg H1 H O))
theorem pa_hide {es : List Expr} {t : TA} (h : PA X es t) : PA X es (tHidA t) := by
  refine ⟨fun pos pins s σ H Q I hq => ?_⟩
  obtain ⟨O, m, ht⟩ := hq
  refine thn (h.run pos _ s σ _ _ (inv_hide I m) ht) fun u s1 ⟨v, H1, I1, r, x, q⟩ => ?_
  obtain ⟨pn, I2⟩ := inv_unhide I m I1 x
  exact ⟨v, _, I2, r, q pn⟩
/-- [e, ..] as a list of one's own -/
def mOwnL (mr : MA) : MV := fun st => (mr (hidS st)).bnd fun ds => okR (.ow (.lst ds))
def mOwnD : MV := fun _ => okR (.ow (.dct []))
theorem own_new {p : Addr} {o : HO} {d : D} {H1 : Hp} (s : Stp H O H1 O) (hp : H1 p = none) (r : RpO K G (hid H1 O) o d) : Stp H O (upd H1 p o) (p :: O) ∧ ValIn K G O (upd H1 p o) (p :: O) (.ref p) (.ow d) := by
  have c := Stp.cons s.own hp r.mut
  refine ⟨s.trans c, p, o, rfl, List.mem_cons_self .., fun z => ?_, upd_same, r.mono c.hx⟩
  obtain ⟨u, e, _⟩ := s.own p (s.sub p z)
  rw [hp] at e
  cases e
theorem sv_lst {es : List Expr} {mr : MA} {pos : Pos} {n : Nat} (h : SA X G W es mr) (hl : LenA mr n) (hn : n ≤ 1000 := by decide) : SV X G W (.List es pos) (mOwnL mr) := by
  refine pe_weak (pe_lst (pa_hide h)) fun σ H Q ⟨B, O, st, r, q⟩ => ?_
  refine ⟨O, r.own, hidS st, r.repH, ?_⟩
  unfold mOwnL at q
  cases e : mr (hidS st) with
  | none => rw [e] at q; exact q.elim
  | some x => cases x with
    | error c => rw [e] at q; exact fun H' e' => q σ H' (r.exB.trans e')
    | ok ds =>
      rw [e] at q
      intro vs H1 e1 rv
      refine ⟨e1, fun hn1 => ⟨?_, fun p hp => ?_⟩⟩
      · have l1 := rv.length
        have l2 := hl _ ds e
        exact Nat.le_of_lt (small1000 (by omega))
      · obtain ⟨s, eq⟩ := Stp.mrg r.own e1 hn1
        obtain ⟨s2, v2⟩ := own_new (K := X.K) (G := G) (d := .lst ds) s hp (o := .lst vs) (.lst (by rw [eq]; exact rv))
        exact q _ _ _ s2 v2
theorem sv_dK {pos : Pos} : SV X G W (.Dict [] [] pos) mOwnD := pe_weak pe_dnewK fun σ H Q ⟨B, O, st, r, q⟩ p hp => by
  obtain ⟨s2, v2⟩ := own_new (K := X.K) (G := G) (d := .dct []) (Stp.refl r.own) hp (o := .dK []) (.dK .nil)
  exact q _ _ _ s2 v2
theorem sv_dT {pos : Pos} : SV X G W (.Dict [] [] pos) mOwnD := pe_weak pe_dnewT fun σ H Q ⟨B, O, st, r, q⟩ p hp => by
  obtain ⟨s2, v2⟩ := own_new (K := X.K) (G := G) (d := .dct []) (Stp.refl r.own) hp (o := .dT []) (.dT .nil)
  exact q _ _ _ s2 v2

/-! ### statements -/
inductive Fl where
  | nx (st : PSt) | rt (d : D)
abbrev MS := PSt → Rs Fl
def RepSt (K : PySem.W.Frag) (G : Gv) (B : Hp) (σ : L2.St) (H : Hp) (st : PSt) : Prop := ∃ O, RepS K G B O σ H st
def OkS (K : PySem.W.Frag) (G : Gv) (W : WX) (B : Hp) (Dn : Ends) : Rs Fl → Prop
  | some (.ok (.nx st)) => ∀ σ H, RepSt K G B σ H st → Dn.nx σ H
  | some (.ok (.rt d)) => ∀ v H, Ex B H → Rp K G H v d → Dn.rt v H
  | some (.error c) => ∀ σ H, Ex B H → W (.ref (G.cl c)) none σ H
  | none => False
def tS (K : PySem.W.Frag) (G : Gv) (W : WX) (m : MS) : TS := fun Dn σ H => ∃ B st, RepSt K G B σ H st ∧ OkS K G W B Dn (m st)
abbrev SS (X : Cx) (G : Gv) (W : WX) (s : Stmt) (m : MS) : Prop := PS X s (tS X.K G W m)
abbrev SSs (X : Cx) (G : Gv) (W : WX) (s : List Stmt) (m : MS) : Prop := PSs X s (tS X.K G W m)
theorem ps_weak {s : Stmt} {t t' : TS} (h : PS X s t) (k : ∀ D σ H, t' D σ H → t D σ H) : PS X s t' := ⟨fun pins s σ H D I q => h.run pins s σ H D I (k D σ H q)⟩
theorem pss_weak {s : List Stmt} {t t' : TS} (h : PSs X s t) (k : ∀ D σ H, t' D σ H → t D σ H) : PSs X s t' := ⟨fun pins s σ H D I q => h.run pins s σ H D I (k D σ H q)⟩
def mNext : MS := fun st => okR (.nx st)
def mSeq (m n : MS) : MS := fun st => (m st).bnd fun f => match f with
  | .nx st' => n st'
  | .rt d => okR (.rt d)
theorem ss_nil : SSs X G W [] mNext := pss_weak pss_nil fun D σ H ⟨B, st, r, h⟩ => h σ H r
theorem ss_one {s : Stmt} {m : MS} (h : SS X G W s m) : SSs X G W [s] m := pss_one h
theorem ss_cons {s : Stmt} {rest : List Stmt} {m n : MS} (h : SS X G W s m) (k : SSs X G W rest n) : SSs X G W (s :: rest) (mSeq m n) := pss_weak (pss_cons h k) fun D σ H ⟨B, st, r, q⟩ => by
  refine ⟨B, st, r, ?_⟩
  unfold mSeq at q
  cases e : m st with
  | none => rw [e] at q; exact q
  | some x => cases x with
    | error c => rw [e] at q; exact q
    | ok f => cases f with
      | nx st' => rw [e] at q; exact fun σ' H' r' => ⟨B, st', r', q⟩
      | rt d => rw [e] at q; exact q
def mRet (m : M) : MS := fun st => (m st).bnd fun d => okR (.rt d)
theorem ss_ret {e : Expr} {m : M} {pos : Pos} (h : SE X G W e m) : SS X G W (.Return (some e) pos) (mRet m) := ps_weak (ps_ret h) fun D σ H ⟨B, st, ⟨O, r⟩, q⟩ => by
  refine ⟨st, r.repE, ?_⟩
  unfold mRet at q
  cases e : m st with
  | none => rw [e] at q; exact q
  | some x => cases x with
    | error c => rw [e] at q; exact fun H' e' => q σ H' (r.ex.trans e')
    | ok d => rw [e] at q; exact fun v H' e' rv => q v H' (r.ex.trans e') rv
def mDrop (m : M) : MS := fun st => (m st).bnd fun _ => okR (.nx st)
theorem ss_expr {e : Expr} {m : M} {pos : Pos} (h : SE X G W e m) (hs : swapsWith e none pos.line X.env = pure false := by rfl) : SS X G W (.Expr e pos) (mDrop m) := ps_weak (ps_expr h hs) fun D σ H ⟨B, st, ⟨O, r⟩, q⟩ => by
  refine ⟨st, r.repE, ?_⟩
  unfold mDrop at q
  cases e : m st with
  | none => rw [e] at q; exact q
  | some x => cases x with
    | error c => rw [e] at q; exact fun H' e' => q σ H' (r.ex.trans e')
    | ok d => rw [e] at q; exact fun v H' e' rv => q σ H' ⟨O, r.step (Stp.ex r.own e')⟩
def mIfS (mc : MB) (m n : MS) : MS := fun st => (mc st).bnd fun b => if b = true then m st else n st
theorem ss_if {c : Expr} {a b : List Stmt} {mc : MB} {m n : MS} {pos : Pos} (hc : STt X G W c mc) (ha : SSs X G W a m) (hb : SSs X G W b n) : SS X G W (.If c a b pos) (mIfS mc m n) := ps_weak (ps_if hc ha hb) fun D σ H ⟨B, st, ⟨O, r⟩, q⟩ => by
  refine ⟨st, r.repE, ?_⟩
  unfold mIfS at q
  cases e : mc st with
  | none => rw [e] at q; exact q
  | some x => cases x with
    | error c => rw [e] at q; exact fun H' e' => q σ H' (r.ex.trans e')
    | ok t =>
      rw [e] at q
      intro H' e'
      have r' : RepSt X.K G B σ H' st := ⟨O, r.step (Stp.ex r.own e')⟩
      cases t with
      | true => rw [if_pos rfl]; rw [bnd_ok, if_pos rfl] at q; exact ⟨B, st, r', q⟩
      | false => rw [if_neg Bool.false_ne_true]; rw [bnd_ok, if_neg Bool.false_ne_true] at q; exact ⟨B, st, r', q⟩
/-- a slot gets a value -/
theorem RepS.put {O2 Ob : List Addr} {i : Nat} {v : V} {x : Sl} (r : RepS K G B O2 σ H' st) (hOb : ∀ (j : Nat) (d : D) (p : Addr), st[j]? = some (Sl.ow d) → σ[j]? = some (some (V.ref p)) → p ∈ Ob) (vi : ValIn K G Ob H' O2 v x) :
    RepS K G B O2 (σ.set i (some v)) H' (st.set i x) := by
  have gs : ∀ (j : Nat) (y : Sl), (st.set i x)[j]? = some y → (j = i ∧ y = x ∧ (σ.set i (some v))[j]? = some (some v)) ∨ (j ≠ i ∧ st[j]? = some y ∧ (σ.set i (some v))[j]? = σ[j]?) := fun j y h => by
    by_cases c : j = i
    · subst c
      by_cases l : j < st.length
      · rw [List.getElem?_set_self l] at h
        exact .inl ⟨rfl, (Option.some.inj h).symm, List.getElem?_set_self (by rw [r.len]; exact l)⟩
      · rw [List.getElem?_eq_none (by simpa using l)] at h
        cases h
    · rw [List.getElem?_set_ne (fun z => c z.symm)] at h
      exact .inr ⟨c, h, List.getElem?_set_ne (fun z => c z.symm)⟩
  refine ⟨by rw [List.length_set, List.length_set, r.len], r.ex, r.own, r.fresh, fun j d h => ?_, fun j d h => ?_, fun j k d e h1 h2 he => ?_⟩
  · rcases gs j _ h with ⟨rfl, ex, eq⟩ | ⟨c, h, eq⟩
    · subst ex; exact ⟨v, eq, vi⟩
    · rw [eq]; exact r.sh j d h
  · rcases gs j _ h with ⟨rfl, ex, eq⟩ | ⟨c, h, eq⟩
    · subst ex
      obtain ⟨p, o, rfl, h1, _, h2, h3⟩ := vi
      exact ⟨p, o, eq, h1, h2, h3⟩
    · rw [eq]; exact r.ow j d h
  · rcases gs j _ h1 with ⟨ej, ex, eq⟩ | ⟨c, h1', eq⟩
    · rcases gs k _ h2 with ⟨ek, ex2, eq2⟩ | ⟨c2, h2', eq2⟩
      · rw [ej, ek]
      · rw [eq, eq2] at he
        rw [← ex] at vi
        obtain ⟨p, o, ev, _, hn, _⟩ := vi
        rw [ev] at he
        exact absurd (hOb k e p h2' he.symm) hn
    · rcases gs k _ h2 with ⟨ek, ex2, eq2⟩ | ⟨c2, h2', eq2⟩
      · rw [eq, eq2] at he
        rw [← ex2] at vi
        obtain ⟨p, o, ev, _, hn, _⟩ := vi
        rw [ev] at he
        exact absurd (hOb j d p h1' he) hn
      · rw [eq, eq2] at he
        exact r.ne j k d e h1' h2' he
theorem RepS.inO (r : RepS K G B O σ H st) (j : Nat) (d : D) (p : Addr) (h : st[j]? = some (Sl.ow d)) (hp : σ[j]? = some (some (V.ref p))) : p ∈ O := by
  obtain ⟨q, o, h1, h2, _⟩ := r.ow j d h
  rw [hp] at h1
  have e : p = q := V.ref.inj (Option.some.inj (Option.some.inj h1))
  rw [e]
  exact h2
def mSet (i : Nat) (m : MV) : MS := fun st => (m st).bnd fun x => okR (.nx (st.set i x))
theorem tS_set {i : Nat} {m : MV} (D : Ends) (σ : L2.St) (H : Hp) (h : tS K G W (mSet i m) D σ H) : tAsg (tV K G W m) (gName i) D σ H := by
  obtain ⟨B, st, ⟨O, r⟩, q⟩ := h
  refine ⟨B, O, st, r, ?_⟩
  unfold mSet at q
  cases e : m st with
  | none => rw [e] at q; exact q
  | some x => cases x with
    | error c => rw [e] at q; exact q
    | ok x => rw [e] at q; exact fun v H' O' s vi => q _ H' ⟨O', (r.step s).put r.inO vi⟩
theorem ss_set {i : Nat} {x : Str} {e : Expr} {m : MV} {pos pos' : Pos} (hN : X.N.Nodup) (he : SV X G W e m) (hi : X.N[i]? = some x := by rfl) (hx : Loc X.env.scope x := by first | exact Or.inl rfl | exact Or.inr rfl) (hs : swapsWith e (some (.Name x pos')) pos.line X.env = pure false := by rfl) (hf : X.fn x = true ∨ X.env.scope.names.lookup x = some .local := by first | exact .inl rfl | exact .inr rfl | assumption) :
    SS X G W (.Assign [.Name x pos'] e pos) (mSet i m) := ps_weak (ps_set hN hi hx he hs hf) fun D σ H h => tS_set D σ H h
/-- data reckoned without what is owned -/
def mShH (m : M) : MV := fun st => (m (hidS st)).bnd fun d => okR (.sh d)
/-- y = [..] with a plain local y -/
theorem ss_setLc {i : Nat} {y : Str} {py : Pos} {elt tg iter : Expr} {ifs : List Expr} {scope : Scope} {own : List (Str × Nat)} {pos spos : Pos} {src : MA} {t : Tg} {mt : MB} {me : M} (hc : X.calm = true) (hN : X.N.Nodup) (hi : SI X G W tg iter src) (ok : BlkOk X.N X.env.scope scope own)
    (hg : ∀ (s : Shared) (H : Hp) (C : Addr) (cl : List (Str × Addr)) (fp : List Addr), PG (X.blk s H scope (compEnvC scope cl C X.env) fp) tg (t.g X.K))
    (ht : ∀ (s : Shared) (H : Hp) (C : Addr) (cl : List (Str × Addr)) (fp : List Addr), PTs (X.blk s H scope (compEnvC scope cl C X.env) fp) ifs (tTs X.K G W0 mt))
    (he : ∀ (s : Shared) (H : Hp) (C : Addr) (cl : List (Str × Addr)) (fp : List Addr), PE (X.blk s H scope (compEnvC scope cl C X.env) fp) elt (tE X.K G W0 me))
    (hy : X.N[i]? = some y := by rfl) (hyl : X.env.scope.names.lookup y = some .local := by rfl) (hsw : swapsWith (.ListComp elt [⟨tg, iter, ifs, 0⟩] scope pos) (some (.Name y py)) spos.line X.env = pure true := by exact sw_true rfl rfl rfl (by decide +kernel))
    (hv : ∀ i ∈ t.slots, i ∈ own.map (·.2) := by decide) (hs : ∀ x, foldedSetIterable iter X.env x = pure x := by intro _; rfl) :
    SS X G W (.Assign [.Name y py] (.ListComp elt [⟨tg, iter, ifs, 0⟩] scope pos) spos) (mSet i (mShH (mLc src t mt me (own.map (·.2))))) := by
  refine ps_weak (ps_hide (ps_setLc hc hN hy hyl hsw hi ok hg ht (fun s H C cl fp => pe_hide (he s H C cl fp)) hs)) fun D σ H ⟨B, st, ⟨O, r⟩, q⟩ => ?_
  refine ⟨O, r.own, tE_lc hv σ _ _ ⟨hidS st, r.repH, ?_⟩⟩
  unfold mSet mShH at q
  cases e : mLc src t mt me (own.map (·.2)) (hidS st) with
  | none => rw [e] at q; exact q
  | some x => cases x with
    | error c => rw [e] at q; exact fun H' e' => q σ H' (r.exB.trans e')
    | ok d =>
      rw [e] at q
      intro v H1 e1 rv
      refine ⟨e1, fun n => ?_⟩
      obtain ⟨s, eq⟩ := Stp.mrg r.own e1 n
      exact q _ _ ⟨O, (r.step s).put r.inO (x := .sh d) (by show Rp X.K G (hid (mrg H1 H O) O) v d; rw [eq]; exact rv)⟩
end
end Kp

namespace Kp
open PySem PySem.Spec PyProof.Rows L2
open Evl (Ex ex_l ex_t ex_rd)

section
variable {X : Cx} {G : Gv} {W : WX} {K : PySem.W.Frag} {σ : L2.St} {H H' : Hp} {B : Hp} {O O' : List Addr} {st : PSt}
/-! ### owned objects changed -/
theorem RepS.updO {i : Nat} {p : Addr} {d d' : D} {o' : HO} (r : RepS K G B O σ H st) (hi : st[i]? = some (Sl.ow d)) (hp : σ[i]? = some (some (V.ref p))) (h : RpO K G (hid H O) o' d') : RepS K G B O σ (upd H p o') (st.set i (.ow d')) := by
  have pO : p ∈ O := r.inO i d p hi hp
  have il : i < st.length := (List.getElem?_eq_some_iff.mp hi).1
  have eq : hid (upd H p o') O = hid H O := by
    funext a
    by_cases c : a ∈ O
    · rw [hid_in c, hid_in c]
    · rw [hid_out c, hid_out c, upd_ne fun z => c (by rw [z]; exact pO)]
  have gs : ∀ (j : Nat) (y : Sl), (st.set i (.ow d'))[j]? = some y → (j = i ∧ y = .ow d') ∨ (j ≠ i ∧ st[j]? = some y) := fun j y h => by
    by_cases c : j = i
    · subst c
      rw [List.getElem?_set_self il] at h
      exact .inl ⟨rfl, (Option.some.inj h).symm⟩
    · rw [List.getElem?_set_ne (fun z => c z.symm)] at h
      exact .inr ⟨c, h⟩
  refine ⟨by rw [List.length_set, r.len], fun a o e => ?_, fun q hq => ?_, r.fresh, fun j e he => ?_, fun j e he => ?_, fun j k e f h1 h2 he => ?_⟩
  · rw [upd_ne fun z => by
      have q := r.fresh p pO
      rw [z, q] at e
      cases e]
    exact r.ex _ _ e
  · by_cases c : q = p
    · rw [c]; exact ⟨o', upd_same, h.mut⟩
    · rw [upd_ne c]; exact r.own q hq
  · rw [eq]
    rcases gs j _ he with ⟨_, h⟩ | ⟨c, h⟩
    · cases h
    · exact r.sh j e h
  · rw [eq]
    rcases gs j _ he with ⟨rfl, e'⟩ | ⟨c, h'⟩
    · cases e'
      exact ⟨p, o', hp, pO, upd_same, h⟩
    · obtain ⟨q, u, h1, h2, h3, h4⟩ := r.ow j e h'
      refine ⟨q, u, h1, h2, ?_, h4⟩
      rw [upd_ne fun z => c (r.ne j i e d h' hi (by rw [h1, hp, z]))]
      exact h3
  · have o1 : ∃ e', st[j]? = some (Sl.ow e') := by
      rcases gs j _ h1 with ⟨rfl, _⟩ | ⟨_, h⟩
      · exact ⟨d, hi⟩
      · exact ⟨e, h⟩
    have o2 : ∃ e', st[k]? = some (Sl.ow e') := by
      rcases gs k _ h2 with ⟨rfl, _⟩ | ⟨_, h⟩
      · exact ⟨d, hi⟩
      · exact ⟨f, h⟩
    obtain ⟨e1, o1⟩ := o1
    obtain ⟨e2, o2⟩ := o2
    exact r.ne j k e1 e2 o1 o2 he
/-- x.append(e), x a list of the body's own in slot i -/
def mAppend (i : Nat) (m : MV) : MS := fun st => match st[i]? with
  | some (.ow (.lst ds)) => (m st).bnd fun x => match x with
    | .sh d => if ds.length < 100000 then okR (.nx (st.set i (.ow (.lst (ds ++ [d]))))) else none
    | _ => none
  | _ => none
theorem ss_append {i : Nat} {s : Stmt} {m : MV} (h : PS X s (tDrop (tBM X.K "list" rAppend (tVar i) (tCons (tV X.K G W m) tNil)))) : SS X G W s (mAppend i m) := by
  refine ps_weak h fun D σ H ⟨B, st, ⟨O, r⟩, q⟩ => ?_
  unfold mAppend at q
  split at q
  · rename_i ds hi
    obtain ⟨a, o, ha, aO, ho, ro⟩ := r.ow i _ hi
    cases ro with
    | @lst xs _ rx =>
      refine ⟨.ref a, ha, .inl ⟨rfl, xs, .inl (.inl ho)⟩, B, O, st, r, ?_⟩
      cases em : m st with
      | none => rw [em] at q; exact q.elim
      | some y => cases y with
        | error c => rw [em] at q; exact q
        | ok y => cases y with
          | un => rw [em] at q; exact q.elim
          | ow _ => rw [em] at q; exact q.elim
          | sh d =>
            rw [em, bnd_ok] at q
            intro v H1 O1 s vi
            dsimp only at q
            by_cases c : ds.length < 100000
            · rw [if_pos c] at q
              have r1 := r.step s
              have ho1 : H1 a = some (.lst xs) := by rw [s.keep a aO]; exact ho
              have hl := rx.length
              refine ⟨a, xs, v, rfl, rfl, ho1, Nat.lt_of_lt_of_le (by omega) size_big, q _ _ ⟨O1, r1.updO hi ha (.lst ((rx.mono s.hx).append (.cons vi .nil)))⟩⟩
            · rw [if_neg c] at q; exact q.elim
  · exact q.elim
def mExtend (i : Nat) (m : MV) : MS := fun st => match st[i]? with
  | some (.ow (.lst ds)) => (m st).bnd fun x => match x with
    | .sh (.lst es) => if ds.length + es.length < 100000 then okR (.nx (st.set i (.ow (.lst (ds ++ es))))) else none
    | _ => none
  | _ => none
theorem ss_extend {i : Nat} {s : Stmt} {m : MV} (h : PS X s (tDrop (tBM X.K "list" rExtend (tVar i) (tCons (tV X.K G W m) tNil)))) : SS X G W s (mExtend i m) := by
  refine ps_weak h fun D σ H ⟨B, st, ⟨O, r⟩, q⟩ => ?_
  unfold mExtend at q
  split at q
  · rename_i ds hi
    obtain ⟨a, o, ha, aO, ho, ro⟩ := r.ow i _ hi
    cases ro with
    | @lst xs _ rx =>
      refine ⟨.ref a, ha, .inl ⟨rfl, xs, .inl (.inl ho)⟩, B, O, st, r, ?_⟩
      cases em : m st with
      | none => rw [em] at q; exact q.elim
      | some y => cases y with
        | error c => rw [em] at q; exact q
        | ok y => cases y with
          | un => rw [em] at q; exact q.elim
          | ow _ => rw [em] at q; exact q.elim
          | sh d =>
            rw [em, bnd_ok] at q
            intro v H1 O1 s vi
            cases d with
            | lst es =>
              dsimp only at q
              by_cases c : ds.length + es.length < 100000
              · rw [if_pos c] at q
                have r1 := r.step s
                have ho1 : H1 a = some (.lst xs) := by rw [s.keep a aO]; exact ho
                have vi' : Rp X.K G (hid H1 O1) v (.lst es) := vi
                cases vi' with
                | @lst b zs _ hb rz =>
                  have hb' := ex_hid _ _ hb
                  have hl := rx.length
                  have hl2 := rz.length
                  refine ⟨a, b, xs, zs, rfl, rfl, ho1, hb', Nat.le_trans (by omega) size_big, q _ _ ⟨O1, r1.updO hi ha (.lst ((rx.mono s.hx).append rz))⟩⟩
              · rw [if_neg c] at q; exact q.elim
            | _ => exact q.elim
  · exact q.elim
/-- x[e2] = e -/
def mSetItem (i : Nat) (m : MV) (mi : M) : MS := fun st => match st[i]? with
  | some (.ow (.lst ds)) => (m st).bnd fun x => match x with
    | .sh d => (mi st).bnd fun k => match k with
      | .int k => match ixN ds.length k with
        | some j => okR (.nx (st.set i (.ow (.lst (ds.set j d)))))
        | none => none
      | _ => none
    | _ => none
  | _ => none
theorem ss_setitem {i : Nat} {s : Stmt} {m : MV} {mi : M} (h : PS X s (tAsg (tV X.K G W m) (gSub (tVar i) (tE X.K G W mi) rSetL))) : SS X G W s (mSetItem i m mi) := by
  refine ps_weak h fun D σ H ⟨B, st, ⟨O, r⟩, q⟩ => ?_
  unfold mSetItem at q
  split at q
  · rename_i ds hi
    obtain ⟨a, o, ha, aO, ho, ro⟩ := r.ow i _ hi
    cases ro with
    | @lst xs _ rx =>
      refine ⟨B, O, st, r, ?_⟩
      cases em : m st with
      | none => rw [em] at q; exact q.elim
      | some y => cases y with
        | error c => rw [em] at q; exact q
        | ok y => cases y with
          | un => rw [em] at q; exact q.elim
          | ow _ => rw [em] at q; exact q.elim
          | sh d =>
            rw [em, bnd_ok] at q
            intro v H1 O1 s vi
            dsimp only at q
            have r1 := r.step s
            refine ⟨.ref a, ha, st, r1.repE, ?_⟩
            cases ek : mi st with
            | none => rw [ek] at q; exact q.elim
            | some y => cases y with
              | error c => rw [ek] at q; exact fun H2 e2 => q σ H2 (r1.ex.trans e2)
              | ok k =>
                rw [ek, bnd_ok] at q
                intro w H2 e12 rk
                cases rk with
                | int k =>
                  dsimp only at q
                  have s2 := Stp.ex r1.own e12
                  have r2 := r1.step s2
                  have ho2 : H2 a = some (.lst xs) := e12 _ _ (by rw [s.keep a aO]; exact ho)
                  cases ej : ixN ds.length k with
                  | none => rw [ej] at q; exact q.elim
                  | some j =>
                    rw [ej] at q
                    have vi' : Rp X.K G (hid H1 O1) v d := vi
                    refine ⟨a, xs, k, j, rfl, rfl, ho2, by rw [rx.length]; exact ej, q _ _ ⟨O1, r2.updO hi ha (.lst (((rx.mono s.hx).mono s2.hx).set (vi'.mono s2.hx) j))⟩⟩
                | _ => exact q.elim
  · exact q.elim
/-- y = x, x owned: both are shared from then on -/
def mMove (j i : Nat) : MS := fun st => match st[i]? with
  | some (.ow d) => okR (.nx ((st.set i (.sh d)).set j (.sh d)))
  | some (.sh d) => okR (.nx (st.set j (.sh d)))
  | _ => none
theorem RepS.drop {i : Nat} {d : D} (r : RepS K G B O σ H st) (hi : st[i]? = some (Sl.ow d)) : ∃ O', RepS K G B O' σ H (st.set i (.sh d)) := by
  obtain ⟨p, o, hp, pO, ho, ro⟩ := r.ow i d hi
  have il : i < st.length := (List.getElem?_eq_some_iff.mp hi).1
  have inO : ∀ a, a ∈ O.filter (fun a => decide (a ≠ p)) ↔ a ∈ O ∧ a ≠ p := fun a => by simp
  have ex' : Ex (hid H O) (hid H (O.filter (fun a => decide (a ≠ p)))) := fun a u e => by
    obtain ⟨na, ha⟩ := hid_some e
    rw [hid_out fun z => na ((inO a).mp z).1]
    exact ha
  have gs : ∀ (j : Nat) (y : Sl), (st.set i (.sh d))[j]? = some y → (j = i ∧ y = .sh d) ∨ (j ≠ i ∧ st[j]? = some y) := fun j y h => by
    by_cases c : j = i
    · subst c
      rw [List.getElem?_set_self il] at h
      exact .inl ⟨rfl, (Option.some.inj h).symm⟩
    · rw [List.getElem?_set_ne (fun z => c z.symm)] at h
      exact .inr ⟨c, h⟩
  refine ⟨O.filter (fun a => decide (a ≠ p)), by rw [List.length_set, r.len], r.ex, fun q hq => r.own q ((inO q).mp hq).1, fun q hq => r.fresh q ((inO q).mp hq).1, fun j e h => ?_, fun j e h => ?_, fun j k e f h1 h2 he => ?_⟩
  · rcases gs j _ h with ⟨rfl, h'⟩ | ⟨c, h⟩
    · cases h'
      exact ⟨.ref p, hp, ro.rp ex' (by rw [hid_out fun z => ((inO p).mp z).2 rfl]; exact ho)⟩
    · obtain ⟨v, h1, h2⟩ := r.sh j e h
      exact ⟨v, h1, h2.mono ex'⟩
  · rcases gs j _ h with ⟨_, h⟩ | ⟨c, h⟩
    · cases h
    · obtain ⟨q, u, h1, h2, h3, h4⟩ := r.ow j e h
      exact ⟨q, u, h1, (inO q).mpr ⟨h2, fun z => c (r.ne j i e d h hi (by rw [h1, hp, z]))⟩, h3, h4.mono ex'⟩
  · rcases gs j _ h1 with ⟨_, h⟩ | ⟨_, h1'⟩
    · cases h
    · rcases gs k _ h2 with ⟨_, h⟩ | ⟨_, h2'⟩
      · cases h
      · exact r.ne j k e f h1' h2' he
theorem ss_move {j i : Nat} {s : Stmt} (h : PS X s (tAsg (tVar i) (gName j))) : SS X G W s (mMove j i) := ps_weak h fun D σ H ⟨B, st, ⟨O, r⟩, q⟩ => by
  unfold mMove at q
  split at q
  · rename_i d hi
    obtain ⟨O', r'⟩ := r.drop hi
    have il : i < st.length := (List.getElem?_eq_some_iff.mp hi).1
    obtain ⟨v, h1, h2⟩ := r'.sh i d (List.getElem?_set_self il)
    exact ⟨v, h1, q _ _ ⟨O', r'.put r'.inO (x := .sh d) h2⟩⟩
  · rename_i d hi
    obtain ⟨v, h1, h2⟩ := r.sh i d hi
    exact ⟨v, h1, q _ _ ⟨O, r.put r.inO (x := .sh d) h2⟩⟩
  · exact q.elim
/-! ### a, b = e, e2 -/
def mPar (i j : Nat) (m n : MV) : MS := fun st => (m st).bnd fun x => (n st).bnd fun y => okR (.nx ((st.set i x).set j y))
theorem ValIn.step {Ob : List Addr} {v : V} {x : Sl} (vi : ValIn K G Ob H O v x) (s : Stp H O H' O') : ValIn K G Ob H' O' v x := by
  cases x with
  | un => trivial
  | sh d => exact Rp.mono s.hx vi
  | ow d =>
    obtain ⟨p, o, e, h1, h2, h3, h4⟩ := vi
    exact ⟨p, o, e, s.sub p h1, h2, by rw [s.keep p h1]; exact h3, h4.mono s.hx⟩
theorem ss_par {i j : Nat} {s : Stmt} {m n : MV} (h : PS X s (tPar i j (tCons (tV X.K G W m) (tCons (tV X.K G W n) tNil)))) : SS X G W s (mPar i j m n) := by
  refine ps_weak h fun D σ H ⟨B, st, ⟨O, r⟩, q⟩ => ?_
  refine ⟨B, O, st, r, ?_⟩
  unfold mPar at q
  cases em : m st with
  | none => rw [em] at q; exact q
  | some z => cases z with
    | error c => rw [em] at q; exact q
    | ok xx =>
      rw [em, bnd_ok] at q
      intro v H1 O1 s1 v1
      have r1 := r.step s1
      refine ⟨B, O1, st, r1, ?_⟩
      cases en : n st with
      | none => rw [en] at q; exact q
      | some z => cases z with
        | error c => rw [en] at q; exact q
        | ok yy =>
          rw [en, bnd_ok] at q
          intro u H2 O2 s2 v2
          have r2 := r1.step s2
          have ra := r2.put (i := i) r.inO (v1.step s2)
          refine ⟨v, u, rfl, q _ _ ⟨O2, ra.put (Ob := O1) (fun k d p hk hp => ?_) v2⟩⟩
          by_cases c : k = i
          · subst c
            by_cases l : k < st.length
            · rw [List.getElem?_set_self l] at hk
              cases (Option.some.inj hk)
              rw [List.getElem?_set_self (by rw [r.len]; exact l)] at hp
              obtain ⟨p', _, e, h1, _⟩ := v1
              rw [e] at hp
              have e' : p' = p := V.ref.inj (Option.some.inj (Option.some.inj hp))
              rw [← e']; exact h1
            · rw [List.getElem?_eq_none (by simpa using l)] at hk
              cases hk
          · rw [List.getElem?_set_ne (fun z => c z.symm)] at hk hp
            exact s1.sub p (r.inO k d p hk hp)
end
end Kp

namespace Kp
open PySem PySem.Spec PyProof.Rows L2
open Evl (Ex ex_l ex_t ex_rd)

section
variable {X : Cx} {G : Gv} {W : WX} {K : PySem.W.Frag} {σ : L2.St} {H H' : Hp} {B B' : Hp} {O O' : List Addr} {st : PSt}
/-! ### for -/
def tHidI (t : TI) : TI := fun σ H R => ∃ O : List Addr, OwnsM H O ∧ t σ (hid H O) fun J H1 => Ex (hid H O) H1 ∧ ((∀ p ∈ O, H1 p = none) → R J (mrg H1 H O))
theorem pi_hide {tg iter : Expr} {t : TI} (h : PI X tg iter t) : PI X tg iter (tHidI t) := by
  refine ⟨fun pins s σ H R I hq => ?_⟩
  obtain ⟨O, m, ht⟩ := hq
  refine thn (h.run _ s σ _ _ (inv_hide I m) ht) fun u s1 q => thn q fun itv s2 ⟨it, fp, tn, J, H1, e, I1, T, t0, hf, x, q⟩ => ?_
  obtain ⟨pn, I2⟩ := inv_unhide I m I1 x
  refine ⟨it, fp, tn, J, _, e, I2, T, t0, fun b hb => ?_, q pn⟩
  obtain ⟨f1, f2, f3, f4, f5, f6⟩ := hf b hb
  have nO : b ∉ O := fun z => by
    obtain ⟨o, eo, mo⟩ := m b z
    obtain ⟨ob, e1, _⟩ := mut_get (I.hok _ _ eo) mo
    exact f6 (b, ob) (by rw [← List.append_assoc]; exact List.mem_append.mpr (.inr (mem_pinsOf z e1))) rfl
  exact ⟨by rw [mrg_out nO]; exact f1, f2, f3, f4, f5, fun p hp => f6 p (by rw [← List.append_assoc]; exact List.mem_append.mpr (.inl hp))⟩
theorem RepS.rebase (r : RepS K G B O σ H st) : RepS K G (hid H O) O σ H st := ⟨r.len, ex_hid, r.own, fun p hp => hid_in hp, r.sh, r.ow, r.ne⟩
theorem none_back (e : Ex B B') {p : Addr} (h : B' p = none) : B p = none := by
  cases q : B p with
  | none => rfl
  | some o =>
    have z := e _ _ q
    rw [h] at z
    cases z
theorem RepS.base (r : RepS K G B' O σ H st) (e : Ex B B') : RepS K G B O σ H st := ⟨r.len, e.trans r.ex, r.own, fun p hp => none_back e (r.fresh p hp), r.sh, r.ow, r.ne⟩
theorem OkS.base {Dn : Ends} {r : Rs Fl} (h : OkS K G W B Dn r) (e : Ex B B') : OkS K G W B' Dn r := by
  cases r with
  | none => exact h
  | some x => cases x with
    | error c => exact fun σ H e' => h σ H (e.trans e')
    | ok f => cases f with
      | nx st => exact fun σ H ⟨O, r⟩ => h σ H ⟨O, r.base e⟩
      | rt d => exact fun v H e' => h v H (e.trans e')
theorem Tg.runS (t : Tg) {v : V} {d : D} {st' : PSt} {Q : L2.St → Hp → Prop} (r : RepS K G B O σ H st) (h : Rp K G (hid H O) v d) (p : t.put d st = some st') (k : ∀ σ', RepS K G B O σ' H st' → Q σ' H) : t.g K v σ H Q := by
  cases t with
  | one i =>
    cases (Option.some.inj p)
    exact k _ (r.put r.inO (x := .sh d) h)
  | two i j =>
    match d, p, h with
    | .tup [a, b], p, .tup (a := ad) (xs := xs) hs ra =>
      cases (Option.some.inj p)
      cases ra with
      | cons r1 rr => cases rr with
        | cons r2 rr =>
          cases rr
          have ra := r.put (i := i) r.inO (x := .sh a) r1
          exact ⟨ad, _, rfl, ex_t ex_hid hs, rfl, _, _, rfl, _, _, rfl, rfl, k _ (ra.put ra.inO (x := .sh b) r2)⟩
def forGo (t : Tg) (body : MS) : List D → PSt → Rs Fl
  | [], st => okR (.nx st)
  | d :: ds, st => match t.put d st with
    | none => none
    | some st2 => (body st2).bnd fun f => match f with
      | .nx st3 => forGo t body ds st3
      | .rt v => okR (.rt v)
def mFor (src : MA) (t : Tg) (body : MS) : MS := fun st => (src (hidS st)).bnd fun ds => forGo t body ds st
theorem tS_for {src : MA} {t : Tg} {body : MS} (D : Ends) (σ : L2.St) (H : Hp) (h : tS K G W (mFor src t body) D σ H) : tFor (tHidI (tIt K G W src)) (t.g K) (tS K G W body) D σ H := by
  obtain ⟨B, st, ⟨O, r⟩, q⟩ := h
  refine ⟨O, r.own, hidS st, r.repH, ?_⟩
  unfold mFor at q
  cases e : src (hidS st) with
  | none => rw [e] at q; exact q
  | some x => cases x with
    | error c => rw [e] at q; exact fun H' e' => q σ H' (r.exB.trans e')
    | ok ds =>
      rw [e, bnd_ok] at q
      intro hz J H1 e1 wk
      refine ⟨e1, fun n => ?_⟩
      obtain ⟨s, eq⟩ := Stp.mrg r.own e1 n
      have r1 : RepS K G H1 O σ (mrg H1 H O) st := by
        have z := (r.step s).rebase
        rw [eq] at z
        exact z
      refine for_it wk (fun i σ' H' => ∃ st', RepSt K G H1 σ' H' st' ∧ OkS K G W H1 D (forGo t body (ds.drop i) st')) ⟨st, ⟨O, r1⟩, q.base (r.exB.trans e1)⟩ (fun i σ' H' hi ⟨st', ⟨O', r'⟩, _⟩ => r'.ex) (fun i x σ' H2 H3 hi hP y => ?_) fun σ' H' hP => ?_
      · obtain ⟨st', ⟨O', r'⟩, q'⟩ := hP
        obtain ⟨d, hd, e23, h23, rx⟩ := yd_rp y r'.exB r'.own
        have hdrop : ds.drop i = d :: ds.drop (i + 1) := by
          obtain ⟨hlt, e⟩ := List.getElem?_eq_some_iff.mp hd
          rw [List.drop_eq_getElem_cons hlt, e]
        rw [hdrop] at q'
        unfold forGo at q'
        cases ep : t.put d st' with
        | none => rw [ep] at q'; exact q'.elim
        | some st2 =>
          rw [ep] at q'
          refine t.runS (r'.step (Stp.ex r'.own e23)) rx ep fun σ2 r2 => ⟨H1, st2, ⟨_, r2⟩, ?_⟩
          dsimp only at q'
          cases eb : body st2 with
          | none => rw [eb] at q'; exact q'
          | some z => cases z with
            | error c => rw [eb] at q'; exact q'
            | ok f => cases f with
              | nx st3 => rw [eb] at q'; exact fun σ3 H3 r3 => ⟨st3, r3, q'⟩
              | rt v => rw [eb] at q'; exact q'
      · obtain ⟨st', r', q'⟩ := hP
        rw [List.drop_length] at q'
        exact q' σ' H' r'
theorem ss_for {tg iter : Expr} {body : List Stmt} {src : MA} {t : Tg} {mb : MS} {pos : Pos} (hp : PassesOwn (model X.prog X.w) X.A X.env X.xe) (hc : X.calm = true) (hi : SI X G W tg iter src) (hg : PG X tg (t.g X.K)) (hb : SSs X G W body mb) (hs : ∀ x, foldedSetIterable iter X.env x = pure x := by intro _; rfl) :
    SS X G W (.For tg iter body [] pos) (mFor src t mb) := ps_weak (ps_for hp hc (pi_hide hi) hg hb hs) fun D σ H h => tS_for D σ H h
/-- an owned slot is shared from here on -/
def shr (i : Nat) (st : PSt) : PSt := match st[i]? with
  | some (.ow d) => st.set i (.sh d)
  | _ => st
def mShare (i : Nat) (m : MS) : MS := fun st => m (shr i st)
theorem RepSt.shr {i : Nat} (r : RepSt K G B σ H st) : RepSt K G B σ H (shr i st) := by
  unfold Kp.shr
  split
  · rename_i d hi
    obtain ⟨O, r⟩ := r
    exact r.drop hi
  · exact r
theorem ss_share (i : Nat) {s : Stmt} {m : MS} (h : SS X G W s m) : SS X G W s (mShare i m) := ps_weak h fun D σ H ⟨B, st, r, q⟩ => ⟨B, shr i st, r.shr, q⟩
/-! ### while -/
def whileGo (mc : MB) (body : MS) : Nat → PSt → Rs Fl
  | 0, _ => none
  | n + 1, st => (mc st).bnd fun b => if b = true then (body st).bnd fun f => match f with
      | .nx st' => whileGo mc body n st'
      | .rt d => okR (.rt d)
    else okR (.nx st)
def mWhile (n : Nat) (mc : MB) (body : MS) : MS := whileGo mc body n
theorem ss_while (n : Nat) {c : Expr} {body : List Stmt} {mc : MB} {mb : MS} {pos : Pos} (hp : PassesOwn (model X.prog X.w) X.A X.env X.xe) (hc : STt X G W c mc) (hb : SSs X G W body mb) : SS X G W (.While c body [] pos) (mWhile n mc mb) := by
  refine ps_weak (ps_while hp hc hb) fun D σ H ⟨B, st, r, q⟩ => ?_
  refine ⟨fun m σ H => ∃ st, RepSt X.K G B σ H st ∧ OkS X.K G W B D (whileGo mc mb m st), ⟨n, st, r, q⟩, fun m σ H ⟨st, ⟨O, r⟩, q⟩ => ?_⟩
  cases m with
  | zero => exact q.elim
  | succ m =>
    unfold whileGo at q
    refine ⟨st, r.repE, ?_⟩
    cases e : mc st with
    | none => rw [e] at q; exact q
    | some x => cases x with
      | error c => rw [e] at q; exact fun H' e' => q σ H' (r.ex.trans e')
      | ok b =>
        rw [e, bnd_ok] at q
        intro H1 e1
        have r1 : RepSt X.K G B σ H1 st := ⟨O, r.step (Stp.ex r.own e1)⟩
        cases b with
        | false =>
          rw [if_neg Bool.false_ne_true] at q ⊢
          exact q σ H1 r1
        | true =>
          rw [if_pos rfl] at q ⊢
          refine ⟨fun σ' H' => ∃ st', RepSt X.K G B σ' H' st' ∧ OkS X.K G W B D (whileGo mc mb m st'), fun σ' H' h => ⟨m, Nat.lt_succ_self m, h⟩, B, st, r1, ?_⟩
          cases eb : mb st with
          | none => rw [eb] at q; exact q
          | some z => cases z with
            | error c => rw [eb] at q; exact q
            | ok f => cases f with
              | nx st3 => rw [eb] at q; exact fun σ3 H3 r3 => ⟨st3, r3, q⟩
              | rt v => rw [eb] at q; exact q
/-! ### raise -/
def mRaise (c : Cl) : MS := fun _ => some (.error c)
theorem ss_raise {c : Cl} {s : Stmt} (h : PS X s (fun _ σ H => W (.ref (G.cl c)) none σ H)) : SS X G W s (mRaise c) := ps_weak h fun D σ H ⟨B, st, ⟨O, r⟩, q⟩ => q σ H r.ex
/-! ### defs -/
def startS (n : Nat) (ds : List D) : PSt := ds.map Sl.sh ++ List.replicate (n - ds.length) Sl.un
def runDef (n : Nat) (m : MS) (ds : List D) : Rs D := (m (startS n ds)).bnd fun f => match f with
  | .nx _ => okR .non
  | .rt d => okR d
/-- a def's promise by its mirror g of n arguments -/
def spOf (K : PySem.W.Frag) (G : Gv) (n : Nat) (g : List D → Rs D) : Sp := fun vs H Q E => ∃ ds, ds.length = n ∧ RpAll K G H vs ds ∧ match g ds with
  | some (.ok d) => ∀ v H', Ex H H' → Rp K G H' v d → Q v H'
  | some (.error c) => ∀ H', Ex H H' → E (.ref (G.cl c)) none H'
  | none => False
theorem start_rep {N : List Str} {vs : List V} {ds : List D} (r : RpAll K G H vs ds) : RepS K G H [] (L2.start N vs) H (startS N.length ds) := by
  have hl := r.length
  have hv : ∀ i : Nat, i < vs.length → (L2.start N vs)[i]? = (vs[i]?).map some := fun i hi => by
    unfold L2.start
    rw [List.getElem?_append_left (by simpa using hi), List.getElem?_map]
  refine ⟨by simp [L2.start, startS, hl], Ex.refl _, OwnsM.nil, fun _ h => (nomatch h), fun i d h => ?_, fun i d h => ?_, fun i j d e h _ _ => ?_⟩
  · unfold startS at h
    by_cases c : i < ds.length
    · rw [List.getElem?_append_left (by simpa using c), List.getElem?_map] at h
      obtain ⟨d', hd', e⟩ := Option.map_eq_some_iff.mp h
      cases e
      obtain ⟨v, h1, h2⟩ := r.get hd'
      exact ⟨v, by rw [hv i (by omega), h1]; rfl, by rw [hid_nil]; exact h2⟩
    · rw [List.getElem?_append_right (by simpa using c)] at h
      have := List.mem_of_getElem? h
      simp at this
  · unfold startS at h
    have := List.mem_of_getElem? h
    simp at this
  · unfold startS at h
    have := List.mem_of_getElem? h
    simp at this
abbrev WofE (E : XK) : WX := fun cls d _ H => E cls d H
theorem def_ok {P : Program} {w : World} {mg : Str → Option Value} {base : Heap} {x qual : Str} {st : Stmt} {f : Addr} {fd : FuncData} {N ps : List Str} {k : Nat} {m : MS} (F : Fun K x qual st f fd) (S : FnScope N ps (defScope st))
    (hb : ∀ (cdv : Value) (A : Around) (outer : List Env) (s : Shared) (H : Hp) (E : XK), Room k (A.deeper (envOfC qual (defScope st) s.heap.objs.size f cdv)) → SSs (cxOf (L2.CX P w) P w K mg base N qual (defScope st) f cdv A outer s H E) G (WofE E) (defBody st) m) :
    FnOk P w K mg base (L2.CX P w) (k + 1) f fd ps (spOf K G ps.length (runDef N.length m)) := by
  refine F.okX S (fun vs H Q E ⟨ds, hl, r, _⟩ => by rw [r.length]; exact hl) fun cdv A outer s H vs Q E hr ⟨ds, hl, r, h⟩ => ⟨_, hb cdv A outer s H E hr, H, startS N.length ds, ⟨[], start_rep r⟩, ?_⟩
  unfold runDef at h
  cases e : m (startS N.length ds) with
  | none => rw [e] at h; exact h
  | some z => cases z with
    | error c => rw [e] at h; exact fun σ' H' e' => h H' e'
    | ok fl => cases fl with
      | nx st' => rw [e] at h; exact fun σ' H' ⟨O, r'⟩ => h _ H' r'.ex .non
      | rt d => rw [e] at h; exact fun v H' e' rv => h v H' e' rv
/-- a def of the text that keeps such a promise -/
structure Fo (P : Program) (w : World) (K : PySem.W.Frag) (mg : Str → Option Value) (base : Heap) (G : Gv) (k : Nat) (x : Str) (n : Nat) (g : List D → Rs D) : Prop where
  ex : ∃ (f : Addr) (fd : FuncData) (ps : List Str), FnOk P w K mg base (L2.CX P w) k f fd ps (spOf K G n g) ∧ mg x = some (.ref f) ∧ PySem.W.keepIn K (.ref f) = true ∧ Binds K fd ps [] ∧ G.fa x = some f
def mCall (g : List D → Rs D) (mr : MA) : M := fun st => (mr st).bnd g
theorem sp_call {g : List D → Rs D} {n : Nat} {mr : MA} {W : WX} (hl : LenA mr n) (σ : L2.St) (H : Hp) (Q : VK) (h : tE K G W (mCall g mr) σ H Q) : tCallS (spOf K G n g) (WE W) (tAr K G W mr) σ H Q := by
  obtain ⟨st, r, h⟩ := h
  refine ⟨st, r, OkR.bndA' h fun ds ed vs H1 e1 r1 h1 => ⟨ds, hl st ds ed, r1, ?_⟩⟩
  cases e : g ds with
  | none => rw [e] at h1; exact h1
  | some z => cases z with
    | ok d => rw [e] at h1; exact h1
    | error c => rw [e] at h1; exact h1
theorem se_call {j k n : Nat} {x : Str} {e : Expr} {es : List Expr} {p pos : Pos} {g : List D → Rs D} {mr : MA} (F : Fo X.prog X.w X.K X.mg X.base G k x n g) (hr : Room j X.A) (hk : k ≤ j) (hg : Gl X x) (tk : Takes X W) (hl : LenA mr n) (ha : SA X G W (e :: es) mr)
    (hd : (x == ("__debug__" : Str)) = false := by decide) (he : starEach (e :: es) X.env = (false, eval e X.env) :: starEach es X.env := by rfl) (hpl : (backTo pos (starEach es X.env)).any (·.1) = false := by rfl) :
    SE X G W (.Call (.Name x p) (e :: es) [] pos) (mCall g mr) := by
  obtain ⟨f, fd, ps, F1, hm, kp, hb, _⟩ := F.ex
  exact pe_weak (pe_callS F1 (hr.mono hk) hg hm kp hb (fun σ => passAt tk σ) ha (hdb := hd) (he := he) (hpl := hpl)) fun σ H Q h => sp_call hl σ H Q h
end
end Kp

namespace Kp
open PySem PySem.Spec PyProof.Rows L2
open Evl (Ex ex_l ex_t ex_rd)

/-! ### data as the library's data -/
mutual
def toP : D → PyData
  | .non => .none
  | .bl b => .bool b
  | .int i => .int i
  | .str l => .str (S l)
  | .tup l => .tuple (toPs l)
  | .lst l => .list (toPs l)
  | .scr ns => .list (ns.map PyData.int)
  | .dct _ => .dict []
  | .fn _ => .dict []
  | .ty _ => .dict []
  | .exn _ => .dict []
  | .cls _ => .dict []
def toPs : List D → List PyData
  | [] => []
  | d :: ds => toP d :: toPs ds
end
mutual
/-- plain data, at most n deep -/
def pl (n : Nat) : D → Bool
  | .tup l => match n with
    | 0 => false
    | n + 1 => plL n l
  | .lst l => match n with
    | 0 => false
    | n + 1 => plL n l
  | .dct _ => false
  | .fn _ => false
  | .scr _ => false
  | .ty _ => false
  | .exn _ => false
  | .cls _ => false
  | _ => true
def plL (n : Nat) : List D → Bool
  | [] => true
  | d :: ds => pl n d && plL n ds
end
mutual
def eqvD : D → D → Bool
  | .non, e => match e with
    | .non => true
    | _ => false
  | .bl a, e => match e with
    | .bl b => a == b
    | .int j => (if a then 1 else 0) == j
    | _ => false
  | .int i, e => match e with
    | .bl b => i == (if b then 1 else 0)
    | .int j => i == j
    | _ => false
  | .str a, e => match e with
    | .str b => a == b
    | _ => false
  | .tup a, e => match e with
    | .tup b => eqvL a b
    | _ => false
  | .lst a, e => match e with
    | .lst b => eqvL a b
    | _ => false
  | .dct _, _ => false
  | .fn _, _ => false
  | .scr _, _ => false
  | .ty _, _ => false
  | .exn _, _ => false
  | .cls _, _ => false
def eqvL : List D → List D → Bool
  | [], ys => ys.isEmpty
  | x :: xs, ys => match ys with
    | [] => false
    | y :: ys => eqvD x y && eqvL xs ys
end
theorem S_eq {a b : List Nat} : (S a == S b) = (a == b) := by
  rw [Bool.eq_iff_iff, beq_iff_eq, beq_iff_eq]
  constructor
  · intro h
    have := congrArg (fun x : Str => x.cps.toList) h
    simpa [S] using this
  · intro h; rw [h]
mutual
theorem eqv_toP : ∀ (d : D) (n : Nat) (e : D) (m : Nat), pl n d = true → pl m e = true → PyData.eqv (toP d) (toP e) = eqvD d e
  | .non, _, e, _, _, he => by cases e <;> first | rfl | (simp [pl] at he)
  | .bl a, _, e, _, _, he => by cases e <;> first | rfl | (simp [pl] at he)
  | .int i, _, e, _, _, he => by cases e <;> first | rfl | (simp [pl] at he)
  | .str a, _, e, _, _, he => by
    cases e with
    | str b => simp only [toP, PyData.eqv, eqvD]; exact S_eq
    | _ => first | rfl | (simp [pl] at he)
  | .tup a, n, e, m, hd, he => by
    cases e with
    | tup b =>
      cases n with
      | zero => simp [pl] at hd
      | succ n => cases m with
        | zero => simp [pl] at he
        | succ m =>
          simp only [toP, PyData.eqv, eqvD]
          exact eqv_toPs a n b m (by simpa [pl] using hd) (by simpa [pl] using he)
    | _ => first | rfl | (simp [pl] at he)
  | .lst a, n, e, m, hd, he => by
    cases e with
    | lst b =>
      cases n with
      | zero => simp [pl] at hd
      | succ n => cases m with
        | zero => simp [pl] at he
        | succ m =>
          simp only [toP, PyData.eqv, eqvD]
          exact eqv_toPs a n b m (by simpa [pl] using hd) (by simpa [pl] using he)
    | _ => first | rfl | (simp [pl] at he)
  | .dct _, _, _, _, hd, _ => by simp [pl] at hd
  | .fn _, _, _, _, hd, _ => by simp [pl] at hd
  | .scr _, _, _, _, hd, _ => by simp [pl] at hd
  | .ty _, _, _, _, hd, _ => by simp [pl] at hd
  | .exn _, _, _, _, hd, _ => by simp [pl] at hd
  | .cls _, _, _, _, hd, _ => by simp [pl] at hd
theorem eqv_toPs : ∀ (a : List D) (n : Nat) (b : List D) (m : Nat), plL n a = true → plL m b = true → PyData.eqvAll (toPs a) (toPs b) = eqvL a b
  | [], _, b, _, _, _ => by cases b <;> rfl
  | x :: xs, n, b, m, ha, hb => by
    cases b with
    | nil => rfl
    | cons y ys =>
      simp only [plL, Bool.and_eq_true] at ha hb
      simp only [toPs, PyData.eqvAll, eqvL]
      rw [eqv_toP x n y m ha.1 hb.1, eqv_toPs xs n ys m ha.2 hb.2]
end
mutual
theorem pl_depth : ∀ (d : D) (n : Nat), pl n d = true → (toP d).depth ≤ n
  | .non, _, _ => Nat.zero_le _
  | .bl _, _, _ => Nat.zero_le _
  | .int _, _, _ => Nat.zero_le _
  | .str _, _, _ => Nat.zero_le _
  | .tup a, n, h => by
    cases n with
    | zero => simp [pl] at h
    | succ n => simp only [toP, PyData.depth]; exact Nat.succ_le_succ (pl_depths a n (by simpa [pl] using h))
  | .lst a, n, h => by
    cases n with
    | zero => simp [pl] at h
    | succ n => simp only [toP, PyData.depth]; exact Nat.succ_le_succ (pl_depths a n (by simpa [pl] using h))
  | .dct _, _, h => by simp [pl] at h
  | .fn _, _, h => by simp [pl] at h
  | .scr _, _, h => by simp [pl] at h
  | .ty _, _, h => by simp [pl] at h
  | .exn _, _, h => by simp [pl] at h
  | .cls _, _, h => by simp [pl] at h
theorem pl_depths : ∀ (a : List D) (n : Nat), plL n a = true → PyData.depthAll (toPs a) ≤ n
  | [], _, _ => Nat.zero_le _
  | x :: xs, n, h => by
    simp only [plL, Bool.and_eq_true] at h
    simp only [toPs, PyData.depthAll]
    exact Nat.max_le.mpr ⟨pl_depth x n h.1, pl_depths xs n h.2⟩
end
theorem strOk_S {l : List Nat} (h : okS l) : PySem.PyData.strOk (S l) = true := by
  unfold PySem.PyData.strOk S
  rw [Array.all_eq_true]
  intro i hi
  simp only [decide_eq_true_eq]
  exact h _ (by simp)
section
variable {K : PySem.W.Frag} {G : Gv} {H : Hp}
mutual
theorem Rp.dp : ∀ {v : V} {d : D} {n : Nat}, Rp K G H v d → pl n d = true → Dp K H v (toP d) ∧ (toP d).canLay0 = true
  | _, _, _, .non, _ => ⟨.non, rfl⟩
  | _, _, _, .bl b, _ => ⟨.bl b, rfl⟩
  | _, _, _, .int i, _ => ⟨.int i, rfl⟩
  | _, _, _, .str h, _ => ⟨.str _, by simp only [toP, PyData.canLay0]; exact strOk_S h⟩
  | _, .tup l, n, .tup h r, p => by
    cases n with
    | zero => simp [pl] at p
    | succ n =>
      obtain ⟨h1, h2⟩ := RpAll.dp (n := n) r (by simpa [pl] using p)
      exact ⟨.tup h h1, by simp only [toP, PyData.canLay0]; exact h2⟩
  | _, .lst l, n, .lst h r, p => by
    cases n with
    | zero => simp [pl] at p
    | succ n =>
      obtain ⟨h1, h2⟩ := RpAll.dp (n := n) r (by simpa [pl] using p)
      exact ⟨.lst (Or.inl (Or.inl h)) h1, by simp only [toP, PyData.canLay0]; exact h2⟩
  | _, _, _, .dK _ _, p => by simp [pl] at p
  | _, _, _, .dT _ _, p => by simp [pl] at p
  | _, _, _, .fn _, p => by simp [pl] at p
  | _, _, _, .scr _, p => by simp [pl] at p
  | _, _, _, .ty _, p => by simp [pl] at p
  | _, _, _, .exn _, p => by simp [pl] at p
  | _, _, _, .cls _, p => by simp [pl] at p
theorem RpAll.dp : ∀ {vs : List V} {ds : List D} {n : Nat}, RpAll K G H vs ds → plL n ds = true → DpAll K H vs (toPs ds) ∧ PyData.canLayAll0 (toPs ds) = true
  | _, _, _, .nil, _ => ⟨.nil, rfl⟩
  | _, _, n, .cons h r, p => by
    have p' := p
    simp only [plL, Bool.and_eq_true] at p'
    obtain ⟨h1, h2⟩ := Rp.dp h p'.1
    obtain ⟨h3, h4⟩ := RpAll.dp r p'.2
    exact ⟨.cons h1 h3, by simp only [toPs, PyData.canLayAll0, h2, h4, Bool.and_self]⟩
end
theorem Rp.shaped {v : V} {d : D} (h : Rp K G H v d) (p : pl 40 d = true) : Dp K H v (toP d) ∧ SeqAt.shaped (toP d) = true := by
  obtain ⟨h1, h2⟩ := h.dp p
  have h3 := pl_depth d 40 p
  refine ⟨h1, ?_⟩
  unfold SeqAt.shaped
  rw [h2, Bool.true_and]
  exact decide_eq_true (by omega)
end
/-! ### operators -/
section
variable {X : Cx} {G : Gv}
theorem rd2 {g : D → D → Option D} {f : Value → Value → Sem Value} (h : ∀ (pins : List (Addr × Obj)) (s : Shared) (σ : L2.St) (H : Hp) (x y : V) (v u : Value) (Q : VK) (a b d : D), Inv X pins σ H s → RelV x v → RelV y u → Rp X.K G H x a → Rp X.K G H y b → g a b = some d → (∀ v H', Ex H H' → Rp X.K G H' v d → Q v H') →
    wpAny (model X.prog X.w) X.A (f v u) (EP X pins σ Q) X.xe s) : OpR X f (rD2 X.K G g) := by
  intro pins s σ H x y v u Q I rx ry ⟨a, b, d, ra, rb, e, q⟩
  exact h pins s σ H x y v u Q a b d I rx ry ra rb e q
def sm (n : Nat) : Bool := decide (n ≤ 100000)
def addD : D → D → Option D
  | .int i, e => match e with
    | .int j => some (.int (i + j))
    | _ => none
  | .str a, e => match e with
    | .str b => if a.length + b.length ≤ 100000 then some (.str (a ++ b)) else none
    | _ => none
  | .tup a, e => match e with
    | .tup b => if a.length + b.length ≤ 100000 then some (.tup (a ++ b)) else none
    | _ => none
  | .lst a, e => match e with
    | .lst b => if a.length + b.length ≤ 100000 then some (.lst (a ++ b)) else none
    | _ => none
  | _, _ => none
theorem okS_app {a b : List Nat} (h : okS a) (k : okS b) : okS (a ++ b) := fun c hc => by
  rcases List.mem_append.mp hc with z | z
  · exact h c z
  · exact k c z
theorem S_app (a b : List Nat) : S a ++ S b = S (a ++ b) := by
  show Str.mk (a.toArray ++ b.toArray) = Str.mk (a ++ b).toArray
  rw [List.append_toArray]
theorem S_len (a : List Nat) : (S a).length = a.length := by
  show (S a).cps.size = _
  simp [S]
theorem opD_add : OpR X (binaryOp .Add) (rD2 X.K G addD) := rd2 fun pins s σ H x y v u Q a b d I rx ry ra rb e q => by
  cases ra with
  | int i => cases rb with
    | int j =>
      cases (Option.some.inj e)
      exact op_add pins s σ H _ _ v u Q I rx ry ⟨i, j, rfl, rfl, q _ H (Ex.refl _) (.int _)⟩
    | _ => cases e
  | @str a ha => cases rb with
    | @str b hb =>
      have e' : (if a.length + b.length ≤ 100000 then some (D.str (a ++ b)) else none) = some d := e
      by_cases c : a.length + b.length ≤ 100000
      · rw [if_pos c] at e'
        cases (Option.some.inj e')
        exact op_add_str pins s σ H _ _ v u Q I rx ry ⟨S a, S b, rfl, rfl, by rw [S_len, S_len]; exact Nat.le_trans c size_big, by rw [S_app]; exact q _ H (Ex.refl _) (.str (okS_app ha hb))⟩
      · rw [if_neg c] at e'; cases e'
    | _ => cases e
  | @tup p xs a ha r1 => cases rb with
    | @tup p2 ys b hb r2 =>
      have e' : (if a.length + b.length ≤ 100000 then some (D.tup (a ++ b)) else none) = some d := e
      by_cases c : a.length + b.length ≤ 100000
      · rw [if_pos c] at e'
        cases (Option.some.inj e')
        have l1 := r1.length
        have l2 := r2.length
        refine op_catA pins s σ H _ _ v u Q I rx ry ⟨p, p2, xs, ys, rfl, rfl, ha, hb, Nat.le_trans (by omega) size_big, fun h0 => ?_, fun _ h0 => ?_, fun _ _ q' hq => ?_⟩
        · subst h0
          cases r1
          exact q _ H (Ex.refl _) (.tup hb r2)
        · subst h0
          cases r2
          rw [List.append_nil] at q
          exact q _ H (Ex.refl _) (.tup ha r1)
        · exact q _ _ (ex_new hq) (new_tup hq (r1.append r2))
      · rw [if_neg c] at e'; cases e'
    | _ => cases e
  | @lst p xs a ha r1 => cases rb with
    | @lst p2 ys b hb r2 =>
      have e' : (if a.length + b.length ≤ 100000 then some (D.lst (a ++ b)) else none) = some d := e
      by_cases c : a.length + b.length ≤ 100000
      · rw [if_pos c] at e'
        cases (Option.some.inj e')
        have l1 := r1.length
        have l2 := r2.length
        exact op_cat pins s σ H _ _ v u Q I rx ry ⟨p, p2, xs, ys, rfl, rfl, ha, hb, Nat.le_trans (by omega) size_big, fun q' hq => q _ _ (ex_new hq) (new_lst hq (r1.append r2))⟩
      · rw [if_neg c] at e'; cases e'
    | _ => cases e
  | _ => cases e
/-- two ints -/
def intD (g : Int → Int → Option D) : D → D → Option D
  | .int i, e => match e with
    | .int j => g i j
    | _ => none
  | _, _ => none
theorem rdI {g : Int → Int → Option D} {f : Value → Value → Sem Value} (h : ∀ (pins : List (Addr × Obj)) (s : Shared) (σ : L2.St) (H : Hp) (i j : Int) (v u : Value) (Q : VK) (d : D), Inv X pins σ H s → RelV (.int i) v → RelV (.int j) u → g i j = some d → (∀ v H', Ex H H' → Rp X.K G H' v d → Q v H') →
    wpAny (model X.prog X.w) X.A (f v u) (EP X pins σ Q) X.xe s) : OpR X f (rD2 X.K G (intD g)) := rd2 fun pins s σ H x y v u Q a b d I rx ry ra rb e q => by
  cases ra with
  | int i => cases rb with
    | int j => exact h pins s σ H i j v u Q d I rx ry e q
    | _ => cases e
  | _ => cases e
abbrev subD := intD fun i j => some (.int (i - j))
theorem opD_sub : OpR X (binaryOp .Sub) (rD2 X.K G subD) := rdI fun pins s σ H i j v u Q d I rx ry e q => by
  cases (Option.some.inj e)
  exact op_sub pins s σ H _ _ v u Q I rx ry ⟨i, j, rfl, rfl, q _ H (Ex.refl _) (.int _)⟩
abbrev fdivD := intD fun i j => if 0 < j ∧ j < 2 ^ 100 then some (.int (i / j)) else none
theorem opD_fdiv : OpR X (binaryOp .FloorDiv) (rD2 X.K G fdivD) := rdI fun pins s σ H i j v u Q d I rx ry e q => by
  by_cases c : 0 < j ∧ j < 2 ^ 100
  · rw [if_pos c] at e
    cases (Option.some.inj e)
    refine op_fdivW pins s σ H _ _ v u Q I rx ry ⟨i, j, rfl, rfl, wide_div (b := 100) c.1 ?_ (by decide) (by decide), q _ H (Ex.refl _) (.int _)⟩
    have h3 := c.2
    have h4 : (2 : Int) ^ 100 = 1267650600228229401496703205376 := by decide
    have h5 : (2 : Nat) ^ 100 = 1267650600228229401496703205376 := by decide
    rw [h4] at h3
    rw [h5]
    omega
  · rw [if_neg c] at e; cases e
abbrev modD := intD fun i j => if 0 < j then some (.int (i % j)) else none
theorem opD_mod : OpR X (binaryOp .Mod) (rD2 X.K G modD) := rdI fun pins s σ H i j v u Q d I rx ry e q => by
  by_cases c : 0 < j
  · rw [if_pos c] at e
    cases (Option.some.inj e)
    exact op_mod pins s σ H _ _ v u Q I rx ry ⟨i, j, rfl, rfl, c, q _ H (Ex.refl _) (.int _)⟩
  · rw [if_neg c] at e; cases e
abbrev powD := intD fun i j => if (0 ≤ j ∧ j ≤ 1000) ∧ (0 ≤ i ∧ i < 2 ^ 60) then some (.int (i ^ j.toNat)) else none
theorem opD_pow : OpR X (binaryOp .Pow) (rD2 X.K G powD) := rdI fun pins s σ H i j v u Q d I rx ry e q => by
  by_cases c : (0 ≤ j ∧ j ≤ 1000) ∧ (0 ≤ i ∧ i < 2 ^ 60)
  · rw [if_pos c] at e
    cases (Option.some.inj e)
    exact op_pow pins s σ H _ _ v u Q I rx ry ⟨i, j, rfl, rfl, ⟨by omega, by omega, by omega⟩, q _ H (Ex.refl _) (.int _)⟩
  · rw [if_neg c] at e; cases e
theorem rpB {b : Bool} {K : PySem.W.Frag} {H : Hp} : Rp K G H (.bl b) (.bl b) := .bl b
abbrev mulD := intD fun i j => if (-(2 ^ 64) < i ∧ i < 2 ^ 64) ∨ (-(2 ^ 64) < j ∧ j < 2 ^ 64) then some (.int (i * j)) else none
/-- * of ints; a list or a text n times -/
def mulA : D → D → Option D
  | .int i, e => match e with
    | .int j => if (-(2 ^ 64) < i ∧ i < 2 ^ 64) ∨ (-(2 ^ 64) < j ∧ j < 2 ^ 64) then some (.int (i * j)) else none
    | _ => none
  | .lst l, e => match e with
    | .int k => if -100000 ≤ k ∧ k ≤ 100000 ∧ l.length * k.toNat ≤ 100000 then some (.lst (List.replicate k.toNat l).flatten) else none
    | _ => none
  | _, _ => none
theorem RpAll.rep {K : PySem.W.Frag} {H : Hp} {vs : List V} {ds : List D} (r : RpAll K G H vs ds) : ∀ n : Nat, RpAll K G H (List.replicate n vs).flatten (List.replicate n ds).flatten
  | 0 => .nil
  | n + 1 => by
    rw [List.replicate_succ, List.replicate_succ, List.flatten_cons, List.flatten_cons]
    exact r.append (r.rep n)
theorem opD_mul : OpR X (binaryOp .Mult) (rD2 X.K G mulA) := rd2 fun pins s σ H x y v u Q a b d I rx ry ra rb e q => by
  cases ra with
  | int i => cases rb with
    | int j =>
      have e' : (if (-(2 ^ 64) < i ∧ i < 2 ^ 64) ∨ (-(2 ^ 64) < j ∧ j < 2 ^ 64) then some (D.int (i * j)) else none) = some d := e
      by_cases c : (-(2 ^ 64) < i ∧ i < 2 ^ 64) ∨ (-(2 ^ 64) < j ∧ j < 2 ^ 64)
      · rw [if_pos c] at e'
        cases (Option.some.inj e')
        exact op_mul pins s σ H _ _ v u Q I rx ry ⟨i, j, rfl, rfl, c, q _ H (Ex.refl _) (.int _)⟩
      · rw [if_neg c] at e'; cases e'
    | _ => cases e
  | @lst p xs l hl r1 => cases rb with
    | int k =>
      have e' : (if -100000 ≤ k ∧ k ≤ 100000 ∧ l.length * k.toNat ≤ 100000 then some (D.lst (List.replicate k.toNat l).flatten) else none) = some d := e
      by_cases c : -100000 ≤ k ∧ k ≤ 100000 ∧ l.length * k.toNat ≤ 100000
      · rw [if_pos c] at e'
        cases (Option.some.inj e')
        exact op_rep pins s σ H _ _ v u Q I rx ry ⟨p, k, xs, rfl, rfl, hl, by omega, by omega, by rw [r1.length]; exact Nat.le_trans c.2.2 size_big, fun p' hp => q _ _ (ex_new hp) (new_lst hp (r1.rep _))⟩
      · rw [if_neg c] at e'; cases e'
    | _ => cases e
  | _ => cases e
/-! comparisons -/
/-- by order: ints, texts -/
def ordD (gi : Int → Int → Bool) (gs : List Nat → List Nat → Bool) : D → D → Option D
  | .int i, e => match e with
    | .int j => some (.bl (gi i j))
    | _ => none
  | .str a, e => match e with
    | .str b => some (.bl (gs a b))
    | _ => none
  | _, _ => none
theorem rdO {gi : Int → Int → Bool} {gs : List Nat → List Nat → Bool} {f : Value → Value → Sem Value} (h1 : OpR X f (rI0 fun i j => .bl (gi i j))) (h2 : OpR X f (fun x y H Q => ∃ i j, x = .str i ∧ y = .str j ∧ Q (.bl (gs i.cps.toList j.cps.toList)) H)) : OpR X f (rD2 X.K G (ordD gi gs)) := rd2 fun pins s σ H x y v u Q a b d I rx ry ra rb e q => by
  cases ra with
  | int i => cases rb with
    | int j =>
      cases (Option.some.inj e)
      exact h1 pins s σ H _ _ v u Q I rx ry ⟨i, j, rfl, rfl, q _ H (Ex.refl _) (.bl _)⟩
    | _ => cases e
  | @str a ha => cases rb with
    | @str b hb =>
      cases (Option.some.inj e)
      exact h2 pins s σ H _ _ v u Q I rx ry ⟨S a, S b, rfl, rfl, by rw [S_cps, S_cps]; exact q _ H (Ex.refl _) (.bl _)⟩
    | _ => cases e
  | _ => cases e
abbrev ltD := ordD (fun i j => decide (i < j)) (fun a b => decide (a < b))
abbrev leD := ordD (fun i j => decide (i ≤ j)) (fun a b => !decide (b < a))
abbrev gtD := ordD (fun i j => decide (j < i)) (fun a b => decide (b < a))
abbrev geD := ordD (fun i j => decide (j ≤ i)) (fun a b => !decide (a < b))
theorem opD_lt : OpR X (compareOp .Lt) (rD2 X.K G ltD) := rdO op_lt op_lt_str
theorem opD_le : OpR X (compareOp .LtE) (rD2 X.K G leD) := rdO op_le op_le_str
theorem opD_gt : OpR X (compareOp .Gt) (rD2 X.K G gtD) := rdO op_gt op_gt_str
theorem opD_ge : OpR X (compareOp .GtE) (rD2 X.K G geD) := rdO op_ge op_ge_str
/-- == by data; of the script only against [] -/
def eqD (neg : Bool) : D → D → Option D
  | .scr ns, e => match e with
    | .lst [] => some (.bl (if neg then !ns.isEmpty else ns.isEmpty))
    | _ => none
  | a, b => if pl 40 a = true ∧ pl 40 b = true then some (.bl (if neg then !eqvD a b else eqvD a b)) else none
theorem eqD_plain {neg : Bool} {a b d : D} (ha : ∀ ns, a ≠ .scr ns) (e : eqD neg a b = some d) : (pl 40 a = true ∧ pl 40 b = true) ∧ d = .bl (if neg then !eqvD a b else eqvD a b) := by
  have e' : (if pl 40 a = true ∧ pl 40 b = true then some (D.bl (if neg then !eqvD a b else eqvD a b)) else none) = some d := by
    cases a with
    | scr ns => exact absurd rfl (ha ns)
    | _ => exact e
  by_cases c : pl 40 a = true ∧ pl 40 b = true
  · rw [if_pos c] at e'
    exact ⟨c, (Option.some.inj e').symm⟩
  · rw [if_neg c] at e'; cases e'
theorem eqD_go {neg : Bool} {f : Value → Value → Sem Value} (hu : OpR X f (fun x y H Q => ∃ d e, Dp X.K H x d ∧ Dp X.K H y e ∧ SeqAt.shaped d = true ∧ SeqAt.shaped e = true ∧ Q (.bl (if neg then !PyData.eqv d e else PyData.eqv d e)) H)) : OpR X f (rD2 X.K G (eqD neg)) := rd2 fun pins s σ H x y v u Q a b d I rx ry ra rb e q => by
  by_cases hs : ∃ ns, a = .scr ns
  · obtain ⟨ns, rfl⟩ := hs
    cases ra with
    | scr hq =>
      cases rb with
      | @lst p xs l hl r =>
        cases l with
        | cons _ _ => cases e
        | nil =>
          cases (Option.some.inj e)
          cases r
          have hd : DpAll X.K H (ns.map V.int) (ns.map PyData.int) ∧ PyData.canLayAll0 (ns.map PyData.int) = true ∧ PyData.depthAll (ns.map PyData.int) = 0 := by
            clear hq q e
            induction ns with
            | nil => exact ⟨.nil, rfl, rfl⟩
            | cons n ns ih => exact ⟨.cons (.int n) ih.1, by simp only [List.map_cons, PyData.canLayAll0, PyData.canLay0, ih.2.1, Bool.and_self], by simp only [List.map_cons, PyData.depthAll, PyData.depth, ih.2.2, Nat.max_self]⟩
          refine hu pins s σ H _ _ v u Q I rx ry ⟨.list (ns.map PyData.int), .list [], .lst hq hd.1, .lst (Or.inl (Or.inl hl)) .nil, ?_, by decide, ?_⟩
          · unfold SeqAt.shaped
            simp only [PyData.canLay0, hd.2.1, PyData.depth, hd.2.2, Bool.true_and]
            decide
          · have ee : PyData.eqv (.list (ns.map PyData.int)) (.list []) = ns.isEmpty := by
              cases ns <;> rfl
            rw [ee]
            exact q _ H (Ex.refl _) (.bl _)
      | _ => cases e
  · obtain ⟨c, rfl⟩ := eqD_plain (fun ns h => hs ⟨ns, h⟩) e
    obtain ⟨h1, h2⟩ := ra.shaped c.1
    obtain ⟨h3, h4⟩ := rb.shaped c.2
    exact hu pins s σ H _ _ v u Q I rx ry ⟨_, _, h1, h3, h2, h4, by rw [eqv_toP a 40 b 40 c.1 c.2]; exact q _ H (Ex.refl _) (.bl _)⟩
theorem opD_eq (hu : X.A.units + 64 < cLine) : OpR X (compareOp .Eq) (rD2 X.K G (eqD false)) := eqD_go (neg := false) (op_eqD hu)
theorem opD_ne (hu : X.A.units + 64 < cLine) : OpR X (compareOp .NotEq) (rD2 X.K G (eqD true)) := eqD_go (neg := true) (op_neD hu)
/-- is None, is True -/
def isNonD : D → Bool
  | .non => true
  | _ => false
def isD (neg : Bool) (a b : D) : Option D := match b with
  | .non => some (.bl (if neg then !isNonD a else isNonD a))
  | .bl b => match a with
    | .bl a => some (.bl (if neg then !decide (a = b) else decide (a = b)))
    | _ => none
  | _ => none
theorem rp_non {K : PySem.W.Frag} {H : Hp} {v : V} {a : D} (r : Rp K G H v a) : decide (v = .non) = isNonD a := by
  cases r <;> rfl
theorem opD_is : OpR X (compareOp .Is) (rD2 X.K G (isD false)) := rd2 fun pins s σ H x y v u Q a b d I rx ry ra rb e q => by
  cases rb with
  | non =>
    cases (Option.some.inj e)
    exact op_isN pins s σ H _ _ v u Q I rx ry ⟨rfl, by rw [rp_non ra]; exact q _ H (Ex.refl _) (.bl _)⟩
  | bl b => cases ra with
    | bl a =>
      cases (Option.some.inj e)
      exact op_isBl pins s σ H _ _ v u Q I rx ry ⟨a, b, rfl, rfl, q _ H (Ex.refl _) (.bl _)⟩
    | _ => cases e
  | _ => cases e
theorem opD_isnot : OpR X (compareOp .IsNot) (rD2 X.K G (isD true)) := rd2 fun pins s σ H x y v u Q a b d I rx ry ra rb e q => by
  cases rb with
  | non =>
    cases (Option.some.inj e)
    exact op_notN pins s σ H _ _ v u Q I rx ry ⟨rfl, by rw [rp_non ra]; exact q _ H (Ex.refl _) (.bl _)⟩
  | bl b => cases ra with
    | bl a =>
      cases (Option.some.inj e)
      exact op_notBl pins s σ H _ _ v u Q I rx ry ⟨a, b, rfl, rfl, q _ H (Ex.refl _) (.bl _)⟩
    | _ => cases e
  | _ => cases e
end
end Kp

namespace Kp
open PySem PySem.Spec PyProof.Rows L2
open Evl (Ex ex_l ex_t ex_rd)
section
variable {X : Cx} {G : Gv} {W : WX}
/-! ### subscripts -/
def getD : D → D → Option D
  | .lst l, e => match e with
    | .int i => atI l i
    | _ => none
  | .tup l, e => match e with
    | .int i => atI l i
    | _ => none
  | .str l, e => match e with
    | .int i => if l.length ≤ 100000 then (atI l i).map fun c => .str [c] else none
    | _ => none
  | .scr ns, e => match e with
    | .int i => (atI ns i).map .int
    | _ => none
  | _, _ => none
theorem atI_rp {K : PySem.W.Frag} {H : Hp} {xs : List V} {ds : List D} {i : Int} {d : D} (r : RpAll K G H xs ds) (h : atI ds i = some d) : ∃ v, atI xs i = some v ∧ Rp K G H v d := by
  unfold atI at h ⊢
  rw [r.length]
  obtain ⟨j, hj, hd⟩ := Option.bind_eq_some_iff.mp h
  obtain ⟨v, h1, h2⟩ := r.get hd
  exact ⟨v, by rw [hj]; exact h1, h2⟩
theorem atI_mem {α : Type} {xs : List α} {i : Int} {x : α} (h : atI xs i = some x) : x ∈ xs := by
  unfold atI at h
  obtain ⟨j, _, hd⟩ := Option.bind_eq_some_iff.mp h
  exact List.mem_of_getElem? hd
theorem ixD : IxR X (rD2 X.K G getD) := by
  intro value slice pins s σ H x y v u Q I rx ry ⟨a, b, d, ra, rb, e, q⟩ hs
  cases ra with
  | @lst p xs l hl r => cases rb with
    | int i =>
      obtain ⟨w, h1, h2⟩ := atI_rp r e
      exact ix_list value slice pins s σ H _ _ v u Q I rx ry ⟨p, xs, i, w, rfl, rfl, .inl (.inl hl), h1, q _ H (Ex.refl _) h2⟩ hs
    | _ => cases e
  | @tup p xs l hl r => cases rb with
    | int i =>
      obtain ⟨w, h1, h2⟩ := atI_rp r e
      exact ix_tup value slice pins s σ H _ _ v u Q I rx ry ⟨p, xs, i, w, rfl, rfl, hl, h1, q _ H (Ex.refl _) h2⟩ hs
    | _ => cases e
  | @str l hl => cases rb with
    | int i =>
      have e' : (if l.length ≤ 100000 then (atI l i).map fun c => D.str [c] else none) = some d := e
      by_cases c : l.length ≤ 100000
      · rw [if_pos c] at e'
        obtain ⟨ch, h1, rfl⟩ := Option.map_eq_some_iff.mp e'
        exact ix_str value slice pins s σ H _ _ v u Q I rx ry ⟨S l, i, ch, rfl, rfl, by rw [S_len]; exact Nat.le_trans c size_big, by rw [S_cps]; exact h1, q (.str (S [ch])) H (Ex.refl _) (.str (okS_one hl (atI_mem h1)))⟩ hs
      · rw [if_neg c] at e'; cases e'
    | _ => cases e
  | @scr p ns hl => cases rb with
    | int i =>
      obtain ⟨n, h1, rfl⟩ := Option.map_eq_some_iff.mp (show (atI ns i).map D.int = some d from e)
      have h2 : atI (ns.map V.int) i = some (.int n) := by
        unfold atI at h1 ⊢
        obtain ⟨j, hj, hd⟩ := Option.bind_eq_some_iff.mp h1
        rw [List.length_map, hj]
        show (ns.map V.int)[j]? = _
        rw [List.getElem?_map, hd]
        rfl
      exact ix_list value slice pins s σ H _ _ v u Q I rx ry ⟨p, _, i, _, rfl, rfl, hl, h2, q _ H (Ex.refl _) (.int n)⟩ hs
    | _ => cases e
  | _ => cases e
/-! ### slices -/
def cutL {α : Type} (xs : List α) (lo hi : Option Int) : List α := (xs.drop (HT.sIx xs.length 0 lo)).take (HT.sIx xs.length xs.length hi - HT.sIx xs.length 0 lo)
def cutD (d : D) (lo hi : Option Int) : Option D := match d with
  | .lst l => some (.lst (cutL l lo hi))
  | .tup l => some (.tup (cutL l lo hi))
  | .str l => if l.length ≤ 100000 then some (.str (cutL l lo hi)) else none
  | _ => none
theorem RpAll.cut {K : PySem.W.Frag} {H : Hp} {xs : List V} {ds : List D} (r : RpAll K G H xs ds) (lo hi : Option Int) : RpAll K G H (cutV xs lo hi) (cutL ds lo hi) := by
  unfold cutV cutL
  rw [r.length]
  exact (r.drop _).take _
def rSlD (K : PySem.W.Frag) (G : Gv) : V → Option Int → Option Int → Hp → VK → Prop := fun x lo hi H Q => ∃ a d, Rp K G H x a ∧ cutD a lo hi = some d ∧ ∀ v H', Ex H H' → Rp K G H' v d → Q v H'
theorem slD : SlR X (rSlD X.K G) := by
  intro pins s σ H x v vl vu lo hi sl Q I rx hs h1 h2 ⟨a, d, ra, e, q⟩
  cases ra with
  | @lst p xs l hl r =>
    cases (Option.some.inj e)
    exact sl_list pins s σ H _ v vl vu lo hi sl Q I rx hs h1 h2 ⟨p, xs, rfl, .inl (.inl hl), fun p' hp => q _ _ (ex_new hp) (new_lst hp (r.cut lo hi))⟩
  | @tup p xs l hl r =>
    cases (Option.some.inj e)
    refine sl_tupA pins s σ H _ v vl vu lo hi sl Q I rx hs h1 h2 ⟨p, xs, rfl, hl, fun c => ?_, fun c p' hp => q _ _ (ex_new hp) (new_tup hp (r.cut lo hi))⟩
    refine q _ H (Ex.refl _) (.tup hl ?_)
    have e1 : cutL l lo hi = l := by
      unfold cutL
      rw [← r.length, c.1, c.2, Nat.sub_zero, List.drop_zero, r.length, List.take_length]
    rw [e1]
    exact r
  | @str l hl =>
    have e' : (if l.length ≤ 100000 then some (D.str (cutL l lo hi)) else none) = some d := e
    by_cases c : l.length ≤ 100000
    · rw [if_pos c] at e'
      cases (Option.some.inj e')
      refine sl_str pins s σ H _ v vl vu lo hi sl Q I rx hs h1 h2 ⟨S l, rfl, by rw [S_len]; exact Nat.le_trans c size_big, ?_⟩
      have ec : cutS (S l) lo hi = S (cutL l lo hi) := by
        unfold cutS cutL
        rw [S_cps, S_len]
        rfl
      rw [ec]
      exact q _ H (Ex.refl _) (.str fun ch hc => hl ch (List.mem_of_mem_drop (List.mem_of_mem_take hc)))
    · rw [if_neg c] at e'; cases e'
  | _ => cases e
abbrev MO := PSt → Rs (Option Int)
def mNo : MO := fun _ => okR none
def mPt (m : M) : MO := fun st => (m st).bnd fun d => match d with
  | .int i => okR (some i)
  | _ => none
def OkO (K : PySem.W.Frag) (G : Gv) (W : WX) (σ : L2.St) (H : Hp) (Q : Option Int → Hp → Prop) : Rs (Option Int) → Prop
  | some (.ok o) => ∀ H', Ex H H' → Q o H'
  | some (.error c) => ∀ H', Ex H H' → W (.ref (G.cl c)) none σ H'
  | none => False
def tOs (K : PySem.W.Frag) (G : Gv) (W : WX) (m : MO) : TO := fun σ H Q => ∃ st, RepE K G H σ st ∧ OkO K G W σ H Q (m st)
theorem OkR.bndO {K : PySem.W.Frag} {σ : L2.St} {H : Hp} {Q : VK} {Q' : Option Int → Hp → Prop} {x : Rs (Option Int)} {f : Option Int → Rs D} (h : OkR K G W σ H Q (x.bnd f)) (k : ∀ a H1, Ex H H1 → OkR K G W σ H1 Q (f a) → Q' a H1) : OkO K G W σ H Q' x := by
  cases x with
  | none => exact h
  | some r => cases r with
    | ok d => exact fun H' e => k d H' e (OkR.mono (r := f d) h e)
    | error c => exact h
theorem OkO.bnd {K : PySem.W.Frag} {σ : L2.St} {H : Hp} {Q : Option Int → Hp → Prop} {Q' : VK} {x : Rs D} {f : D → Rs (Option Int)} (h : OkO K G W σ H Q (x.bnd f)) (k : ∀ a v H1, Ex H H1 → Rp K G H1 v a → OkO K G W σ H1 Q (f a) → Q' v H1) : OkR K G W σ H Q' x := by
  cases x with
  | none => exact h
  | some r => cases r with
    | ok d =>
      refine fun v H' e r => k d v H' e r ?_
      have h' : OkO K G W σ H Q (f d) := h
      cases ef : f d with
      | none => rw [ef] at h'; exact h'
      | some y => cases y with
        | ok ds => rw [ef] at h'; exact fun H2 e2 => h' H2 (e.trans e2)
        | error c => rw [ef] at h'; exact fun H2 e2 => h' H2 (e.trans e2)
    | error c => exact h
theorem po_weak {o : Option Expr} {t t' : TO} (h : PO X o t) (k : ∀ σ H Q, t' σ H Q → t σ H Q) : PO X o t' := ⟨fun pins s σ H Q I q => h.run pins s σ H Q I (k σ H Q q)⟩
theorem so_none : PO X none (tOs X.K G W mNo) := po_weak po_none fun σ H Q ⟨st, r, h⟩ => h H (Ex.refl _)
theorem so_some {e : Expr} {m : M} (h : SE X G W e m) : PO X (some e) (tOs X.K G W (mPt m)) := po_weak (po_some h) fun σ H Q ⟨st, r, h⟩ => ⟨st, r, OkO.bnd h fun a v H1 e1 r1 h1 => by
  cases r1 with
  | int i => exact ⟨i, rfl, h1 H1 (Ex.refl _)⟩
  | _ => exact h1.elim⟩
def mSl (m : M) (lo hi : MO) : M := fun st => (m st).bnd fun a => (lo st).bnd fun l => (hi st).bnd fun h => ofO (cutD a l h)
theorem se_sl {e : Expr} {lo hi : Option Expr} {m : M} {ml mh : MO} {p2 pos : Pos} (he : SE X G W e m) (h1 : PO X lo (tOs X.K G W ml)) (h2 : PO X hi (tOs X.K G W mh)) : SE X G W (.Subscript e (.Slice lo hi none p2) pos) (mSl m ml mh) :=
  pe_weak (pe_slice slD he h1 h2) fun σ H Q ⟨st, r, h⟩ => ⟨st, r, h.bnd fun a v H1 e1 r1 h1 => ⟨st, r.mono e1, h1.bndO fun l H2 e2 h2 => ⟨st, (r.mono e1).mono e2, h2.bndO fun u H3 e3 h3 => by
    obtain ⟨d, ed, q⟩ := OkR.ofO h3
    exact ⟨a, d, (r1.mono e2).mono e3, ed, q⟩⟩⟩⟩
/-! ### built-ins -/
theorem rdA {f : Value} {g : List D → Option D} (h : ∀ (pins : List (Addr × Obj)) (s : Shared) (σ : L2.St) (H : Hp) (xs : List V) (us : List Value) (Q : VK) (ds : List D) (d : D), Inv X pins σ H s → Vals xs us → RpAll X.K G H xs ds → g ds = some d → (∀ v H', Ex H H' → Rp X.K G H' v d → Q v H') →
    wpAny (model X.prog X.w) X.A (call f us) (EP X pins σ Q) X.xe s) : CallR X f (rDA X.K G g) := by
  intro pins s σ H xs us Q I rx ⟨ds, d, r, e, q⟩
  exact h pins s σ H xs us Q ds d I rx r e q
/-- one argument -/
def arg1 (g : D → Option D) : List D → Option D
  | [d] => g d
  | _ => none
theorem rdA1 {f : Value} {g : D → Option D} (h : ∀ (pins : List (Addr × Obj)) (s : Shared) (σ : L2.St) (H : Hp) (x : V) (us : List Value) (Q : VK) (a d : D), Inv X pins σ H s → Vals [x] us → Rp X.K G H x a → g a = some d → (∀ v H', Ex H H' → Rp X.K G H' v d → Q v H') →
    wpAny (model X.prog X.w) X.A (call f us) (EP X pins σ Q) X.xe s) : CallR X f (rDA X.K G (arg1 g)) := rdA fun pins s σ H xs us Q ds d I rx r e q => by
  cases r with
  | nil => cases e
  | cons r1 rr => cases rr with
    | nil => exact h pins s σ H _ us Q _ d I rx r1 e q
    | cons _ _ => cases e
def lenD : D → Option D
  | .lst l => some (.int l.length)
  | .tup l => some (.int l.length)
  | .scr l => some (.int l.length)
  | .str l => if l.length ≤ 100000 then some (.int l.length) else none
  | _ => none
theorem cD_len : CallR X (.builtin "len") (rDA X.K G (arg1 lenD)) := rdA1 fun pins s σ H x us Q a d I rx ra e q => by
  cases ra with
  | @lst p xs l hl r =>
    cases (Option.some.inj e)
    exact call_len pins s σ H _ us Q I rx ⟨_, _, rfl, .inl ⟨xs, .inl (.inl hl), rfl⟩, by rw [r.length]; exact q _ H (Ex.refl _) (.int _)⟩
  | @tup p xs l hl r =>
    cases (Option.some.inj e)
    exact call_len pins s σ H _ us Q I rx ⟨_, _, rfl, .inr ⟨xs, hl, rfl⟩, by rw [r.length]; exact q _ H (Ex.refl _) (.int _)⟩
  | @scr p ns hl =>
    cases (Option.some.inj e)
    exact call_len pins s σ H _ us Q I rx ⟨_, _, rfl, .inl ⟨_, hl, rfl⟩, by rw [List.length_map]; exact q _ H (Ex.refl _) (.int _)⟩
  | @str l hl =>
    have e' : (if l.length ≤ 100000 then some (D.int l.length) else none) = some d := e
    by_cases c : l.length ≤ 100000
    · rw [if_pos c] at e'
      cases (Option.some.inj e')
      exact call_len pins s σ H _ us Q I rx ⟨_, (S l).length, rfl, ⟨by rw [S_len]; exact Nat.le_trans c size_big, rfl⟩, by rw [S_len]; exact q _ H (Ex.refl _) (.int _)⟩
    · rw [if_neg c] at e'; cases e'
  | _ => cases e
/-- the built-in type of data -/
def tyD : D → Option String
  | .non => some "NoneType"
  | .bl _ => some "bool"
  | .int _ => some "int"
  | .str _ => some "str"
  | .tup _ => some "tuple"
  | .lst _ => some "list"
  | .dct _ => some "dict"
  | _ => none
def isiD : List D → Option D
  | [d, .ty n] => match tyD d with
    | some t => (kitB t n).map .bl
    | none => none
  | _ => none
theorem tyD_ok {K : PySem.W.Frag} {H : Hp} {v : V} {d : D} {t : String} (r : Rp K G H v d) (h : tyD d = some t) : TyX K H v (.type t) := by
  cases r with
  | non => cases (Option.some.inj h); exact .base .non
  | bl b => cases (Option.some.inj h); exact .base (.bl b)
  | int i => cases (Option.some.inj h); exact .base (.int i)
  | str _ => cases (Option.some.inj h); exact .base (.str _)
  | tup h1 _ =>
    cases (Option.some.inj h)
    rcases h1 with h1 | ⟨o, its, n, hk, hc, _⟩
    · rcases h1 with h1 | ⟨o, h1⟩
      · exact .base (.tup h1)
      · exact .fTuple h1
    · exact .kTuple hk hc
  | lst h1 _ => cases (Option.some.inj h); exact .base (.lst h1)
  | dK h1 _ => cases (Option.some.inj h); exact .base (.dK h1)
  | dT h1 _ => cases (Option.some.inj h); exact .base (.dT h1)
  | _ => cases h
theorem cD_isi : CallR X (.builtin "isinstance") (rDA X.K G isiD) := rdA fun pins s σ H xs us Q ds d I rx r e q => by
  have key : ∃ a n, ds = [a, .ty n] := by
    match ds, e with
    | [a, .ty n], _ => exact ⟨a, n, rfl⟩
  obtain ⟨a, n, rfl⟩ := key
  cases r with
  | cons r1 rr => cases rr with
    | cons r2 rr =>
      cases rr
      cases r2
      have e' : (match tyD a with
        | some t => (kitB t n).map D.bl
        | none => none) = some d := e
      cases et : tyD a with
      | none => rw [et] at e'; cases e'
      | some t =>
        rw [et] at e'
        obtain ⟨b, hb, rfl⟩ := Option.map_eq_some_iff.mp (show (kitB t n).map D.bl = some d from e')
        exact call_isi pins s σ H _ us Q I rx ⟨_, _, _, _, b, rfl, .ty n, tyD_ok r1 et, kit_ty hb, q _ H (Ex.refl _) (.bl b)⟩
theorem se_bty {x : Str} {n : String} {pos : Pos} (hg : Gl X x) (hm : X.mg x = none) (hv : bootBuiltins x = some (.type n)) (hn : x ≠ "__name__" := by decide) (hd : (x == ("__debug__" : Str)) = false := by decide) : SE X G W (.Name x pos) (mC (.ty n)) :=
  se_c (pe_bltn (v := .ty n) hg hm hv rfl hn hd) fun _ => .ty n
/-- lists of bools, of ints -/
def asBl : D → Option Bool
  | .bl b => some b
  | _ => none
def asInt : D → Option Int
  | .int i => some i
  | _ => none
def asStr : D → Option (List Nat)
  | .str l => some l
  | _ => none
def allM {α : Type} (f : D → Option α) : List D → Option (List α)
  | [] => some []
  | d :: ds => match f d with
    | none => none
    | some a => match allM f ds with
      | none => none
      | some r => some (a :: r)
theorem allM_bl {K : PySem.W.Frag} {H : Hp} : ∀ {xs : List V} {ds : List D} {bs : List Bool}, RpAll K G H xs ds → allM asBl ds = some bs → xs = bs.map V.bl
  | _, _, bs, .nil, h => by cases (Option.some.inj h); rfl
  | _, _, bs, .cons (d := d) (ds := ds) r rr, h => by
    unfold allM at h
    cases r with
    | bl b =>
      dsimp only [asBl] at h
      cases e : allM asBl ds with
      | none => rw [e] at h; cases h
      | some r => rw [e] at h; cases (Option.some.inj h); rw [allM_bl rr e]; rfl
    | _ => cases h
theorem allM_int {K : PySem.W.Frag} {H : Hp} : ∀ {xs : List V} {ds : List D} {bs : List Int}, RpAll K G H xs ds → allM asInt ds = some bs → xs = bs.map V.int
  | _, _, bs, .nil, h => by cases (Option.some.inj h); rfl
  | _, _, bs, .cons (d := d) (ds := ds) r rr, h => by
    unfold allM at h
    cases r with
    | int b =>
      dsimp only [asInt] at h
      cases e : allM asInt ds with
      | none => rw [e] at h; cases h
      | some r => rw [e] at h; cases (Option.some.inj h); rw [allM_int rr e]; rfl
    | _ => cases h
theorem allM_str {K : PySem.W.Frag} {H : Hp} : ∀ {xs : List V} {ds : List D} {bs : List (List Nat)}, RpAll K G H xs ds → allM asStr ds = some bs → xs = (bs.map S).map V.str ∧ ∀ b ∈ bs, okS b
  | _, _, bs, .nil, h => by cases (Option.some.inj h); exact ⟨rfl, fun _ h => nomatch h⟩
  | _, _, bs, .cons (d := d) (ds := ds) r rr, h => by
    unfold allM at h
    cases r with
    | @str l ok =>
      dsimp only [asStr] at h
      cases e : allM asStr ds with
      | none => rw [e] at h; cases h
      | some r =>
        rw [e] at h
        cases (Option.some.inj h)
        obtain ⟨h1, h2⟩ := allM_str rr e
        refine ⟨by rw [h1]; rfl, fun b hb => ?_⟩
        rcases List.mem_cons.mp hb with z | z
        · rw [z]; exact ok
        · exact h2 b z
    | _ => cases h
def allD : D → Option D
  | .lst l => (allM asBl l).map fun bs => .bl (bs.all id)
  | _ => none
def anyD : D → Option D
  | .lst l => (allM asBl l).map fun bs => .bl (bs.any id)
  | _ => none
theorem cD_all (hc : X.calm = true) : CallR X (.builtin "all") (rDA X.K G (arg1 allD)) := rdA1 fun pins s σ H x us Q a d I rx ra e q => by
  cases ra with
  | @lst p xs l hl r =>
    obtain ⟨bs, hb, rfl⟩ := Option.map_eq_some_iff.mp (show (allM asBl l).map (fun bs => D.bl (bs.all id)) = some d from e)
    have ex := allM_bl r hb
    subst ex
    exact cr_all hc pins s σ H _ us Q I rx ⟨p, bs, rfl, .inl (.inl hl), q _ H (Ex.refl _) (.bl _)⟩
  | _ => cases e
theorem cD_any (hc : X.calm = true) : CallR X (.builtin "any") (rDA X.K G (arg1 anyD)) := rdA1 fun pins s σ H x us Q a d I rx ra e q => by
  cases ra with
  | @lst p xs l hl r =>
    obtain ⟨bs, hb, rfl⟩ := Option.map_eq_some_iff.mp (show (allM asBl l).map (fun bs => D.bl (bs.any id)) = some d from e)
    have ex := allM_bl r hb
    subst ex
    exact cr_any hc pins s σ H _ us Q I rx ⟨p, bs, rfl, .inl (.inl hl), q _ H (Ex.refl _) (.bl _)⟩
  | _ => cases e
def sumD : D → Option D
  | .lst l => (allM asInt l).map fun bs => .int bs.sum
  | _ => none
theorem cD_sum (hc : X.calm = true) : CallR X (.builtin "sum") (rDA X.K G (arg1 sumD)) := rdA1 fun pins s σ H x us Q a d I rx ra e q => by
  cases ra with
  | @lst p xs l hl r =>
    obtain ⟨bs, hb, rfl⟩ := Option.map_eq_some_iff.mp (show (allM asInt l).map (fun bs => D.int bs.sum) = some d from e)
    have ex := allM_int r hb
    subst ex
    exact cr_sum hc pins s σ H _ us Q I rx ⟨p, bs, rfl, .inl (.inl hl), q _ H (Ex.refl _) (.int _)⟩
  | _ => cases e
/-- tuple(x) of a list, a tuple; list(x) -/
def tupleD : D → Option D
  | .lst l => some (.tup l)
  | .tup l => some (.tup l)
  | _ => none
theorem cD_tuple : CallR X (.type "tuple") (rDA X.K G (arg1 tupleD)) := rdA1 fun pins s σ H x us Q a d I rx ra e q => by
  cases ra with
  | @lst p xs l hl r =>
    cases (Option.some.inj e)
    exact call_tuple_of pins s σ H _ us Q I rx ⟨p, xs, rfl, .inl ⟨.inl (.inl hl), fun p' hp => q _ _ (ex_new hp) (new_tup hp r)⟩⟩
  | @tup p xs l hl r =>
    cases (Option.some.inj e)
    exact call_tuple_of pins s σ H _ us Q I rx ⟨p, xs, rfl, .inr ⟨hl, q _ H (Ex.refl _) (.tup hl r)⟩⟩
  | _ => cases e
def listD : D → Option D
  | .lst l => some (.lst l)
  | .tup l => some (.lst l)
  | _ => none
theorem cD_list : CallR X (.type "list") (rDA X.K G (arg1 listD)) := rdA1 fun pins s σ H x us Q a d I rx ra e q => by
  cases ra with
  | @lst p xs l hl r =>
    cases (Option.some.inj e)
    exact call_list_of pins s σ H _ us Q I rx ⟨p, xs, rfl, .inl (.inl (.inl hl)), fun p' hp => q _ _ (ex_new hp) (new_lst hp r)⟩
  | @tup p xs l hl r =>
    cases (Option.some.inj e)
    exact call_list_of pins s σ H _ us Q I rx ⟨p, xs, rfl, .inr hl, fun p' hp => q _ _ (ex_new hp) (new_lst hp r)⟩
  | _ => cases e
/-- the figures of a number from 0 to 9 -/
def strD : D → Option D
  | .int i => if 0 ≤ i ∧ i ≤ 9 then some (.str [48 + i.toNat]) else none
  | _ => none
theorem toString_fig : ∀ n : Nat, n ≤ 9 → (toString (n : Int) : Str) = S [48 + n] := by decide
theorem cD_str : CallR X (.type "str") (rDA X.K G (arg1 strD)) := rdA1 fun pins s σ H x us Q a d I rx ra e q => by
  cases ra with
  | int i =>
    have e' : (if 0 ≤ i ∧ i ≤ 9 then some (D.str [48 + i.toNat]) else none) = some d := e
    by_cases c : 0 ≤ i ∧ i ≤ 9
    · rw [if_pos c] at e'
      cases (Option.some.inj e')
      have hi : ((i.toNat : Nat) : Int) = i := Int.toNat_of_nonneg c.1
      have ht := toString_fig i.toNat (by omega)
      rw [hi] at ht
      refine call_str_int pins s σ H _ us Q I rx ⟨i, rfl, ?_, ?_⟩
      · have h9 : i.natAbs ≤ 9 := by omega
        have : i.natAbs.log2 ≤ i.natAbs := Nat.log2_le_self _
        omega
      · rw [ht]
        exact q _ H (Ex.refl _) (.str fun ch hc => by
          have e : ch = 48 + i.toNat := by simpa using hc
          omega)
    · rw [if_neg c] at e'; cases e'
  | _ => cases e
end
end Kp

namespace Kp
open PySem PySem.Spec PyProof.Rows L2
open Evl (Ex ex_l ex_t ex_rd)

/-! ### sets of ints and texts -/
def kOf (e : Int × Value) : Key := match e.2 with
  | .int k _ => .inl k
  | .str x _ => .inr x
  | _ => .inl 0
def GoodK (w : World) (e : Int × Value) : Prop := ∃ k : Key, keyIs k e.2 = true ∧ e.1 = keyH w k
theorem kOf_is {e : Int × Value} {k : Key} (h : keyIs k e.2 = true) : kOf e = k := by
  rcases keyIs_shape h with ⟨i, t, rfl, q⟩ | ⟨x, t, rfl, q⟩
  · unfold kOf; rw [q]
  · unfold kOf; rw [q]
def SetRk (w : World) (h : Heap) (a : Addr) (ks : List Key) : Prop :=
  ∃ o es ep t, h.get? a = some o ∧ o.ExactSet ∧ o.data = .set es ep t ∧ (∀ e ∈ es.toList, GoodK w e) ∧ (es.toList.map kOf).Perm ks ∧ ks.Nodup ∧
    es.size < scanBound ∧ t.fits es.size = true ∧ Ris t.place.toList ∧ (w.params.followText "set-order" = true ∨ t.led = true)
section
variable {P : Program} {w : World} {h h' : Heap} {a : Addr} {ks : List Key}
theorem SetRk.at (R : SetRk w h a ks) (k : ∀ o, h.get? a = some o → h'.get? a = some o) : SetRk w h' a ks := by
  obtain ⟨o, es, ep, t, ho, r⟩ := R
  exact ⟨o, es, ep, t, k o ho, r⟩
theorem goodK_elems {l : List (Int × Value)} (g : ∀ e ∈ l, GoodK w e) : ElemsOf (mixKind P w) l := fun e he => by
  obtain ⟨k, h1, h2⟩ := g e he
  refine ⟨⟨k, h1, h2⟩, ?_⟩
  rcases keyIs_shape h1 with ⟨i, t, rfl, q⟩ | ⟨x, t, rfl, q⟩
  · rw [q]; rfl
  · rw [q]; rfl
theorem goodK_is {e : Int × Value} (g : GoodK w e) (k : Key) : (mixKind P w).is k e.2 = true ↔ kOf e = k := by
  obtain ⟨k0, h1, _⟩ := g
  constructor
  · intro q; exact kOf_is q
  · intro q
    rw [kOf_is h1] at q
    rw [← q]
    exact h1
end
section
variable {P : Program} {w : World} {A : Around} {E : Value → Shared → Prop} {s : Shared} {a : Addr} {ks : List Key}
theorem setRk_add_tail {g : Bool → Sem Unit} (hg : ∀ (b : Bool) (s₁ : Shared) (Q' : Unit → Shared → Prop), Q' () s₁ → wpAny (model P w) A (g b) Q' E s₁)
    {o : Obj} {es : Array (Int × Value)} {ep : Nat} {t : SetTable} (ho : s.heap.get? a = some o) (hex : o.ExactSet) (hd : o.data = .set es ep t)
    {es1 : Array (Int × Value)} {t2 : SetTable} {ks' : List Key} (g1 : ∀ e ∈ es1.toList, GoodK w e) (m1 : (es1.toList.map kOf).Perm ks') (nd1 : ks'.Nodup)
    (hb1 : es1.size < scanBound) (hf2 : t2.fits es1.size = true) (hr : Ris t2.place.toList) (hl : w.params.followText "set-order" = true ∨ t2.led = true) {wasDummy : Bool} {R : Option Bool → Shared → Prop}
    (hR : ∀ h', Heap.SameBut a s.heap h' → SetRk w h' a ks' → R (some true) { s with heap := h' }) :
    wpAny (model P w) A (do
        storeSet a es1 t2
        if (!wasDummy && t2.tooFull) = true then do
            g (relayAll t2 es1 (SetTable.grown es1.size)).2.2
            storeSet a (relayAll t2 es1 (SetTable.grown es1.size)).1 (relayAll t2 es1 (SetTable.grown es1.size)).2.1
            pure (some true)
          else pure (some true)) R E s := by
  refine wpAny_bind (wpAny_storeSet_of ho hd ?_ (fits_of_scanBound hb1))
  have ho1 := store_at (es' := es1) (t' := t2) ho hd
  have sb1 := Heap.SameBut.update s.heap a (Obj.putSet es1 t2)
  split
  · have pm := relayAll_perm t2 es1 (SetTable.grown es1.size)
    have hf3 := relayAll_fits t2 es1 (SetTable.grown es1.size)
    have hr3 := relayAll_ris t2 es1 (SetTable.grown es1.size)
    have hl3 := relayAll_led t2 es1 (SetTable.grown es1.size)
    generalize relayAll t2 es1 (SetTable.grown es1.size) = Z at pm hf3 hr3 hl3 ⊢
    obtain ⟨es2, t3, gave⟩ := Z
    dsimp only at pm hf3 hr3 hl3 ⊢
    have hsz : es2.size = es1.size := by rw [← Array.length_toList, pm.length_eq, Array.length_toList]
    have hb2 : es2.size < scanBound := by rw [hsz]; exact hb1
    refine wpAny_bind (hg _ _ _ ?_)
    refine wpAny_bind (wpAny_storeSet_of ho1 rfl ?_ (fits_of_scanBound hb2))
    have ho2 := store_at (es' := es2) (t' := t3) ho1 rfl
    refine wpAny_pure (hR _ (sb1.trans (Heap.SameBut.update _ a _)) ?_)
    exact ⟨_, es2, _, t3, ho2, hex, rfl, fun e he => g1 e (pm.mem_iff.mp he), (pm.map kOf).trans m1, nd1, hb2, hf3, hr3, hl.imp id fun z => by rw [hl3]; exact z⟩
  · exact wpAny_pure (hR _ sb1 ⟨_, es1, _, t2, ho1, hex, rfl, g1, m1, nd1, hb1, hf2, hr, hl⟩)
open Classical in
/-- one more -/
noncomputable def addK (ks : List Key) (k : Key) : List Key := if k ∈ ks then ks else k :: ks
theorem setRk_add_hashed {k : Key} {v : Value} {Q : Bool → Shared → Prop} (hkey : keyIs k v = true) (R : SetRk w s.heap a ks) (room : ks.length + 1 < scanBound)
    (hQ : ∀ b h', Heap.SameBut a s.heap h' → SetRk w h' a (addK ks k) → Q b { s with heap := h' }) :
    wpAny (model P w) A (setAddHashed a v ((mixKind P w).hash k)) Q E s := by
  obtain ⟨o, es, ep, t, ho, hex, hd, g, pk0, nd, hb, hf, hr, hl⟩ := R
  have hn : es.size = ks.length := by rw [← pk0.length_eq, List.length_map, Array.length_toList]
  have hkey' : (mixKind P w).is k v = true := hkey
  have hsc : v.scannable = true := by
    rcases keyIs_shape hkey with ⟨i, t, rfl, rfl⟩ | ⟨x, t, rfl, rfl⟩ <;> rfl
  have hel : ElemsOf (mixKind P w) es.toList := goodK_elems g
  unfold setAddHashed setAddHashedIn
  refine wpAny_holding (wpAny_bind (wpAny_setState_of ho hd hf ?_))
  dsimp only
  rw [byScan_of hsc hb hel]
  simp only [↓reduceIte]
  unfold setAddByScan
  refine wpAny_bind ?_
  refine wpAny_bind (wpAny_rule ?_)
  refine wpAny_bind (wpAny_setScan_of hkey' ho hd hf hel ?_)
  cases hfi : List.findIdx? (fun e => (mixKind P w).is k e.2) es.toList with
  | some j =>
    dsimp only
    obtain ⟨hj, pj, _⟩ := List.findIdx?_eq_some_iff_getElem.mp hfi
    have hSk : k ∈ ks := pk0.mem_iff.mp (List.mem_map.mpr ⟨es.toList[j], List.getElem_mem hj, kOf_is pj⟩)
    refine wpAny_pure (wpAny_pure ?_)
    refine hQ _ s.heap (Heap.SameBut.refl a s.heap) ⟨o, es, ep, t, ho, hex, hd, g, ?_, ?_, hb, hf, hr, hl⟩
    · unfold addK; rw [if_pos hSk]; exact pk0
    · unfold addK; rw [if_pos hSk]; exact nd
  | none =>
    dsimp only
    have hnk : k ∉ ks := fun z => by
      obtain ⟨e, he, q⟩ := List.mem_map.mp (pk0.mem_iff.mpr z)
      have c := List.findIdx?_eq_none_iff.mp hfi e he
      rw [(goodK_is (P := P) (g e he) k).2 q] at c
      cases c
    have hgw : ∀ (b : Bool) {s₁ : Shared} {Q' : Unit → Shared → Prop}, Q' () s₁ → wpAny (model P w) A (match b with | true => rule "set.scan.the-table-gave-way" | false => pure ()) Q' E s₁ :=
      fun b s₁ Q' q => by cases b <;> first | exact wpAny_pure q | exact wpAny_rule q
    have pm := layNew_perm t es ((mixKind P w).hash k) v
    have hf1 := layNew_fits t es ((mixKind P w).hash k) v
    have hr1 := layNew_ris t es ((mixKind P w).hash k) v hr
    have hl1 := layNew_led t es ((mixKind P w).hash k) v
    generalize layNew t es ((mixKind P w).hash k) v = Z at pm hf1 hr1 hl1 ⊢
    obtain ⟨es1, t1, wasDummy, gave⟩ := Z
    dsimp only at pm hf1 hr1 hl1 ⊢
    rw [Array.toList_push] at pm
    have pc : es1.toList.Perm (((mixKind P w).hash k, v) :: es.toList) := pm.trans (List.perm_append_singleton _ _)
    have ek : kOf (((mixKind P w).hash k), v) = k := kOf_is hkey
    have pk : (es1.toList.map kOf).Perm (k :: ks) := by
      have q := pc.map kOf
      rw [List.map_cons, ek] at q
      exact q.trans (pk0.cons k)
    have g1 : ∀ e ∈ es1.toList, GoodK w e := fun e he => by
      rcases List.mem_cons.mp (pc.mem_iff.mp he) with z | z
      · rw [z]; exact ⟨k, hkey, rfl⟩
      · exact g e z
    have nd1 : (k :: ks).Nodup := List.nodup_cons.mpr ⟨hnk, nd⟩
    have hsz : es1.size = ks.length + 1 := by rw [← Array.length_toList, pc.length_eq, List.length_cons, Array.length_toList, hn]
    have hb1 : es1.size < scanBound := by rw [hsz]; exact room
    have hled : w.params.followText "set-order" = true ∨ t1.led = true := hl.imp id fun z => by rw [hl1]; exact z
    have fin : ∀ h', Heap.SameBut a s.heap h' → SetRk w h' a (k :: ks) → Q true { s with heap := h' } := fun h' sb r => by
      refine hQ true h' sb ?_
      unfold addK; rw [if_neg hnk]; exact r
    refine wpAny_bind (hgw _ ?_)
    split
    · refine wpAny_bind ?_
      rw [hashByValue_scannable 8 hsc]
      refine wpAny_pure ?_
      refine setRk_add_tail ?_ ho hex hd g1 pk nd1 hb1 ?_ ?_ ?_ ?_
      · intro b s₁ Q' q; cases b <;> first | exact wpAny_pure q | exact wpAny_rule q
      · first | (split <;> first | exact hf1 | exact SetTable.fits_plain_off hf1) | exact hf1
      · first | (split <;> exact hr1) | exact hr1
      · first | (split <;> exact hled) | exact hled
      · intro h' sb r; dsimp only; exact wpAny_pure (fin h' sb r)
    · refine wpAny_bind (wpAny_pure ?_)
      simp only [↓reduceIte]
      refine setRk_add_tail ?_ ho hex hd g1 pk nd1 hb1 hf1 hr1 hled ?_
      · intro b s₁ Q' q; cases b <;> first | exact wpAny_pure q | exact wpAny_rule q
      · intro h' sb r; dsimp only; exact wpAny_pure (fin h' sb r)
theorem setRk_fresh {h : Heap} (w : World) : SetRk w (h.push { cls := .type "set", dict := none, data := .set #[] 0 (.fresh 0 0 (!w.params.followText "set-order")) }) h.objs.size [] :=
  ⟨_, #[], 0, _, Heap.get?_push_size _ rfl, ⟨rfl, rfl, rfl⟩, rfl, (fun e he => by simp at he), .nil, List.nodup_nil, (by decide), (by rfl), List.Pairwise.nil, by
    show _ ∨ (!w.params.followText "set-order") = true
    cases w.params.followText "set-order"
    · exact .inr rfl
    · exact .inl rfl⟩
/-- set.update's loop -/
theorem set_update_keys {I : Addr} {fp wr : List Addr} {G : Array GenState → Array GenState → Prop} {n : Nat} {Pv : Nat → Value → Prop} {St : Nat → Shared → Prop} {R : Result → Shared → Prop}
    (W : WalksS P w A.in1 I fp wr G n Pv St) (S : Addr) (hSf : S ∉ fp) (ks : List Key) (hn : n = ks.length) (hfew : ks.length + 1 < scanBound) (hval : ∀ i v, Pv i v → ∃ k, ks[i]? = some k ∧ keyIs k v = true) :
    ∀ (k i : Nat) (s : Shared), n - i = k → i ≤ n → St i s → SetRk w s.heap S ((ks.take i).foldl addK []) →
      (∀ s', Moved (S :: wr) G s s' → SetRk w s'.heap S (ks.foldl addK []) → R (.ok (.ret .none)) s') →
      codeAny (model P w) A (.builtin "set.update.loop" ⟨[.ref S, .ref I], []⟩) R s := by
  have hSw : S ∉ wr := fun h => hSf (W.sub _ h)
  have hsub : ∀ b ∈ wr, b ∈ S :: wr := fun b hb => List.mem_cons_of_mem _ hb
  intro k
  induction k with
  | zero =>
    intro i s hk' hi hst hS hR
    have hin : i = n := by omega
    subst hin
    refine codeAny_builtin F.entry_set_update_loop ?_
    rw [Around.under_plainId F.plain_set_update_loop _]
    show wpAny _ A.in1 (pyNext (.ref I) >>= _) _ _ s
    refine wpAny_bind (W.done s _ _ hst fun s' hm => ?_)
    show wpAny _ A.in1 (ret Value.none) _ _ s'
    rw [hn, List.take_length] at hS
    exact wpAny_pure (hR s' (hm.mono hsub) (hS.at fun o e => hm.heap S o hSw e))
  | succ k ih =>
    intro i s hk' hi hst hS hR
    have hlt : i < n := by omega
    refine codeAny_builtin F.entry_set_update_loop ?_
    rw [Around.under_plainId F.plain_set_update_loop _]
    show wpAny _ A.in1 (pyNext (.ref I) >>= _) _ _ s
    refine wpAny_bind (W.item i s _ _ hlt hst fun v s' hP hst' hm => ?_)
    obtain ⟨ky, hp, hv⟩ := hval i v hP
    have hS' := hS.at (h' := s'.heap) fun o e => hm.heap S o hSw e
    show wpAny _ A.in1 (holding [v] (setAdd S v) >>= _) _ _ s'
    refine wpAny_bind (wpAny_holding ?_)
    unfold setAdd
    refine wpAny_holding ?_
    refine wpAny_bind ((mixKind P w).pyHash (show (mixKind P w).is ky v = true from hv) ?_)
    have hlen : ∀ (l acc : List Key), (l.foldl addK acc).length ≤ acc.length + l.length := fun l => by
      induction l with
      | nil => intro acc; exact Nat.le_refl _
      | cons x l ih2 =>
        intro acc
        have := ih2 (addK acc x)
        have h2 : (addK acc x).length ≤ acc.length + 1 := by unfold addK; split <;> simp
        rw [List.foldl_cons, List.length_cons]
        omega
    have hroom : ((ks.take i).foldl addK []).length + 1 < scanBound := by
      have := hlen (ks.take i) []
      rw [List.length_take, List.length_nil] at this
      omega
    refine setRk_add_hashed (s := { s' with toks := _ }) hv hS' hroom fun b h' hsb hS2 => ?_
    have hS3 : SetRk w h' S ((ks.take (i + 1)).foldl addK []) := by
      rw [List.take_add_one, hp, List.foldl_append]
      exact hS2
    refine wpAny_pure ⟨plainId_quiet F.plain_set_update_loop _, ih (i + 1) _ (by omega) hlt (W.frame _ s' _ _ hst' (Nat.le_add_right _ _) fun b hb o e => ?_) hS3 fun s'' hm'' hS'' => ?_⟩
    · rw [hsb.2 b (fun h : b = S => hSf (by rw [← h]; exact hb))]; exact e
    · refine hR s'' (Moved.trans W.gtrans ((hm.mono hsub).then_heap (Nat.le_add_right _ _) fun b o hb e => ?_) hm'') hS''
      rw [hsb.2 b (fun h : b = S => hb (by rw [h]; exact List.mem_cons_self))]; exact e
end
end Kp

namespace Kp
open PySem PySem.Spec PyProof.Rows L2
open Evl (Ex ex_l ex_t ex_rd)
/-- the new, empty set -/
abbrev set0 (w : World) : Obj := { cls := .type "set", dict := none, data := .set #[] 0 (.fresh 0 0 (!w.params.followText "set-order")) }
section
variable {P : Program} {w : World} {A : Around} {E : Value → Shared → Prop} {s : Shared}
theorem sub_str_set : isSubtype (.type "str") (.type "set") = pure false := by rw [isSubtype_type]; kernel_rfl
theorem sub_str_frozenset : isSubtype (.type "str") (.type "frozenset") = pure false := by rw [isSubtype_type]; kernel_rfl
set_option maxHeartbeats 3200000 in
theorem call_set_str {x : Str} {t : Tok}  (ks : List Key) (hlen : x.cps.size = ks.length) (hval : ∀ i v, SignAt x i v → ∃ k, ks[i]? = some k ∧ keyIs k v = true) {Q : Value → Shared → Prop} (hh : A.handled = none) (hfew : ks.length + 1 < scanBound)
    (h : ∀ (h' : Heap) (tk : Nat), SetRk w h' s.heap.objs.size (ks.foldl addK []) → (∀ b o, s.heap.get? b = some o → h'.get? b = some o) → Q (.ref s.heap.objs.size) { s with heap := h', toks := tk }) :
    wpAny (model P w) A (call (.type "set") [.str x t]) Q E s := by
  obtain ⟨c, tl, hmro⟩ := F.called_set.mro
  have hmade := F.called_set.made
  have hsub := F.called_set.sub
  refine wpAny_call (codeAny_of_tree ?_)
  show wpAny _ _ (callAny (.type "set") _) _ _ _
  refine wpAny_pure ⟨Code.quiet_builtin _ (by decide +kernel), codeAny_builtin F.entry_type_call ?_⟩
  rw [Around.under_plain (weight_type_call_type "set" [.str x t] []) rfl]
  have h1 := F.called_set.notType
  have h2 := F.called_set.canCreate
  have hct := F.typeCall_set_1 (.str x t)
  repeat (any_goals (first | assumption | wp_step))
  refine codeAny_mono (code_set_led1 (.str x t) (E := E) (Q₁ := fun obj s₁ => obj = .ref s.heap.objs.size ∧ s₁ = { s with heap := s.heap.push (set0 w) }) ⟨rfl, rfl⟩) fun r s₁ hr => ?_
  cases r with
  | error e => exact hr
  | ok fl =>
    cases fl with
    | ret obj =>
      obtain ⟨rfl, rfl⟩ := hr
      have hS : (s.heap.push (set0 w)).get? s.heap.objs.size = some (set0 w) := Heap.get?_push_size _ rfl
      have hT : Shared.TypeIs { s with heap := s.heap.push (set0 w) } (.ref s.heap.objs.size) "set" := ⟨_, hS, rfl⟩
      have hli := F.called_set.init.lookup
      have hbi := F.called_set.init.bind (.ref s.heap.objs.size)
      repeat (any_goals (first | assumption | wp_step))
      refine codeAny_mono (codeAny_call_builtin (R := wants (fun r s₂ => r = .none ∧ ∃ h' tk, s₂ = { s with heap := h', toks := tk } ∧ SetRk w h' s.heap.objs.size (ks.foldl addK []) ∧
          (∀ b o, s.heap.get? b = some o → h'.get? b = some o)) E) F.called_set.init.plain F.entry_set_init (check_set_init_1 hT ?_)) fun r₂ s₂ hr₂ => ?_
      · have hh3 : A.in1.in1.in1.handled = none := by simp [hh]
        have hsls := sub_str_set
        have hslf := sub_str_frozenset
        have hne : (Value.type "str" == Value.type "dict") = false := by decide
        unfold Builtin.«set.__init__» noKeywords Builtin.Frozenset.updateFrom
        generalize hPI : pyIter = PI
        wp_walk
        subst hPI
        refine wpAny_pyIter_str fun o St W hst => ?_
        refine wpAny_bind (wpAny_runValue ?_)
        have hSf : s.heap.objs.size ∉ [(s.heap.push (set0 w)).objs.size] := by
          rw [Heap.size_push]; simp only [List.mem_singleton]
          exact Nat.ne_of_lt (Nat.lt_succ_self _)
        refine set_update_keys (W _ hh3).toS s.heap.objs.size hSf ks hlen hfew hval (x.cps.size - 0) 0 _ rfl (Nat.zero_le _) hst ?hS0 ?hR
        case hS0 =>
          exact (setRk_fresh w).at fun o e => Heap.get?_push_of_some _ e
        case hR =>
          intro s' hm hS'
          obtain ⟨h', g2, d', tk', os'⟩ := s'
          have eg : g2 = s.gens := hm.gens
          have ed : d' = s.drawn := hm.drawn
          have eo : os' = s.os := hm.os
          subst eg; subst ed; subst eo
          show wpAny _ _ _ _ _ _
          refine wpAny_pure ?_
          show wpAny _ _ (ret Value.none) _ _ _
          refine wpAny_pure ⟨rfl, h', tk', rfl, hS', fun b ob e => hm.heap b ob (fun hb => ?_) (Heap.get?_push_of_some _ (Heap.get?_push_of_some _ e))⟩
          have hlt := Heap.lt_size e
          rcases List.mem_cons.mp hb with z | z
          · exact absurd hlt (z ▸ Nat.lt_irrefl _)
          · rw [List.mem_singleton.mp z, Heap.size_push] at hlt; exact absurd hlt (Nat.not_lt.mpr (Nat.le_succ _))
      · cases r₂ with
        | error e => exact hr₂
        | ok fl₂ =>
          cases fl₂ with
          | ret r =>
            obtain ⟨rfl, h', tk, rfl, hS', hk'⟩ := hr₂
            repeat (any_goals (first | assumption | wp_step))
            exact h _ _ hS' hk'
          | _ => exact hr₂.elim
    | _ => exact hr.elim
set_option maxHeartbeats 3200000 in
theorem call_set_lst {l : Addr} {items : Array Value} (hl : s.heap.IsList l items)  (ks : List Key) (hlen : items.size = ks.length) (hval : ∀ (i : Nat) v, items[i]? = some v → ∃ k, ks[i]? = some k ∧ keyIs k v = true) {Q : Value → Shared → Prop} (hh : A.handled = none) (hfew : ks.length + 1 < scanBound)
    (h : ∀ (h' : Heap) (tk : Nat), SetRk w h' s.heap.objs.size (ks.foldl addK []) → (∀ b o, s.heap.get? b = some o → h'.get? b = some o) → Q (.ref s.heap.objs.size) { s with heap := h', toks := tk }) :
    wpAny (model P w) A (call (.type "set") [.ref l]) Q E s := by
  obtain ⟨c, tl, hmro⟩ := F.called_set.mro
  have hmade := F.called_set.made
  have hsub := F.called_set.sub
  refine wpAny_call (codeAny_of_tree ?_)
  show wpAny _ _ (callAny (.type "set") _) _ _ _
  refine wpAny_pure ⟨Code.quiet_builtin _ (by decide +kernel), codeAny_builtin F.entry_type_call ?_⟩
  rw [Around.under_plain (weight_type_call_type "set" [.ref l] []) rfl]
  have h1 := F.called_set.notType
  have h2 := F.called_set.canCreate
  have hct := F.typeCall_set_1 (.ref l)
  repeat (any_goals (first | assumption | wp_step))
  refine codeAny_mono (code_set_led1 (.ref l) (E := E) (Q₁ := fun obj s₁ => obj = .ref s.heap.objs.size ∧ s₁ = { s with heap := s.heap.push (set0 w) }) ⟨rfl, rfl⟩) fun r s₁ hr => ?_
  cases r with
  | error e => exact hr
  | ok fl =>
    cases fl with
    | ret obj =>
      obtain ⟨rfl, rfl⟩ := hr
      have hS : (s.heap.push (set0 w)).get? s.heap.objs.size = some (set0 w) := Heap.get?_push_size _ rfl
      have hT : Shared.TypeIs { s with heap := s.heap.push (set0 w) } (.ref s.heap.objs.size) "set" := ⟨_, hS, rfl⟩
      have hli := F.called_set.init.lookup
      have hbi := F.called_set.init.bind (.ref s.heap.objs.size)
      repeat (any_goals (first | assumption | wp_step))
      refine codeAny_mono (codeAny_call_builtin (R := wants (fun r s₂ => r = .none ∧ ∃ h' tk, s₂ = { s with heap := h', toks := tk } ∧ SetRk w h' s.heap.objs.size (ks.foldl addK []) ∧
          (∀ b o, s.heap.get? b = some o → h'.get? b = some o)) E) F.called_set.init.plain F.entry_set_init (check_set_init_1 hT ?_)) fun r₂ s₂ hr₂ => ?_
      · have hh3 : A.in1.in1.in1.handled = none := by simp [hh]
        obtain ⟨ol, hol, hcl, nl, hdl⟩ := hl
        obtain ⟨ocls, odict, odata, oslots⟩ := ol
        simp only at hcl hdl
        subst hcl; subst hdl
        have hol' : (s.heap.push (set0 w)).get? l = some { cls := .type "list", dict := odict, data := .seq items nl, slots := oslots } := Heap.get?_push_of_some _ hol
        have hsls := F.sub_list_set
        have hslf := F.sub_list_frozenset
        have hne : (Value.type "list" == Value.type "dict") = false := by decide
        have hl1 : (s.heap.push (set0 w)).IsList l items := ⟨_, hol', rfl, nl, rfl⟩
        unfold Builtin.«set.__init__» noKeywords Builtin.Frozenset.updateFrom
        generalize hPI : pyIter = PI
        wp_walk
        subst hPI
        refine wpAny_pyIter_list hl1 ?_
        refine wpAny_bind (wpAny_runValue ?_)
        have hlS : l < s.heap.objs.size := Heap.lt_size hol
        have hneI : l ≠ (s.heap.push (set0 w)).objs.size := by
          rw [Heap.size_push]; exact Nat.ne_of_lt (Nat.lt_succ_of_lt hlS)
        have hSf : s.heap.objs.size ∉ [(s.heap.push (set0 w)).objs.size, l] := by
          rw [Heap.size_push]; simp only [List.mem_cons, List.mem_singleton, List.not_mem_nil, or_false, not_or]
          exact ⟨Nat.ne_of_lt (Nat.lt_succ_self _), Nat.ne_of_gt hlS⟩
        refine set_update_keys ((Walks.list hh3 _ l hneI items).toS) s.heap.objs.size hSf ks hlen hfew hval (items.size - 0) 0 _ rfl (Nat.zero_le _)
          ⟨⟨_, Heap.get?_push_size _ rfl, rfl, rfl⟩, (hl1.push _)⟩ ?hS0 ?hR
        case hS0 =>
          exact (setRk_fresh w).at fun o e => Heap.get?_push_of_some _ e
        case hR =>
          intro s' hm hS'
          obtain ⟨h', g2, d', tk', os'⟩ := s'
          have eg : g2 = s.gens := hm.gens
          have ed : d' = s.drawn := hm.drawn
          have eo : os' = s.os := hm.os
          subst eg; subst ed; subst eo
          show wpAny _ _ _ _ _ _
          refine wpAny_pure ?_
          show wpAny _ _ (ret Value.none) _ _ _
          refine wpAny_pure ⟨rfl, h', tk', rfl, hS', fun b ob e => hm.heap b ob (fun hb => ?_) (Heap.get?_push_of_some _ (Heap.get?_push_of_some _ e))⟩
          have hlt := Heap.lt_size e
          rcases List.mem_cons.mp hb with z | z
          · exact absurd hlt (z ▸ Nat.lt_irrefl _)
          · rw [List.mem_singleton.mp z, Heap.size_push] at hlt; exact absurd hlt (Nat.not_lt.mpr (Nat.le_succ _))
      · cases r₂ with
        | error e => exact hr₂
        | ok fl₂ =>
          cases fl₂ with
          | ret r =>
            obtain ⟨rfl, h', tk, rfl, hS', hk'⟩ := hr₂
            repeat (any_goals (first | assumption | wp_step))
            exact h _ _ hS' hk'
          | _ => exact hr₂.elim
    | _ => exact hr.elim
end
end Kp

namespace Kp
open PySem PySem.Spec PyProof.Rows L2
open Evl (Ex ex_l ex_t ex_rd)
section
variable {X : Cx} {G : Gv} {W : WX}
/-! ### methods of built-in types -/
def mtyD (T : String) : D → Bool
  | .str _ => T == "str"
  | .lst _ => T == "list"
  | .dct _ => T == "dict"
  | _ => false
theorem Rp.tyV {K : PySem.W.Frag} {H : Hp} {v : V} {d : D} {T : String} (r : Rp K G H v d) (h : mtyD T d = true) : L2.tyV K T v H := by
  cases r with
  | str _ => exact eq_of_beq h
  | lst hl _ => exact .inl ⟨eq_of_beq h, _, .inl (.inl hl)⟩
  | dK hd _ => exact .inr (.inr (.inl ⟨eq_of_beq h, .inl ⟨_, hd⟩⟩))
  | dT hd _ => exact .inr (.inr (.inl ⟨eq_of_beq h, .inr ⟨_, hd⟩⟩))
  | _ => cases h
def mMt (T : String) (g : D → List D → Option D) (ma : M) (mr : MA) : M := fun st => (ma st).bnd fun a => if mtyD T a = true then (mr st).bnd fun ds => ofO (g a ds) else none
theorem tE_mt {K : PySem.W.Frag} {T : String} {g : D → List D → Option D} {ma : M} {mr : MA} (σ : L2.St) (H : Hp) (Q : VK) (h : tE K G W (mMt T g ma mr) σ H Q) : tBM K T (rDM K G g) (tE K G W ma) (tAr K G W mr) σ H Q := by
  obtain ⟨st, r, h⟩ := h
  refine ⟨st, r, h.bnd fun a v H1 e1 r1 h1 => ?_⟩
  by_cases c : mtyD T a = true
  · rw [if_pos c] at h1
    refine ⟨r1.tyV c, st, r.mono e1, h1.bndA fun ds vs H2 e2 r2 h2 => ?_⟩
    obtain ⟨d, ed, q⟩ := OkR.ofO h2
    exact ⟨a, ds, d, r1.mono e2, r2, ed, q⟩
  · rw [if_neg c] at h1
    exact h1.elim
variable {o e : Expr} {es : List Expr} {name : Str} {apos cpos : Pos} {T id : String} {ma : M} {mr : MA} {g : D → List D → Option D}
theorem se_mt (pa : PlainAttrs T) (slot : Slot T name id) (hty : typeOf (.builtin id) = pure (.type "method_descriptor")) (hm : MtR X id (rDM X.K G g)) (ho : SE X G W o ma) (ha : SA X G W (e :: es) mr)
    (hbase : attributeBase o name X.env (eval o X.env) = eval o X.env := by rfl)
    (hfew : ((backTo cpos (starEach (e :: es) X.env)).all (fun x => !x.1) && (backToKw cpos (keywordEach [] X.env)).all (fun x => x.1.isSome)
      && decide ((e :: es).length + ([] : List Keyword).length + (if ([] : List Keyword).isEmpty then 0 else 1) < 30)) = true := by rfl)
    (hline : (apos.endLine == cpos.line) = true := by rfl) (hs : starEach (e :: es) X.env = (false, eval e X.env) :: starEach es X.env := by rfl) (hplain : (backTo cpos (starEach es X.env)).any (·.1) = false := by rfl) :
    SE X G W (.Call (.Attribute o name apos) (e :: es) [] cpos) (mMt T g ma mr) :=
  pe_weak (pe_bm pa slot hty hm ho ha hbase hfew hline hs hplain) fun σ H Q h => tE_mt σ H Q h
/-! ### texts of a row -/
def strsD : List D → Option (List (List Nat))
  | [] => some []
  | .str l :: ds => (strsD ds).map (l :: ·)
  | _ :: _ => none
theorem rp_strs {K : PySem.W.Frag} {H : Hp} : ∀ {vs : List V} {ds : List D} {ls : List (List Nat)}, RpAll K G H vs ds → strsD ds = some ls → vs = (ls.map S).map V.str ∧ ∀ l ∈ ls, okS l
  | _, _, _, .nil, h => by cases (Option.some.inj h); exact ⟨rfl, fun l hl => absurd hl (by simp)⟩
  | _, _, _, .cons (d := .str l) r1 r, h => by
    obtain ⟨ls, h1, rfl⟩ := Option.map_eq_some_iff.mp (show (strsD _).map (l :: ·) = some _ from h)
    obtain ⟨h2, h3⟩ := rp_strs r h1
    cases r1 with
    | str hl =>
      refine ⟨by rw [h2]; rfl, fun k hk => ?_⟩
      rcases List.mem_cons.mp hk with rfl | hk
      · exact hl
      · exact h3 k hk
  | _, _, _, .cons (d := .non) _ _, h => by cases h
  | _, _, _, .cons (d := .bl _) _ _, h => by cases h
  | _, _, _, .cons (d := .int _) _ _, h => by cases h
  | _, _, _, .cons (d := .tup _) _ _, h => by cases h
  | _, _, _, .cons (d := .lst _) _ _, h => by cases h
  | _, _, _, .cons (d := .dct _) _ _, h => by cases h
  | _, _, _, .cons (d := .fn _) _ _, h => by cases h
  | _, _, _, .cons (d := .scr _) _ _, h => by cases h
  | _, _, _, .cons (d := .ty _) _ _, h => by cases h
  | _, _, _, .cons (d := .exn _) _ _, h => by cases h
  | _, _, _, .cons (d := .cls _) _ _, h => by cases h
/-! ### str.join -/
def rowD : D → Option (List D)
  | .lst l => some l
  | .tup l => some l
  | _ => none
def joinD (a : D) (ds : List D) : Option D := match a with
  | .str y => match ds with
    | [b] => (rowD b).bind fun l => (strsD l).bind fun ls => if (ls.map List.length).sum + ls.length * y.length ≤ 100000 then some (.str (TL.joinL y ls)) else none
    | _ => none
  | _ => none

theorem S_tl (l : List Nat) : TL.tl (S l) = l := rfl
theorem S_join (y : List Nat) (ls : List (List Nat)) : Txt.join (S y) (ls.map S) = S (TL.joinL y ls) := by
  rw [TL.join_eq]
  refine TL.ext_tl ?_
  rw [TL.tl_join, S_tl, S_tl, List.map_map]
  have e : ls.map (TL.tl ∘ S) = ls := by
    rw [show (TL.tl ∘ S) = id from funext fun l => rfl, List.map_id]
  rw [e]
theorem okS_join {y : List Nat} (hy : okS y) : ∀ {ls : List (List Nat)}, (∀ l ∈ ls, okS l) → okS (TL.joinL y ls)
  | [], _ => fun c hc => absurd hc (by simp [TL.joinL])
  | [x], h => h x (by simp)
  | x :: z :: r, h => okS_app (h x (by simp)) (okS_app hy (okS_join hy fun l hl => h l (List.mem_cons_of_mem _ hl)))
theorem sum_S (ls : List (List Nat)) : ((ls.map S).map (·.length)).sum = (ls.map List.length).sum := by
  rw [List.map_map]
  rw [show ((fun x : Str => x.length) ∘ S) = List.length from funext fun l => S_len l]
theorem mtD_join : MtR X "str.join" (rDM X.K G joinD) := by
  intro pins s σ H x xs v us Q I rx rs ⟨a, ds, d, ra, rds, e, q⟩
  cases ra with
  | @str y hy => cases rds with
    | cons rb rt => cases rt with
      | nil =>
        obtain ⟨l, h1, e⟩ := Option.bind_eq_some_iff.mp (show (rowD _).bind _ = some _ from e)
        obtain ⟨ls, h2, e⟩ := Option.bind_eq_some_iff.mp e
        by_cases c : (ls.map List.length).sum + ls.length * y.length ≤ 100000
        · rw [if_pos c] at e
          cases (Option.some.inj e)
          have fin : ∀ (p : Addr) (zs : List V), RpAll X.K G H zs l → (SqL X.K H p zs ∨ SqT X.K H p zs) → wpAny (model X.prog X.w) X.A (call (.builtin "str.join") (v :: us)) (EP X pins σ Q) X.xe s → True := fun _ _ _ _ _ => trivial
          cases rb with
          | @lst p zs _ hl r =>
            cases h1
            obtain ⟨e1, e2⟩ := rp_strs r h2
            subst e1
            refine mt_join pins s σ H _ _ v us Q I rx rs ⟨S y, p, ls.map S, rfl, rfl, .inl (.inl (.inl hl)), ?_, ?_⟩
            · rw [sum_S, List.length_map, S_len]; omega
            · rw [S_join]; exact q _ H (Ex.refl _) (.str (okS_join hy e2))
          | @tup p zs _ hl r =>
            cases h1
            obtain ⟨e1, e2⟩ := rp_strs r h2
            subst e1
            refine mt_join pins s σ H _ _ v us Q I rx rs ⟨S y, p, ls.map S, rfl, rfl, .inr hl, ?_, ?_⟩
            · rw [sum_S, List.length_map, S_len]; omega
            · rw [S_join]; exact q _ H (Ex.refl _) (.str (okS_join hy e2))
          | _ => cases h1
        · rw [if_neg c] at e; cases e
      | cons _ _ => cases e
    | nil => cases e
  | _ => cases e

/-! ### methods of one argument -/
def m1 (g : D → D → Option D) (a : D) (ds : List D) : Option D := match ds with
  | [b] => g a b
  | _ => none
theorem rdM1 {id : String} {g : D → D → Option D} (h : ∀ (pins : List (Addr × Obj)) (s : Shared) (σ : L2.St) (H : Hp) (x y : V) (v : Value) (us : List Value) (Q : VK) (a b d : D), Inv X pins σ H s → RelV x v → Vals [y] us → Rp X.K G H x a → Rp X.K G H y b → g a b = some d → (∀ v H', Ex H H' → Rp X.K G H' v d → Q v H') →
    wpAny (model X.prog X.w) X.A (call (.builtin id) (v :: us)) (EP X pins σ Q) X.xe s) : MtR X id (rDM X.K G (m1 g)) := by
  intro pins s σ H x xs v us Q I rx rs ⟨a, ds, d, ra, rds, e, q⟩
  cases rds with
  | nil => cases e
  | cons rb rt => cases rt with
    | nil => exact h pins s σ H x _ v us Q a _ d I rx rs ra rb e q
    | cons _ _ => cases e
/-! ### str.index of one sign that is there; list.index -/
def oneC : D → Option Nat
  | .str l => match l with
    | [c] => some c
    | _ => none
  | _ => none
theorem rp_oneC {K : PySem.W.Frag} {H : Hp} {v : V} {d : D} {c : Nat} (r : Rp K G H v d) (h : oneC d = some c) : d = .str [c] ∧ v = .str (S [c]) ∧ c < 1114112 := by
  cases r with
  | @str l hl =>
    match l, h, hl with
    | [c'], h, hl => cases (Option.some.inj h); exact ⟨rfl, rfl, hl c (by simp)⟩
    | [], h, _ => cases h
    | _ :: _ :: _, h, _ => cases h
  | _ => cases h
def nat? (o : Option Nat) : Option D := match o with
  | some j => some (.int (j : Nat))
  | none => none
def sindexD (a b : D) : Option D := match a with
  | .str l => match oneC b with
    | some c => nat? (l.findIdx? (fun z => z == c))
    | none => none
  | _ => none
theorem mtD_sindex : MtR X "str.index" (rDM X.K G (m1 sindexD)) := rdM1 fun pins s σ H x y v us Q a b d I rx rs ra rb e q => by
  cases ra with
  | @str l hl =>
    cases h0 : oneC b with
    | none => simp only [sindexD, h0] at e; cases e
    | some c =>
      obtain ⟨rfl, rfl, hc0⟩ := rp_oneC rb h0
      cases h1 : l.findIdx? (fun z => z == c) with
      | none => simp only [sindexD, h0, h1, nat?] at e; cases e
      | some j =>
        simp only [sindexD, h0, h1, nat?] at e
        cases (Option.some.inj e)
        obtain ⟨hj, pj, nj⟩ := List.findIdx?_eq_some_iff_getElem.mp h1
        have hc : (S l).cps.toList[j]? = some c := by
          rw [S_cps, List.getElem?_eq_getElem hj]
          exact congrArg some (eq_of_beq pj)
        refine mt_sindex pins s σ H _ _ v us Q I rx rs ?_
        rcases PySem.StrLaws.occ_head (S l) (S [c]) 1 (Nat.le_refl 1) with ⟨_, hn⟩ | ⟨i, r, ho, hi, hn⟩
        · exact absurd ((PySem.StrLaws.subAt_one (S l) c j).mpr hc) (hn j)
        · have hi' : (S l).cps.toList[i]? = some c := (PySem.StrLaws.subAt_one (S l) c i).mp hi
          have eij : i = j := by
            rcases Nat.lt_trichotomy i j with z | z | z
            · have n1 := nj i z
              rw [S_cps] at hi'
              obtain ⟨hb, e3⟩ := List.getElem?_eq_some_iff.mp hi'
              rw [e3] at n1
              simp at n1
            · exact z
            · exact absurd ((PySem.StrLaws.subAt_one (S l) c j).mpr hc) (hn j z)
          refine ⟨S l, S [c], i, r, rfl, rfl, ho, ?_⟩
          rw [eij]
          exact q _ H (Ex.refl _) (.int _)
  | _ => cases e
theorem pl_mem : ∀ {l : List D} {n : Nat}, plL n l = true → ∀ d ∈ l, pl n d = true
  | d :: ds, n, h, x, hx => by
    simp only [plL, Bool.and_eq_true] at h
    rcases List.mem_cons.mp hx with rfl | hx
    · exact h.1
    · exact pl_mem h.2 x hx
  | [], _, _, x, hx => absurd hx (by simp)
theorem toPs_map : ∀ l : List D, toPs l = l.map toP
  | [] => rfl
  | d :: ds => by rw [toPs, toPs_map ds]; rfl
def lindexD (a b : D) : Option D := match a with
  | .lst l => if pl 40 (.lst l) = true ∧ pl 40 b = true then nat? (l.findIdx? (fun z => eqvD z b)) else none
  | _ => none
theorem mtD_lindex (hu : X.A.units + 65 < cLine) : MtR X "list.index" (rDM X.K G (m1 lindexD)) := rdM1 fun pins s σ H x y v us Q a b d I rx rs ra rb e q => by
  cases ra with
  | @lst p xs l hl r =>
    by_cases c : pl 40 (.lst l) = true ∧ pl 40 b = true
    · cases h1 : l.findIdx? (fun z => eqvD z b) with
      | none => simp only [lindexD, if_pos c, h1, nat?] at e; cases e
      | some j =>
        simp only [lindexD, if_pos c, h1, nat?] at e
        cases (Option.some.inj e)
        obtain ⟨hj, pj, nj⟩ := List.findIdx?_eq_some_iff_getElem.mp h1
        obtain ⟨g1, g2⟩ := (Rp.lst hl r).shaped c.1
        obtain ⟨g3, g4⟩ := rb.shaped c.2
        have hpl : plL 39 l = true := by simpa [pl] using c.1
        refine mt_indexD hu pins s σ H _ _ v us Q I rx rs ⟨p, y, toP b, toPs l, j, toP l[j], rfl, rfl, g1, g3, g2, g4, ?_, ?_, ?_, q _ H (Ex.refl _) (.int _)⟩
        · rw [toPs_map, List.getElem?_map, List.getElem?_eq_getElem hj]; rfl
        · rw [eqv_toP _ 39 _ 40 (pl_mem hpl _ (List.getElem_mem hj)) c.2]; exact pj
        · intro m z' hm hz
          rw [toPs_map, List.getElem?_map] at hz
          obtain ⟨z0, hz0, rfl⟩ := Option.map_eq_some_iff.mp hz
          obtain ⟨hb, e3⟩ := List.getElem?_eq_some_iff.mp hz0
          rw [eqv_toP _ 39 _ 40 (pl_mem hpl _ (List.mem_of_getElem? hz0)) c.2]
          have n1 := nj m hm
          rw [e3] at n1
          simpa using n1
    · simp only [lindexD, if_neg c] at e; cases e
  | _ => cases e
/-! ### in -/
def flatD : D → Bool
  | .non => true
  | .bl _ => true
  | .int _ => true
  | .str _ => true
  | _ => false
theorem Rp.flat {K : PySem.W.Frag} {H : Hp} {v : V} {d : D} (r : Rp K G H v d) (h : flatD d = true) : flatV v = true := by
  cases r <;> first | rfl | cases h
theorem RpAll.flat {K : PySem.W.Frag} {H : Hp} : ∀ {vs : List V} {ds : List D}, RpAll K G H vs ds → ds.all flatD = true → vs.all flatV = true
  | _, _, .nil, _ => rfl
  | _, _, .cons h r, q => by
    rw [List.all_cons, Bool.and_eq_true] at q ⊢
    exact ⟨h.flat q.1, r.flat q.2⟩
theorem eqV_D {K : PySem.W.Frag} {H : Hp} {v u : V} {d e : D} (r : Rp K G H v d) (r' : Rp K G H u e) (h : flatD d = true) (h' : flatD e = true) : eqV v u = eqvD d e := by
  cases r with
  | str _ => cases r' with
    | str _ => exact S_eq
    | _ => first | rfl | cases h'
  | non => cases r' <;> first | rfl | cases h'
  | bl _ => cases r' <;> first | rfl | cases h'
  | int _ => cases r' <;> first | rfl | cases h'
  | _ => cases h
theorem inV_D {K : PySem.W.Frag} {H : Hp} {x : V} {a : D} (r : Rp K G H x a) (h : flatD a = true) : ∀ {vs : List V} {ds : List D}, RpAll K G H vs ds → ds.all flatD = true → inV x vs = ds.any fun y => eqvD y a
  | _, _, .nil, _ => rfl
  | _, _, .cons (v := v) (vs := vs) (d := d) (ds := ds) r1 rs, q => by
    rw [List.all_cons, Bool.and_eq_true] at q
    have ih := inV_D r h rs q.2
    unfold inV at ih ⊢
    rw [List.any_cons, List.any_cons, ih, eqV_D r1 r q.1 h]
def inD (neg : Bool) (a b : D) : Option D := match b with
  | .str l => match oneC a with
    | some c => some (.bl (if neg then !decide (c ∈ l) else decide (c ∈ l)))
    | none => none
  | .tup l => if flatD a = true ∧ l.all flatD = true then some (.bl (if neg then !(l.any fun y => eqvD y a) else (l.any fun y => eqvD y a))) else none
  | .lst l => if flatD a = true ∧ l.all flatD = true then some (.bl (if neg then !(l.any fun y => eqvD y a) else (l.any fun y => eqvD y a)))
      else if pl 40 (.lst l) = true ∧ pl 40 a = true then some (.bl (if neg then !(l.any fun y => eqvD y a) else (l.any fun y => eqvD y a))) else none
  | _ => none
theorem any_toP {l : List D} {a : D} (hl : plL 39 l = true) (ha : pl 40 a = true) : ((toPs l).any fun z => PyData.eqv z (toP a)) = l.any fun y => eqvD y a := by
  induction l with
  | nil => rfl
  | cons d ds ih =>
    simp only [plL, Bool.and_eq_true] at hl
    rw [toPs, List.any_cons, List.any_cons, ih hl.2, eqv_toP d 39 a 40 hl.1 ha]
theorem opD_in (hu : X.A.units + 65 < cLine) : OpR X (compareOp .In) (rD2 X.K G (inD false)) := rd2 fun pins s σ H x y v u Q a b d I rx ry ra rb e q => by
  cases rb with
  | @str l hl =>
    cases h0 : oneC a with
    | none => simp only [inD, h0] at e; cases e
    | some c =>
      obtain ⟨rfl, rfl, hc0⟩ := rp_oneC ra h0
      simp only [inD, h0] at e
      cases (Option.some.inj e)
      exact op_in_sign pins s σ H _ _ v u Q I rx ry ⟨c, S l, rfl, rfl, by rw [S_cps]; exact q _ H (Ex.refl _) (.bl _)⟩
  | @tup p xs l hl r =>
    by_cases c : flatD a = true ∧ l.all flatD = true
    · simp only [inD, if_pos c] at e
      cases (Option.some.inj e)
      exact op_in_seq pins s σ H _ _ v u Q I rx ry ⟨p, xs, rfl, .inr hl, ra.flat c.1, r.flat c.2, by rw [inV_D ra c.1 r c.2]; exact q _ H (Ex.refl _) (.bl _)⟩
    · simp only [inD, if_neg c] at e; cases e
  | @lst p xs l hl r =>
    by_cases c : flatD a = true ∧ l.all flatD = true
    · simp only [inD, if_pos c] at e
      cases (Option.some.inj e)
      exact op_in_seq pins s σ H _ _ v u Q I rx ry ⟨p, xs, rfl, .inl (.inl (.inl hl)), ra.flat c.1, r.flat c.2, by rw [inV_D ra c.1 r c.2]; exact q _ H (Ex.refl _) (.bl _)⟩
    · by_cases c2 : pl 40 (.lst l) = true ∧ pl 40 a = true
      · simp only [inD, if_neg c, if_pos c2] at e
        cases (Option.some.inj e)
        obtain ⟨g1, g2⟩ := (Rp.lst hl r).shaped c2.1
        obtain ⟨g3, g4⟩ := ra.shaped c2.2
        exact op_inD hu pins s σ H _ _ v u Q I rx ry ⟨toP a, toPs l, g3, g1, g4, g2, by rw [any_toP (by simpa [pl] using c2.1) c2.2]; exact q _ H (Ex.refl _) (.bl _)⟩
      · simp only [inD, if_neg c, if_neg c2] at e; cases e
  | _ => cases e
theorem opD_notin (hu : X.A.units + 65 < cLine) : OpR X (compareOp .NotIn) (rD2 X.K G (inD true)) := rd2 fun pins s σ H x y v u Q a b d I rx ry ra rb e q => by
  cases rb with
  | @str l hl =>
    cases h0 : oneC a with
    | none => simp only [inD, h0] at e; cases e
    | some c =>
      obtain ⟨rfl, rfl, hc0⟩ := rp_oneC ra h0
      simp only [inD, h0] at e
      cases (Option.some.inj e)
      exact op_notIn_sign pins s σ H _ _ v u Q I rx ry ⟨c, S l, rfl, rfl, by rw [S_cps]; exact q _ H (Ex.refl _) (.bl _)⟩
  | @tup p xs l hl r =>
    by_cases c : flatD a = true ∧ l.all flatD = true
    · simp only [inD, if_pos c] at e
      cases (Option.some.inj e)
      exact op_notIn_seq pins s σ H _ _ v u Q I rx ry ⟨p, xs, rfl, .inr hl, ra.flat c.1, r.flat c.2, by rw [inV_D ra c.1 r c.2]; exact q _ H (Ex.refl _) (.bl _)⟩
    · simp only [inD, if_neg c] at e; cases e
  | @lst p xs l hl r =>
    by_cases c : flatD a = true ∧ l.all flatD = true
    · simp only [inD, if_pos c] at e
      cases (Option.some.inj e)
      exact op_notIn_seq pins s σ H _ _ v u Q I rx ry ⟨p, xs, rfl, .inl (.inl (.inl hl)), ra.flat c.1, r.flat c.2, by rw [inV_D ra c.1 r c.2]; exact q _ H (Ex.refl _) (.bl _)⟩
    · by_cases c2 : pl 40 (.lst l) = true ∧ pl 40 a = true
      · simp only [inD, if_neg c, if_pos c2] at e
        cases (Option.some.inj e)
        obtain ⟨g1, g2⟩ := (Rp.lst hl r).shaped c2.1
        obtain ⟨g3, g4⟩ := ra.shaped c2.2
        exact op_notInD hu pins s σ H _ _ v u Q I rx ry ⟨toP a, toPs l, g3, g1, g4, g2, by rw [any_toP (by simpa [pl] using c2.1) c2.2]; exact q _ H (Ex.refl _) (.bl _)⟩
      · simp only [inD, if_neg c, if_neg c2] at e; cases e
  | _ => cases e
end
end Kp

namespace Kp
open PySem PySem.Spec PyProof.Rows L2
open Evl (Ex ex_l ex_t ex_rd)
section
variable {X : Cx} {G : Gv} {W : WX}
/-! ### a text, n times -/
def mulE : D → D → Option D
  | .str l, e => match e with
    | .int k => if -100000 ≤ k ∧ k ≤ 100000 ∧ l.length * k.toNat ≤ 100000 then some (.str (List.replicate k.toNat l).flatten) else none
    | _ => none
  | a, e => mulA a e
theorem foldl_arr (n : Nat) (l acc : List Nat) : (List.replicate n l.toArray).foldl (· ++ ·) acc.toArray = (acc ++ (List.replicate n l).flatten).toArray := by
  induction n generalizing acc with
  | zero => simp
  | succ n ih =>
    rw [List.replicate_succ, List.foldl_cons, List.append_toArray, ih, List.replicate_succ, List.flatten_cons, List.append_assoc]
theorem S_mul (l : List Nat) (k : Int) : Txt.mul (S l) k = S (List.replicate k.toNat l).flatten := by
  unfold Txt.mul
  split
  · rename_i h
    have : k.toNat = 0 := by omega
    rw [this]; rfl
  · split
    · rename_i h1 h2
      rcases Bool.or_eq_true _ _ ▸ h2 with h | h
      · have : k = 1 := by simpa using h
        subst this
        simp
      · have hl : l.length = 0 := by rw [S_len] at h; simpa using h
        have : l = [] := List.eq_nil_of_length_eq_zero hl
        subst this
        simp [List.flatten_replicate_nil]
    · show Str.mk _ = Str.mk _
      have := foldl_arr k.toNat l []
      rw [List.nil_append] at this
      exact congrArg Str.mk this
theorem okS_rep {l : List Nat} (h : okS l) (n : Nat) : okS (List.replicate n l).flatten := fun c hc => by
  obtain ⟨x, hx, hc⟩ := List.mem_flatten.mp hc
  rw [(List.mem_replicate.mp hx).2] at hc
  exact h c hc
theorem mulOk {l : List Nat} {k : Int} (h : -100000 ≤ k ∧ k ≤ 100000 ∧ l.length * k.toNat ≤ 100000) : MulOk (S l) k := by
  refine ⟨?_, fun h1 h2 => ?_, fun h1 h2 => ?_⟩
  · simp; omega
  · rw [S_len]
    have h3 : 1 ≤ k := by omega
    have h4 : l.length ≤ 100000 := by
      have : 1 ≤ k.toNat := by omega
      have := Nat.mul_le_mul_left l.length this
      omega
    have : (100000 : Int) ≤ (2 ^ 63 - 1) / k := by
      refine (Int.le_ediv_iff_mul_le (by omega)).mpr ?_
      omega
    omega
  · rw [S_len]
    unfold PySem.Builtin.Str.tooLong
    simp
    have := size_big
    omega
theorem opD_mul2 : OpR X (binaryOp .Mult) (rD2 X.K G mulE) := rd2 fun pins s σ H x y v u Q a b d I rx ry ra rb e q => by
  by_cases hs : ∃ l, a = .str l
  · obtain ⟨l, rfl⟩ := hs
    cases ra with
    | str hl => cases rb with
      | int k =>
        have e' : (if -100000 ≤ k ∧ k ≤ 100000 ∧ l.length * k.toNat ≤ 100000 then some (D.str (List.replicate k.toNat l).flatten) else none) = some d := e
        by_cases c : -100000 ≤ k ∧ k ≤ 100000 ∧ l.length * k.toNat ≤ 100000
        · rw [if_pos c] at e'
          cases (Option.some.inj e')
          obtain ⟨t, rfl⟩ := rx
          obtain ⟨t', rfl⟩ := ry
          exact SB.mul (mulOk c) fun t2 k2 => ⟨.str (S (List.replicate k.toNat l).flatten), H, I.tok _, ⟨t2, by rw [S_mul]⟩, q _ H (Ex.refl _) (.str (okS_rep hl _))⟩
        · rw [if_neg c] at e'; cases e'
      | _ => cases e
  · have e' : mulA a b = some d := by
      cases a <;> first | exact e | exact absurd ⟨_, rfl⟩ hs
    exact opD_mul pins s σ H x y v u Q I rx ry ⟨a, b, d, ra, rb, e', q⟩
end
end Kp

namespace Kp
open PySem PySem.Spec PyProof.Rows L2
open Evl (Ex ex_l ex_t ex_rd)
section
variable {P : Program} {w : World} {A : Around} {E : Value → Shared → Prop} {s : Shared}
/-! ### tuple(text) -/
theorem code_tuple_new_txt {x : Str} {t : Tok} {Q₁ : Value → Shared → Prop} (hh : A.handled = none) (hn : x.cps.size ≤ sizeLine)
    (h : ∀ (h' : Heap) (tk : Nat) (acc : Array Value), (∀ b o, s.heap.get? b = some o → h'.get? b = some o) → ItemsOf (SignAt x) acc x.cps.size →
      Q₁ (.ref h'.objs.size) { s with heap := h'.push { cls := .type "tuple", data := .seq acc }, toks := tk }) :
    codeAny (model P w) A (.call (.builtin "tuple.__new__") ⟨[.type "tuple", .str x t], []⟩) (wants Q₁ E) s := by
  refine codeAny_of_tree ?_
  show wpAny _ A.in1 (do checkBuiltinCall "tuple.__new__" ⟨[.type "tuple", .str x t], []⟩; again (.builtin "tuple.__new__" ⟨[.type "tuple", .str x t], []⟩)) _ _ s
  refine wpAny_bind (wpAny_of_eq (F.newCall_tuple_1 _) (wpAny_pure ⟨plainId_quiet F.plain_tuple_new _, codeAny_builtin F.entry_tuple_new ?_⟩))
  rw [Around.under_plainId F.plain_tuple_new _]
  have hsub := sub_tuple_self
  have hinit := init_tuple_lookup
  have hmh := madeHere_tuple
  have hTI : s.TypeIs (.str x t) "str" := typeIs_str s x t
  have hh1 : A.in1.handled = none := hh
  wp_walk using wpAny_typeOf hTI, wpAny_collect_str (A := A.in1) hh1 x t (hn := hn)
  intro s' acc hk hg hd ho hacc
  obtain ⟨h', g2, d', tk', os'⟩ := s'
  have eg : g2 = s.gens := hg
  have ed : d' = s.drawn := hd
  have eo : os' = s.os := ho
  subst eg; subst ed; subst eo
  show wpAny _ _ (Builtin.Tuple.tupleExact acc.toList.toArray >>= fun v => ret v) _ _ _
  unfold Builtin.Tuple.tupleExact
  refine wpAny_bind (wpAny_newObj_type ?_ (by show acc.toList.toArray.size ≤ sizeLine; simp only [Array.toArray_toList]; rw [hacc.1]; exact hn))
  refine wpAny_pure ?_
  have e : acc.toList.toArray = acc := by simp
  rw [e]
  exact h h' tk' acc hk hacc
theorem call_tuple_txt {x : Str} {t : Tok} {Q : Value → Shared → Prop} (hh : A.handled = none) (hn : x.cps.size ≤ sizeLine)
    (hQ : ∀ (h' : Heap) (tk : Nat) (acc : Array Value), (∀ b o, s.heap.get? b = some o → h'.get? b = some o) → ItemsOf (SignAt x) acc x.cps.size →
      Q (.ref h'.objs.size) { s with heap := h'.push { cls := .type "tuple", data := .seq acc }, toks := tk }) :
    wpAny (model P w) A (call (.type "tuple") [.str x t]) Q E s := by
  refine callType_codes (Q₁ := fun obj s₁ => s₁.TypeIs obj "tuple" ∧ Q obj s₁) F.called_tuple (F.typeCall_tuple_1 _) F.entry_object_init
    (code_tuple_new_txt (A := A.in1) hh hn fun h' tk acc hk hacc => ⟨⟨_, Heap.get?_push_size _ rfl, rfl⟩, hQ h' tk acc hk hacc⟩) fun obj s₁ h₁ => ?_
  exact ⟨h₁.1, F.args_object_init_2 obj _, object_init_meets F.called_tuple.init.lookup F.called_tuple.made (by decide) P w A.in1 _ s₁ ⟨h₁.1, rfl, h₁.2⟩⟩
end
def signsD (l : List Nat) : List D := l.map fun c => .str [c]
theorem vals_of : ∀ {xs : List V} {us : List Value}, xs.length = us.length → (∀ (i : Nat) x u, xs[i]? = some x → us[i]? = some u → RelV x u) → Vals xs us
  | [], [], _, _ => .nil
  | x :: xs, u :: us, hl, h => .cons (h 0 x u rfl rfl) (vals_of (by simpa using hl) fun i y w h1 h2 => h (i + 1) y w (by simpa using h1) (by simpa using h2))
  | [], _ :: _, hl, _ => by simp at hl
  | _ :: _, [], hl, _ => by simp at hl
theorem vals_signs {l : List Nat} {acc : Array Value} (h : ItemsOf (SignAt (S l)) acc (S l).cps.size) : Vals (l.map fun c => V.str (S [c])) acc.toList := by
  have hz : (S l).cps.size = l.length := by simp [S]
  refine vals_of (by have h1 := h.1; have h2 : acc.toList.length = acc.size := Array.length_toList; rw [List.length_map]; omega) fun i x u h1 h2 => ?_
  rw [List.getElem?_map] at h1
  obtain ⟨c, h3, rfl⟩ := Option.map_eq_some_iff.mp h1
  obtain ⟨c', t, h4, rfl⟩ := h.2 i u (by rw [← Array.getElem?_toList]; exact h2)
  have h5 : l[i]? = some c' := by simpa [S] using h4
  rw [h3] at h5
  cases h5
  exact ⟨t, rfl⟩
theorem rp_signs {K : PySem.W.Frag} {G : Gv} {H : Hp} : ∀ {l : List Nat}, okS l → RpAll K G H (l.map fun c => V.str (S [c])) (signsD l)
  | [], _ => .nil
  | c :: l, h => .cons (.str (okS_one h (by simp))) (rp_signs fun x hx => h x (List.mem_cons_of_mem _ hx))
section
variable {X : Cx} {G : Gv} {W : WX}
def tupleE : D → Option D
  | .str l => if l.length ≤ 100000 then some (.tup (signsD l)) else none
  | d => tupleD d
theorem cD_tuple2 (hc : X.calm = true) : CallR X (.type "tuple") (rDA X.K G (arg1 tupleE)) := rdA1 fun pins s σ H x us Q a d I rx ra e q => by
  by_cases hs : ∃ l, a = .str l
  · obtain ⟨l, rfl⟩ := hs
    cases ra with
    | str hl =>
      have e' : (if l.length ≤ 100000 then some (D.tup (signsD l)) else none) = some d := e
      by_cases c : l.length ≤ 100000
      · rw [if_pos c] at e'
        cases (Option.some.inj e')
        obtain ⟨u, rfl, ⟨t, rfl⟩⟩ := vals1 rx
        have hz : (S l).cps.size = l.length := by simp [S]
        refine call_tuple_txt (I.ok.hd hc) (by rw [hz]; exact Nat.le_trans c size_big) fun h' tk acc hk hacc => ?_
        have hv := vals_signs hacc
        have I1 : Inv X pins σ H { s with heap := h', toks := tk } := I.kept (t' := tk) hk
        have hlen : (l.map fun c => V.str (S [c])).length ≤ sizeLine := by rw [List.length_map]; exact Nat.le_trans c size_big
        have I2 : Inv X pins σ (upd H h'.objs.size (.tup (l.map fun c => V.str (S [c])))) { s with heap := h'.push { cls := .type "tuple", data := .seq acc }, toks := tk } :=
          I1.laid (t' := tk) (fun b o e => Heap.get?_push_of_some _ e) (Nat.le_refl _) (show ObjOk X.prog X.w _ _ _ (.tup _) from ⟨hlen, acc.toList, hv, by have := IsTup.new h' acc; simpa using this⟩)
        have hn : H h'.objs.size = none := I1.hok.fresh (Nat.le_refl _)
        exact ⟨.ref h'.objs.size, _, I2, rfl, q _ _ (ex_new hn) (new_tup hn (rp_signs hl))⟩
      · rw [if_neg c] at e'; cases e'
  · have e' : tupleD a = some d := by
      cases a <;> first | exact e | (rename_i l; exact absurd ⟨l, rfl⟩ hs)
    refine cD_tuple pins s σ H _ us Q I rx ⟨[a], d, .cons ra .nil, e', q⟩
end
end Kp

namespace Kp
open PySem PySem.Spec PyProof.Rows L2
open Evl (Ex ex_l ex_t ex_rd)
/-! ### sets of keys, by data -/
inductive KD where
  | i (n : Int)
  | s (l : List Nat)
  deriving DecidableEq
def addG (l : List KD) (x : KD) : List KD := if x ∈ l then l else x :: l
def keyD : D → Option KD
  | .int i => some (.i i)
  | .str l => some (.s l)
  | _ => none
def keysD : List D → Option (List KD)
  | [] => some []
  | d :: ds => match keyD d with
    | some k => (keysD ds).map (k :: ·)
    | none => none
def setOfD : D → Option (List KD)
  | .str l => some (l.map fun c => KD.s [c])
  | .lst l => keysD l
  | _ => none
def toK : KD → Key
  | .i i => .inl i
  | .s l => .inr (S l)
theorem S_inj {a b : List Nat} (h : S a = S b) : a = b := by
  have := congrArg (fun x : Str => x.cps.toList) h
  simpa [S] using this
theorem toK_inj {a b : KD} (h : toK a = toK b) : a = b := by
  cases a <;> cases b <;> simp only [toK, Sum.inl.injEq, Sum.inr.injEq, reduceCtorEq] at h
  · rw [h]
  · rw [S_inj h]
theorem addK_map (l : List KD) (x : KD) : addK (l.map toK) (toK x) = (addG l x).map toK := by
  unfold addK addG
  have : toK x ∈ l.map toK ↔ x ∈ l := ⟨fun h => by
    obtain ⟨y, hy, e⟩ := List.mem_map.mp h
    rw [← toK_inj e]; exact hy, fun h => List.mem_map_of_mem h⟩
  by_cases c : x ∈ l
  · rw [if_pos c, if_pos (this.mpr c)]
  · rw [if_neg c, if_neg (fun z => c (this.mp z))]
    rfl
theorem fold_map : ∀ (ks acc : List KD), (ks.map toK).foldl addK (acc.map toK) = (ks.foldl addG acc).map toK
  | [], _ => rfl
  | k :: ks, acc => by
    rw [List.map_cons, List.foldl_cons, addK_map, fold_map ks, List.foldl_cons]
theorem keysD_len : ∀ {ds : List D} {ks : List KD}, keysD ds = some ks → ks.length = ds.length
  | [], _, h => by cases h; rfl
  | d :: ds, ks, h => by
    unfold keysD at h
    cases e : keyD d with
    | none => rw [e] at h; cases h
    | some k =>
      rw [e] at h
      obtain ⟨r, h1, rfl⟩ := Option.map_eq_some_iff.mp h
      rw [List.length_cons, List.length_cons, keysD_len h1]
theorem keysD_get : ∀ {ds : List D} {ks : List KD} {i : Nat} {d : D}, keysD ds = some ks → ds[i]? = some d → ∃ k, ks[i]? = some k ∧ keyD d = some k
  | d :: ds, ks, i, x, h, hi => by
    unfold keysD at h
    cases e : keyD d with
    | none => rw [e] at h; cases h
    | some k =>
      rw [e] at h
      obtain ⟨r, h1, rfl⟩ := Option.map_eq_some_iff.mp h
      cases i with
      | zero => cases hi; exact ⟨k, rfl, e⟩
      | succ i => exact keysD_get (i := i) h1 (by simpa using hi)
theorem rp_key {K : PySem.W.Frag} {G : Gv} {H : Hp} {v : V} {d : D} {k : KD} {u : Value} (r : Rp K G H v d) (h : keyD d = some k) (ru : RelV v u) : keyIs (toK k) u = true := by
  cases r with
  | int i => cases h; obtain ⟨t, rfl⟩ := ru; simp [toK, keyIs, Value.isInt, Value.isStrOf]
  | str _ => cases h; obtain ⟨t, rfl⟩ := ru; simp [toK, keyIs, Value.isInt, Value.isStrOf]
  | _ => cases h
section
variable {X : Cx} {G : Gv} {W : WX}
theorem RpAll.at {K : PySem.W.Frag} {H : Hp} : ∀ {vs : List V} {ds : List D} {i : Nat} {v : V}, RpAll K G H vs ds → vs[i]? = some v → ∃ d, ds[i]? = some d ∧ Rp K G H v d
  | _, _, _, _, .nil, e => by simp at e
  | _, _, 0, _, .cons h _, e => by simp at e; subst e; exact ⟨_, rfl, h⟩
  | _, _, i + 1, d, .cons _ r, e => by
    obtain ⟨v, h1, h2⟩ := r.at (i := i) (v := d) (by simpa using e)
    exact ⟨v, by simpa using h1, h2⟩
/-- set(x): a new set that nothing is said of but its keys -/
theorem call_set_D {pins : List (Addr × Obj)} {s : Shared} {σ : L2.St} {H : Hp} {x : V} {v : Value} {d : D} {ks : List KD} {Q : Value → Shared → Prop} (hc : X.calm = true) (I : Inv X pins σ H s) (rv : RelV x v) (ra : Rp X.K G H x d) (hk : setOfD d = some ks) (hn : ks.length ≤ 1000)
    (h : ∀ (a : Addr) (h' : Heap) (tk : Nat), SetRk X.w h' a ((ks.foldl addG []).map toK) → Inv X pins σ H { s with heap := h', toks := tk } → Q (.ref a) { s with heap := h', toks := tk }) :
    wpAny (model X.prog X.w) X.A (call (.type "set") [v]) Q X.xe s := by
  have hfew : (ks.map toK).length + 1 < scanBound := by rw [List.length_map]; unfold scanBound; omega
  have fin : ∀ (h' : Heap) (tk : Nat), SetRk X.w h' s.heap.objs.size ((ks.map toK).foldl addK []) → (∀ b o, s.heap.get? b = some o → h'.get? b = some o) → Q (.ref s.heap.objs.size) { s with heap := h', toks := tk } := fun h' tk R k => by
    have e := fold_map ks []
    rw [List.map_nil] at e
    rw [e] at R
    exact h _ h' tk R (I.kept (t' := tk) k)
  cases ra with
  | @str l hl =>
    cases hk
    obtain ⟨t, rfl⟩ := rv
    refine call_set_str (ks := (l.map fun c => KD.s [c]).map toK) (by simp [S]) (fun i u hu => ?_) (I.ok.hd hc) hfew fin
    obtain ⟨c, t', h4, rfl⟩ := hu
    have h5 : l[i]? = some c := by simpa [S] using h4
    refine ⟨toK (.s [c]), by rw [List.getElem?_map, List.getElem?_map, h5]; rfl, by simp [toK, keyIs, S, Value.isStrOf]⟩
  | @lst p xs l hl r =>
    obtain rfl : v = .ref p := rv
    obtain ⟨its, rv, pl, hz⟩ := I.list (show SqL X.K H p xs from .inl (.inl hl))
    have hkl := keysD_len (show keysD l = some ks from hk)
    refine call_set_lst pl.isList (ks := ks.map toK) (by rw [List.size_toArray, ← rv.length, r.length, List.length_map, hkl]) (fun i u hu => ?_) (I.ok.hd hc) hfew fin
    have hu' : its[i]? = some u := by simpa using hu
    cases hx : xs[i]? with
    | none => rw [rv.none_of hx] at hu'; cases hu'
    | some y =>
      obtain ⟨u', h1, h2⟩ := rv.get hx
      rw [hu'] at h1
      cases h1
      obtain ⟨d, h3, h4⟩ := r.at hx
      obtain ⟨k, h5, h6⟩ := keysD_get (show keysD l = some ks from hk) h3
      exact ⟨toK k, by rw [List.getElem?_map, h5]; rfl, rp_key h4 h6 h2⟩
  | _ => cases hk
/-! ### len(set(x)) -/
def lenSetD (d : D) : Option D := match setOfD d with
  | some ks => if ks.length ≤ 1000 then some (.int ((ks.foldl addG []).length : Nat)) else none
  | none => none
theorem se_lenSet {a : Expr} {ma : M} {p p2 q pos : Pos} (hg : Gl X "len") (hm : X.mg "len" = none) (hg2 : Gl X "set") (hm2 : X.mg "set" = none) (ha : SE X G W a ma) (hc : X.calm = true := by rfl)
    (na : starEach [a] X.env = (false, eval a X.env) :: starEach [] X.env := by rfl) : SE X G W (.Call (.Name "len" p) [.Call (.Name "set" p2) [a] [] q] [] pos) (mUn lenSetD ma) := by
  refine ⟨fun pins s σ H Q I h => ?_⟩
  obtain ⟨st, r, h⟩ := h
  refine Call_ (ld_blt I hg hm boot_len ?_)
  refine PyProof.Rows.callWith_builtin1 (PyProof.Rows.args_cons ?_ rfl) rfl rfl
  refine Call_ (ld_blt I hg2 hm2 boot_set ?_)
  refine PyProof.Rows.callWith_type1 (PyProof.Rows.args_cons (thn (ha.run pins s σ H (fun v H1 => ∃ x d, Rp X.K G H1 v x ∧ lenSetD x = some d ∧ ∀ v H', Ex H1 H' → Rp X.K G H' v d → Q v H') I ⟨st, r, h.bnd fun x v H1 e1 r1 h1 => ?_⟩) fun v s1 ⟨x, H1, I1, r1, y, d, ry, ed, q1⟩ => PyProof.Rows.args_nil ?_) na) na rfl
  · obtain ⟨d, ed, q⟩ := OkR.ofO h1
    exact ⟨x, d, r1, ed, q⟩
  · unfold lenSetD at ed
    cases hk : setOfD y with
    | none => rw [hk] at ed; cases ed
    | some ks =>
      rw [hk] at ed
      dsimp only at ed
      by_cases c : ks.length ≤ 1000
      · rw [if_pos c] at ed
        cases (Option.some.inj ed)
        refine call_set_D hc I1 r1 ry hk c fun a h' tk R I2 => PyProof.Rows.args_nil ?_
        obtain ⟨o, es, ep, t, ho, hex, hd, g, pm, nd, hsc, hf, _⟩ := R
        have hz : es.size = (ks.foldl addG []).length := by
          have := pm.length_eq
          rw [List.length_map, List.length_map, Array.length_toList] at this
          exact this
        have hb : es.size < scanBound := hsc
        refine call_len_set ho hex hd hf (by unfold scanBound at hb; omega) ⟨.int (ks.foldl addG []).length, H1, I2.tok _, ⟨_, by rw [hz]⟩, q1 _ H1 (Ex.refl _) (.int _)⟩
      · rw [if_neg c] at ed; cases ed
end
end Kp

namespace Kp
open PySem PySem.Spec PyProof.Rows L2
open Evl (Ex ex_l ex_t ex_rd)
section
variable {X : Cx} {G : Gv} {W : WX}
/-! ### calling what an expression gives -/
abbrev Tb := List (Str × Nat × (List D → Rs D))
def tbGet (tb : Tb) (x : Str) : Option (Nat × (List D → Rs D)) := (tb.find? fun p => p.1 == x).map (·.2)
def mCallV (tb : Tb) (mf : M) (mr : MA) : M := fun st => (mf st).bnd fun d => match d with
  | .fn x => match tbGet tb x with
    | some (n, g) => (mr st).bnd fun ds => if ds.length = n then g ds else none
    | none => none
  | _ => none
theorem se_callv {j k : Nat} {tb : Tb} {fe e : Expr} {es : List Expr} {pos : Pos} {mf : M} {mr : MA} (F : ∀ p ∈ tb, Fo X.prog X.w X.K X.mg X.base G k p.1 p.2.1 p.2.2) (hr : Room j X.A) (hk : k ≤ j) (tk : Takes X W) (hf : SE X G W fe mf) (ha : SA X G W (e :: es) mr)
    (ht : eval (.Call fe (e :: es) [] pos) X.env = (do callWith pos (← eval fe X.env) [] (backTo pos (starEach (e :: es) X.env)) (backToKw pos (keywordEach [] X.env))) := by rfl)
    (he : starEach (e :: es) X.env = (false, eval e X.env) :: starEach es X.env := by rfl) (hpl : (backTo pos (starEach es X.env)).any (·.1) = false := by rfl) :
    SE X G W (.Call fe (e :: es) [] pos) (mCallV tb mf mr) := by
  refine ⟨fun pins s σ H Q I h => ?_⟩
  obtain ⟨st, r, h⟩ := h
  refine Call_ (thn (hf.run pins s σ H (fun v H1 => ∃ x n g f, v = .ref f ∧ G.fa x = some f ∧ tbGet tb x = some (n, g) ∧ tAr X.K G W mr σ H1 fun vs H2 => spOf X.K G n g vs H2 Q (WE W σ)) I ⟨st, r, h.bnd fun d v H1 e1 r1 h1 => ?_⟩) fun u s1 ⟨y, H1, I1, ry, x, n, g, f, ey, hfa, htb, q⟩ => ?_) ht
  · cases r1 with
    | @fn f x hfa =>
      cases htb : tbGet tb x with
      | none => simp only [htb] at h1; exact h1.elim
      | some p =>
        obtain ⟨n, g⟩ := p
        simp only [htb] at h1
        refine ⟨x, n, g, f, rfl, hfa, htb, st, r.mono e1, h1.bndA fun ds vs H2 e2 r2 h2 => ?_⟩
        by_cases c : ds.length = n
        · rw [if_pos c] at h2
          refine ⟨ds, c, r2, ?_⟩
          cases e : g ds with
          | none => rw [e] at h2; exact h2
          | some z => cases z with
            | ok d => rw [e] at h2; exact h2
            | error c => rw [e] at h2; exact h2
        · rw [if_neg c] at h2; exact h2.elim
    | _ => exact h1.elim
  · subst ey
    obtain rfl : u = Value.ref f := ry
    unfold tbGet at htb
    obtain ⟨p, hp, e⟩ := Option.map_eq_some_iff.mp htb
    have hx : p.1 = x := by
      have := List.find?_some hp
      exact eq_of_beq this
    obtain ⟨f', fd, ps, F1, hm, kp, hb, hfa'⟩ := (F p (List.mem_of_find?_eq_some hp)).ex
    rw [hx, hfa] at hfa'
    cases hfa'
    rw [e] at F1
    exact PySem.W.callWith_K (h₀ := X.base) I1.ok.mod.kin kp (thn (ha.run pos pins s1 σ H1 _ I1 q) fun us s2 ⟨vs, H2, I2, r2, q2⟩ => ⟨I2.kIn, run_fnS F1 (hr.mono hk) hb (passAt tk σ) I2 r2 q2⟩) he hpl
/-! ### try .. except KeypadError as e -/
def subCl (c b : Cl) : Bool := decide (c = b) || decide (b = .keypadError)
def suiteS (n i : Nat) (c : Cl) : PSt := (List.replicate n Sl.un).set i (.sh (.exn c))
def mTry (Cs : List Cl) (n i : Nat) (mb ms : MS) : MS := fun st => match mb st with
  | some (.ok f) => some (.ok f)
  | some (.error c) => if c ∈ Cs then (match ms (suiteS n i c) with
    | some (.ok (.rt d)) => if pl 40 d = true then okR (.rt d) else none
    | _ => none) else none
  | none => none
mutual
theorem Rp.ofEx {K : PySem.W.Frag} {H : Hp} {o : Option (Addr × Cl)} : ∀ {v : V} {d : D} {n : Nat}, Rp K { G with ex := o } H v d → pl n d = true → Rp K G H v d
  | _, _, _, .non, _ => .non
  | _, _, _, .bl b, _ => .bl b
  | _, _, _, .int i, _ => .int i
  | _, _, _, .str h, _ => .str h
  | _, .tup l, n, .tup h r, p => by
    cases n with
    | zero => simp [pl] at p
    | succ n => exact .tup h (RpAll.ofEx (n := n) r (by simpa [pl] using p))
  | _, .lst l, n, .lst h r, p => by
    cases n with
    | zero => simp [pl] at p
    | succ n => exact .lst h (RpAll.ofEx (n := n) r (by simpa [pl] using p))
  | _, _, _, .dK _ _, p => by simp [pl] at p
  | _, _, _, .dT _ _, p => by simp [pl] at p
  | _, _, _, .fn _, p => by simp [pl] at p
  | _, _, _, .scr _, p => by simp [pl] at p
  | _, _, _, .ty _, p => by simp [pl] at p
  | _, _, _, .exn _, p => by simp [pl] at p
  | _, _, _, .cls _, p => by simp [pl] at p
theorem RpAll.ofEx {K : PySem.W.Frag} {H : Hp} {o : Option (Addr × Cl)} : ∀ {vs : List V} {ds : List D} {n : Nat}, RpAll K { G with ex := o } H vs ds → plL n ds = true → RpAll K G H vs ds
  | _, _, _, .nil, _ => .nil
  | _, _, n, .cons h r, p => by
    have p' := p
    simp only [plL, Bool.and_eq_true] at p'
    exact .cons (Rp.ofEx h p'.1) (RpAll.ofEx r p'.2)
end
/-- what is known of the classes of the text -/
structure Ek (K : PySem.W.Frag) (G : Gv) (Cs : List Cl) : Prop where
  exc : ∀ c ∈ Cs, ExcC K (G.cl c)
  catch_ : ∀ c ∈ Cs, PySem.W.exmOne K (.ref (G.cl c)) (.ref (G.cl .keypadError)) = some true
  is : ∀ c ∈ Cs, ∀ b ∈ Cs, PySem.W.kitOne K (.ref (G.cl c)) (.ref (G.cl b)) = some (subCl c b)
def isED (Cs : List Cl) : List D → Option D
  | [.exn c, .cls b] => if c ∈ Cs ∧ b ∈ Cs then some (.bl (subCl c b)) else none
  | _ => none
theorem cD_isE {Cs : List Cl} (ek : Ek X.K G Cs) {a : Addr} {c : Cl} {oe : Obj} {pn : List (Addr × Obj)} (hc : c ∈ Cs) (hz : Zc (.ref (G.cl c)) none oe) (hf : ∃ vs, oe.data = .fields vs) :
    CallR (X.suite a ((a, oe) :: pn)) (.builtin "isinstance") (rDA X.K { G with ex := some (a, c) } (isED Cs)) := by
  intro pins s σ H xs us Q I rx ⟨ds, d, rds, e, q⟩
  cases rds with
  | nil => cases e
  | cons r1 rds => cases rds with
    | nil => cases r1 <;> cases e
    | cons r2 rds => cases rds with
      | nil =>
        cases r1 with
        | @exn a' c' h1 => cases r2 with
          | cls b =>
            have e' : (if c' ∈ Cs ∧ b ∈ Cs then some (D.bl (subCl c' b)) else none) = some d := e
            by_cases cc : c' ∈ Cs ∧ b ∈ Cs
            · rw [if_pos cc] at e'
              cases (Option.some.inj e')
              have h1' : some (a, c) = some (a', c') := h1
              cases h1'
              exact call_isE (ek.exc c hc) hz hf pins s σ H _ us Q I rx ⟨.ref (G.cl b), .ref (G.cl b), subCl c b, rfl, fun u h => h, ek.is c hc b cc.2, q _ H (Ex.refl _) (.bl _)⟩
            · rw [if_neg cc] at e'; cases e'
          | _ => cases e
        | _ => cases e
      | cons _ _ => cases r1 <;> first | cases e | (cases r2 <;> cases e)
theorem Takes.len {W : WX} (tk : Takes X W) : Takes X (fun c d σ H => σ.length = X.N.length → W c d σ H) := fun u s' ⟨a, B, sI, pins, σ, H, cls, d, e, I, nb, up, sky, na, os, ag, w⟩ =>
  tk u s' ⟨a, B, sI, pins, σ, H, cls, d, e, I, nb, up, sky, na, os, ag, w I.len⟩

theorem ss_try {Cs : List Cl} {i : Nat} {x n : Str} {body suite : List Stmt} {b₀ : Stmt} {np pos pos' : Pos} {mb ms : MS} (ek : Ek X.K G Cs) (hs : X.stack = X.env :: X.outer) (hf : X.env.frame = some X.env.locals) (hN : X.N.Nodup) (hi : X.N[i]? = some n) (hln : X.env.kindOf n = some .local)
    (hc : Names X x (.ref (G.cl .keypadError))) (tk : Takes X W)
    (hb : ∀ (W' : WX) (pn : List (Addr × Obj)) (xe : Value → Shared → Prop), Takes (X.tr pn xe) W' → PassesOwn (model X.prog X.w) X.A X.env xe → SSs (X.tr pn xe) G W' body mb)
    (hsu : ∀ (a : Addr) (oe : Obj) (c : Cl) (pn : List (Addr × Obj)), c ∈ Cs → Zc (.ref (G.cl c)) none oe → (∃ vs, oe.data = .fields vs) → SSs (X.suite a ((a, oe) :: pn)) { G with ex := some (a, c) } W0 (b₀ :: suite) ms) :
    SS X G W (.Try body [.ExceptHandler (some (.Name x np)) (some n) (b₀ :: suite) pos'] [] [] pos) (mTry Cs X.N.length i mb ms) := by
  refine ps_weak (ps_try_as hs hf hN hi hln hc tk (tb := fun W' => tS X.K G (fun c d σ H => σ.length = X.N.length → W' c d σ H) mb)
    (ts := fun a cls d Dn σ H => ∃ c, c ∈ Cs ∧ cls = .ref (G.cl c) ∧ d = none ∧ tS X.K { G with ex := some (a, c) } W0 ms Dn σ H) (fun W' pn xe tk' hp => hb _ pn xe (Takes.len tk') hp) fun a oe cls d pn hz hfl => ⟨fun pins s σ H Dn I h => ?_⟩) fun D σ H ⟨B, st, r, q⟩ => ?_
  · obtain ⟨c, hc', rfl, rfl, h⟩ := h
    exact (hsu a oe c pn hc' hz hfl).run pins s σ H Dn I h
  · refine ⟨B, st, r, ?_⟩
    unfold mTry at q
    cases e : mb st with
    | none => rw [e] at q; exact q
    | some z => cases z with
      | ok f => rw [e] at q; cases f <;> exact q
      | error c =>
        rw [e] at q
        dsimp only at q
        by_cases hcs : c ∈ Cs
        · rw [if_pos hcs] at q
          intro σ' H' e' hlen
          refine ⟨true, ek.catch_ c hcs, fun _ a ha => ⟨c, hcs, rfl, rfl, H', suiteS X.N.length i c, ⟨[], ?_⟩, ?_⟩, fun h => nomatch h⟩
          · have hl : i < X.N.length := (List.getElem?_eq_some_iff.mp hi).1
            have r0 : RepS X.K { G with ex := some (a, c) } H' [] σ' H' (List.replicate X.N.length Sl.un) :=
              ⟨by rw [hlen, List.length_replicate], Ex.refl _, OwnsM.nil, fun _ h => (nomatch h), fun j d h => by have := List.mem_of_getElem? h; simp at this, fun j d h => by have := List.mem_of_getElem? h; simp at this, fun j k d e h => by have := List.mem_of_getElem? h; simp at this⟩
            exact r0.put (Ob := []) (fun j d p h => by have := List.mem_of_getElem? h; simp at this) (x := .sh (.exn c)) (by show Rp X.K _ (hid H' []) _ _; exact .exn rfl)
          · cases e2 : ms (suiteS X.N.length i c) with
            | none => rw [e2] at q; exact q.elim
            | some z => cases z with
              | error c => rw [e2] at q; exact q.elim
              | ok f => cases f with
                | nx st => rw [e2] at q; exact q.elim
                | rt d =>
                  rw [e2] at q
                  dsimp only at q
                  by_cases hp : pl 40 d = true
                  · rw [if_pos hp] at q
                    exact fun v H2 e3 rv => q v H2 (e'.trans e3) (rv.ofEx hp)
                  · rw [if_neg hp] at q; exact q.elim
        · rw [if_neg hcs] at q; exact q.elim
end
end Kp

namespace Kp
open PySem PySem.Spec PyProof.Rows L2
open Evl (Ex ex_l ex_t ex_rd)
section
variable {X : Cx} {G : Gv} {W : WX}
/-! ### a, b = e -/
def mUnp (t : Tg) (m : MV) : MS := fun st => (m st).bnd fun x => match x with
  | .sh d => (match t.put d st with
    | some st2 => okR (.nx st2)
    | none => none)
  | _ => none
theorem ss_unp {t : Tg} {s : Stmt} {m : MV} (h : PS X s (tAsg (tV X.K G W m) (t.g X.K))) : SS X G W s (mUnp t m) := by
  refine ps_weak h fun D σ H ⟨B, st, ⟨O, r⟩, q⟩ => ?_
  refine ⟨B, O, st, r, ?_⟩
  unfold mUnp at q
  cases em : m st with
  | none => rw [em] at q; exact q
  | some z => cases z with
    | error c => rw [em] at q; exact q
    | ok x =>
      rw [em, bnd_ok] at q
      intro v H1 O1 s1 v1
      cases x with
      | un => exact q.elim
      | ow d => exact q.elim
      | sh d =>
        dsimp only at q
        cases ep : t.put d st with
        | none => rw [ep] at q; exact q.elim
        | some st2 =>
          rw [ep] at q
          exact t.runS (r.step s1) v1 ep fun σ2 r2 => q _ _ ⟨_, r2⟩
end
/-! ### the text's top -/
def clName : Cl → Str
  | .keypadError => "KeypadError"
  | .invalidKeypad => "InvalidKeypad"
  | .invalidLetter => "InvalidLetter"
  | .invalidWord => "InvalidWord"
  | .invalidWords => "InvalidWords"
  | .notThere => "NotThere"
  | .invalidCode => "InvalidCode"
  | .invalidNumber => "InvalidNumber"
  | .tooLarge => "TooLarge"
  | .invalidLetters => "InvalidLetters"
  | .invalidWeights => "InvalidWeights"
  | .alreadyThere => "AlreadyThere"
  | .invalidWay => "InvalidWay"
  | .noWord => "NoWord"
  | .nothingTyped => "NothingTyped"
  | .nothingToUndo => "NothingToUndo"
  | .parseError => "ParseError"
def adOf (v : Option Value) : Option Addr := match v with
  | some (.ref f) => some f
  | _ => none
def gvOf (mg : Str → Option Value) : Gv where
  fa := fun x => adOf (mg x)
  cl := fun c => (adOf (mg (clName c))).getD 0
  ex := none
theorem gv_fa {mg : Str → Option Value} {x : Str} {f : Addr} (h : mg x = some (.ref f)) : (gvOf mg).fa x = some f := by
  show adOf (mg x) = _
  rw [h]; rfl
theorem gv_cl {mg : Str → Option Value} {c : Cl} {f : Addr} (h : mg (clName c) = some (.ref f)) : (gvOf mg).cl c = f := by
  show (adOf (mg (clName c))).getD 0 = _
  rw [h]; rfl
structure FnAt (K : PySem.W.Frag) (mg : Str → Option Value) (x : Str) (st : Stmt) (ps : List Str) : Prop where
  ex : ∃ f fd, Fun K x x st f fd ∧ mg x = some (.ref f) ∧ ∀ us : List Value, us.length = ps.length → bindArgs fd ⟨us, []⟩ = pure (ps.zip us)
section
variable {P : Program} {w : World} {K : PySem.W.Frag} {mg : Str → Option Value} {base : Heap}
theorem fnAt_mk {h : Heap} {x : Str} {st : Stmt} {ps : List Str} {f : Addr} {oc : Value} {od an : Option Addr} {osl : Array (Option Value)} {kV doc pm cdv ct : Value} (X : K.In h) (Gn : h.Ns mainGlobals mg)
    (hb : ∀ (kV doc pm : Value) (an : Option Addr) (cdv ct : Value) (us : List Value), us.length = ps.length → bindArgs (PySem.W.fnOf x x (defArgs st) (defBody st) (defScope st) .none kV doc pm an cdv ct) ⟨us, []⟩ = pure (ps.zip us))
    (a : PySem.W.nsIn K mainGlobals x = some (some (.ref f))) (l : K.lookup f = some ⟨oc, od, .func (PySem.W.fnOf x x (defArgs st) (defBody st) (defScope st) .none kV doc pm an cdv ct), osl⟩) (c : PySem.W.codeIn K cdv x = true) (k : PySem.W.keepIn K (.ref f) = true) : FnAt K mg x st ps :=
  ⟨f, _, fun_mk l c k, PySem.W.mg_of X Gn a, hb kV doc pm an cdv ct⟩
theorem fo_mk {x : Str} {st : Stmt} {N ps : List Str} {k : Nat} {m : MS} (T : FnAt K mg x st ps) (S : FnScope N ps (defScope st))
    (hb : ∀ (f : Addr) (cdv : Value) (A : Around) (outer : List Env) (s : Shared) (H : Hp) (E : XK), Room k (A.deeper (envOfC x (defScope st) s.heap.objs.size f cdv)) → SSs (cxOf (L2.CX P w) P w K mg base N x (defScope st) f cdv A outer s H E) (gvOf mg) (WofE E) (defBody st) m) :
    Fo P w K mg base (gvOf mg) (k + 1) x ps.length (runDef N.length m) := by
  obtain ⟨f, fd, F, hm, b⟩ := T.ex
  exact ⟨f, fd, ps, def_ok F S (hb f), hm, F.kp, .all b, gv_fa hm⟩
theorem Fo.up {G : Gv} {j k n : Nat} {x : Str} {g : List D → Rs D} (F : Fo P w K mg base G j x n g) (h : j ≤ k) : Fo P w K mg base G k x n g := by
  obtain ⟨f, fd, ps, F1, r⟩ := F.ex
  exact ⟨f, fd, ps, F1.mono h, r⟩
/-! ### the law's own end -/
/-- the law answers True -/
def spLaw (K : PySem.W.Frag) : Sp := fun vs H Q _ => ∃ (a : Addr) (ns : List Int), vs = [.ref a] ∧ SqL K H a (ns.map V.int) ∧ ns.length ≤ 63 ∧ ∀ H', Q (.bl true) H'
theorem law_end {k : Nat} {x : Str} {st : Stmt} {ps : List Str} {g : List D → Rs D} {fa : Addr} (T : FnAt K mg x st ["script"]) (hfa : mg x = some (.ref fa)) (ht : ∀ ns : List Int, ns.length ≤ 63 → g [.scr ns] = okR (.bl true))
    (F : ∀ (f : Addr) (fd : FuncData) (base : Heap), Fun K x x st f fd → FnOk P w K mg base (L2.CX P w) k f fd ["script"] (spOf K (gvOf mg) 1 g)) :
    ∃ fd : FuncData, (∀ (s : Shared) (v : Value), BindsTo s fd ⟨[v], []⟩ [("script", v)]) ∧ ∀ base : Heap, K.In base → base.Ns mainGlobals mg → FnOk P w K mg base (L2.CX P w) k fa fd ["script"] (spLaw K) := by
  obtain ⟨f, fd, F1, hm, hb⟩ := T.ex
  have e : fa = f := by
    have z := hfa.symm.trans hm
    cases z; rfl
  subst e
  refine ⟨fd, fun s v => .of_eq (hb [v] rfl), fun base _ _ => (F fa fd base F1).imp fun vs H Q E ⟨a, ns, e1, hS, hl, q⟩ => ?_⟩
  subst e1
  refine ⟨[.scr ns], rfl, .cons (.scr hS) .nil, ?_⟩
  rw [ht ns hl]
  intro v H' _ rv
  cases rv with
  | bl b => exact q H'
/-! ### classes of errors -/
abbrev bmV : List Value := [.type "ValueError", .type "Exception", .type "BaseException", .type "object"]
structure ExAt (K : PySem.W.Frag) (mg : Str → Option Value) (c : Cl) : Prop where
  ex : ∃ C, mg (clName c) = some (.ref C) ∧ PySem.W.excIn K C bmV "ValueError.__new__" = true ∧ PySem.W.keepIn K (.ref C) = true ∧ PySem.W.subIn K (.ref C) (.type "BaseException") = some true ∧ PySem.W.typeIn K (.ref C) = some (.type "type")
theorem exAt_mk {h : Heap} {c : Cl} {x : Str} {C : Addr} (X : K.In h) (Gn : h.Ns mainGlobals mg) (hx : x = clName c) (a : PySem.W.nsIn K mainGlobals x = some (some (.ref C))) (q : PySem.W.excIn K C bmV "ValueError.__new__" = true) (k : PySem.W.keepIn K (.ref C) = true)
    (b : PySem.W.subIn K (.ref C) (.type "BaseException") = some true) (t : PySem.W.typeIn K (.ref C) = some (.type "type")) : ExAt K mg c := ⟨C, by rw [← hx]; exact PySem.W.mg_of X Gn a, q, k, b, t⟩
theorem n_err {C : Addr} (h : mg "KeypadError" = some (.ref C)) : mg "KeypadError" = some (.ref ((gvOf mg).cl .keypadError)) := by
  rw [gv_cl (c := .keypadError) h]
  exact h
theorem n_errA {h : Heap} {C : Addr} (X : K.In h) (Gn : h.Ns mainGlobals mg) (a : PySem.W.nsIn K mainGlobals "KeypadError" = some (some (.ref C))) : mg "KeypadError" = some (.ref ((gvOf mg).cl .keypadError)) := n_err (PySem.W.mg_of X Gn a)
theorem cst_s {h : Heap} {x y : Str} {v : Value} (X : K.In h) (Gn : h.Ns mainGlobals mg) (a : PySem.W.nsIn K mainGlobals x = some (some v)) (e : ∃ t, v = .str y t) : ∃ t, mg x = some (.str y t) := by
  obtain ⟨t, e⟩ := e
  exact ⟨t, by rw [PySem.W.mg_of X Gn a, e]⟩
theorem cst_i {h : Heap} {x : Str} {i : Int} {v : Value} (X : K.In h) (Gn : h.Ns mainGlobals mg) (a : PySem.W.nsIn K mainGlobals x = some (some v)) (e : ∃ t, v = .int i t) : ∃ t, mg x = some (.int i t) := by
  obtain ⟨t, e⟩ := e
  exact ⟨t, by rw [PySem.W.mg_of X Gn a, e]⟩
theorem clAt {h : Heap} {c : Cl} {x : Str} {C : Addr} (X : K.In h) (Gn : h.Ns mainGlobals mg) (hx : x = clName c) (a : PySem.W.nsIn K mainGlobals x = some (some (.ref C))) : mg (clName c) = some (.ref C) := by rw [← hx]; exact PySem.W.mg_of X Gn a
end
section
variable {X : Cx} {W : WX}
theorem ss_raiseC {c : Cl} {x m : Str} {j : Nat} {p p2 pos pos2 : Pos} (E : ExAt X.K X.mg c) (hc : X.calm = true) (tk : Takes X W) (hg : Gl X x) (hx : x = clName c := by rfl) (hd : (x == ("__debug__" : Str)) = false := by decide) :
    SS X (gvOf X.mg) W (.Raise (some (.Call (.Name x p) [.Constant (.str m) j p2] [] pos)) none pos2) (mRaise c) := by
  obtain ⟨C, h1, h2, h3, h4, h5⟩ := E.ex
  refine ss_raise (ps_weak (ps_raise hc tk (pmk_own PySem.F.excBase_ValueError h2 (hx ▸ h1) h3 (raises_own h4 h5) hg hd)) fun D σ H q => ?_)
  rw [gv_cl h1] at q
  exact q
theorem se_gfnT {x : Str} {st : Stmt} {ps : List Str} {pos : Pos} (T : FnAt X.K X.mg x st ps) (hg : Gl X x) (hd : (x == ("__debug__" : Str)) = false := by decide) : SE X (gvOf X.mg) W (.Name x pos) (mC (.fn x)) := by
  obtain ⟨f, fd, F, hm, b⟩ := T.ex
  exact se_gfn hg hm (gv_fa hm) hd
/-- a class of the text, as a value -/
theorem se_cls {c : Cl} {x : Str} {pos : Pos} {o : Option (Addr × Cl)} (E : ExAt X.K X.mg c) (hg : Gl X x) (hx : x = clName c := by rfl) (hd : (x == ("__debug__" : Str)) = false := by decide) : SE X { gvOf X.mg with ex := o } W (.Name x pos) (mC (.cls c)) := by
  obtain ⟨C, h1, _⟩ := E.ex
  subst hx
  refine se_c (pe_glob (v := .ref C) hg h1 rfl hd) fun H => ?_
  have e := gv_cl h1
  have r : Rp X.K { gvOf X.mg with ex := o } H (.ref ((gvOf X.mg).cl c)) (.cls c) := .cls c
  rw [e] at r
  exact r
end
theorem bt_len : bootBuiltins "len" = some (.builtin "len") := by decide +kernel
theorem bt_isinstance : bootBuiltins "isinstance" = some (.builtin "isinstance") := by decide +kernel
theorem bt_all : bootBuiltins "all" = some (.builtin "all") := by decide +kernel
theorem bt_any : bootBuiltins "any" = some (.builtin "any") := by decide +kernel
theorem bt_sum : bootBuiltins "sum" = some (.builtin "sum") := by decide +kernel
theorem bt_sorted : bootBuiltins "sorted" = some (.builtin "sorted") := by decide +kernel
theorem bt_min : bootBuiltins "min" = some (.builtin "min") := by decide +kernel
theorem bt_max : bootBuiltins "max" = some (.builtin "max") := by decide +kernel
theorem bt_tuple : bootBuiltins "tuple" = some (.type "tuple") := by decide +kernel
theorem bt_list : bootBuiltins "list" = some (.type "list") := by decide +kernel
theorem bt_str : bootBuiltins "str" = some (.type "str") := by decide +kernel
theorem bt_set : bootBuiltins "set" = some (.type "set") := by decide +kernel
theorem bt_int : bootBuiltins "int" = some (.type "int") := by decide +kernel
theorem bt_bool : bootBuiltins "bool" = some (.type "bool") := by decide +kernel
theorem bt_dict : bootBuiltins "dict" = some (.type "dict") := by decide +kernel
theorem hu64 {k : Nat} {A : Around} (hr : Room k A) : A.units + 64 < cLine := by have := hr.un; omega
theorem hu65 {k : Nat} {A : Around} (hr : Room k A) : A.units + 65 < cLine := by have := hr.un; omega
theorem tk_def {P : Program} {w : World} {K : PySem.W.Frag} {mg : Str → Option Value} {base : Heap} {N : List Str} {x : Str} {sc : Scope} {f : Addr} {cdv : Value} {A : Around} {outer : List Env} {s : Shared} {H : Hp} {E : XK} :
    Takes (cxOf (L2.CX P w) P w K mg base N x sc f cdv A outer s H E) (WofE E) := takes_of rfl rfl rfl rfl
theorem po_def {P : Program} {w : World} {K : PySem.W.Frag} {mg : Str → Option Value} {base : Heap} {N : List Str} {x : Str} {sc : Scope} {f : Addr} {cdv : Value} {A : Around} {outer : List Env} {s : Shared} {H : Hp} {E : XK} :
    PassesOwn (model P w) (cxOf (L2.CX P w) P w K mg base N x sc f cdv A outer s H E).A (cxOf (L2.CX P w) P w K mg base N x sc f cdv A outer s H E).env (cxOf (L2.CX P w) P w K mg base N x sc f cdv A outer s H E).xe := passes_of rfl
end Kp

namespace Kp
open PySem PySem.Spec PyProof.Rows L2
/-! ### reckoning with mirrors -/
theorem w_0 {α β : Type} (a : α) (f : α → Rs β) : Rs.bnd (okR a) f = f a := rfl
theorem w_1 {α β : Type} (f : α → Rs β) : Rs.bnd none f = none := rfl
theorem w_2 {α β : Type} (c : Cl) (f : α → Rs β) : Rs.bnd (some (.error c)) f = some (.error c) := rfl
theorem w_3 {α : Type} (a : α) : ofO (some a) = okR a := rfl
theorem w_4 {α : Type} : ofO (none : Option α) = none := rfl
section
variable (st : PSt) (ma mb mc : M) (mr : MA) (mA mB : MB) (v : MV)
theorem w_5 (x : Sl) : lookS (x :: st) 0 = x.get := rfl
theorem w_6 (x : Sl) (n : Nat) : lookS (x :: st) (n + 1) = lookS st n := by simp [lookS]
theorem w_7 (d : D) : (Sl.sh d).get = some d := rfl
theorem w_8 (d : D) : (Sl.ow d).get = some d := rfl
theorem w_9 (i : Nat) : mVar i st = ofO (lookS st i) := rfl
theorem w_10 (d : D) : mC d st = okR d := rfl
def opC (g : D → D → Option D) (a b : D) : Rs D := ofO (g a b)
def opB (g : D → D → Option D) (mb : M) (st : PSt) (a : D) : Rs D := (mb st).bnd (opC g a)
theorem w_11 (g : D → D → Option D) (a b : D) : opC g a b = ofO (g a b) := rfl
theorem w_12 (g : D → D → Option D) (a : D) : opB g mb st a = (mb st).bnd (opC g a) := rfl
theorem w_13 (g : D → D → Option D) : mOp g ma mb st = (ma st).bnd (opB g mb st) := rfl
def unB (g : D → Option D) (a : D) : Rs D := ofO (g a)
theorem w_14 (g : D → Option D) (a : D) : unB g a = ofO (g a) := rfl
theorem w_15 (g : D → Option D) : mUn g ma st = (ma st).bnd (unB g) := rfl
def chD (g' : D → D → Option D) (mc : M) (st : PSt) (b : D) : D → Rs D
  | .bl true => (mc st).bnd (opC g' b)
  | .bl false => okR (.bl false)
  | _ => none
def chC (g g' : D → D → Option D) (mc : M) (st : PSt) (a b : D) : Rs D := (ofO (g a b)).bnd (chD g' mc st b)
def chB (g g' : D → D → Option D) (mb mc : M) (st : PSt) (a : D) : Rs D := (mb st).bnd (chC g g' mc st a)
theorem w_16 (g' : D → D → Option D) (b : D) : chD g' mc st b (.bl true) = (mc st).bnd (opC g' b) := rfl
theorem w_17 (g' : D → D → Option D) (b : D) : chD g' mc st b (.bl false) = okR (.bl false) := rfl
theorem w_18 (g g' : D → D → Option D) (a b : D) : chC g g' mc st a b = (ofO (g a b)).bnd (chD g' mc st b) := rfl
theorem w_19 (g g' : D → D → Option D) (a : D) : chB g g' mb mc st a = (mb st).bnd (chC g g' mc st a) := rfl
theorem w_20 (g g' : D → D → Option D) : mChain g g' ma mb mc st = (ma st).bnd (chB g g' mb mc st) := rfl
theorem w_21 : mBl ma st = (ma st).bnd asB := rfl
theorem w_22 (b : Bool) : asB (.bl b) = okR b := rfl
def notB (b : Bool) : Rs Bool := okR (!b)
theorem w_23 (b : Bool) : notB b = okR (!b) := rfl
theorem w_24 : mNotB mA st = (mA st).bnd notB := rfl
def andB (mB : MB) (st : PSt) (b : Bool) : Rs Bool := if b = true then mB st else okR false
def orB (mB : MB) (st : PSt) (b : Bool) : Rs Bool := if b = true then okR true else mB st
theorem w_25 : andB mB st true = mB st := rfl
theorem w_26 : andB mB st false = okR false := rfl
theorem w_27 : orB mB st true = okR true := rfl
theorem w_28 : orB mB st false = mB st := rfl
theorem w_29 : mAndB mA mB st = (mA st).bnd (andB mB st) := rfl
theorem w_30 : mOrB mA mB st = (mA st).bnd (orB mB st) := rfl
def andV (mb : M) (st : PSt) : D → Rs D
  | .bl true => mb st
  | .bl false => okR (.bl false)
  | _ => none
def orV (mb : M) (st : PSt) : D → Rs D
  | .bl true => okR (.bl true)
  | .bl false => mb st
  | _ => none
def notV : D → Rs D
  | .bl b => okR (.bl (!b))
  | _ => none
theorem w_31 : andV mb st (.bl true) = mb st := rfl
theorem w_32 : andV mb st (.bl false) = okR (.bl false) := rfl
theorem w_33 : orV mb st (.bl true) = okR (.bl true) := rfl
theorem w_34 : orV mb st (.bl false) = mb st := rfl
theorem w_35 (b : Bool) : notV (.bl b) = okR (.bl (!b)) := rfl
theorem w_36 : mAndV ma mb st = (ma st).bnd (andV mb st) := rfl
theorem w_37 : mOrV ma mb st = (ma st).bnd (orV mb st) := rfl
theorem w_38 : mNotV ma st = (ma st).bnd notV := rfl
def ifB (ma mb : M) (st : PSt) (t : Bool) : Rs D := if t = true then ma st else mb st
theorem w_39 : ifB ma mb st true = ma st := rfl
theorem w_40 : ifB ma mb st false = mb st := rfl
theorem w_41 : mIf mA ma mb st = (mA st).bnd (ifB ma mb st) := rfl
def coC (d : D) (ds : List D) : Rs (List D) := okR (d :: ds)
def coB (mr : MA) (st : PSt) (d : D) : Rs (List D) := (mr st).bnd (coC d)
theorem w_42 (d : D) (ds : List D) : coC d ds = okR (d :: ds) := rfl
theorem w_43 (d : D) : coB mr st d = (mr st).bnd (coC d) := rfl
theorem w_44 : mNil st = okR [] := rfl
theorem w_45 : mCons ma mr st = (ma st).bnd (coB mr st) := rfl
def tuB (ds : List D) : Rs D := okR (.tup ds)
def liB (ds : List D) : Rs D := okR (.lst ds)
theorem w_46 (ds : List D) : tuB ds = okR (.tup ds) := rfl
theorem w_47 (ds : List D) : liB ds = okR (.lst ds) := rfl
theorem w_48 : mTup mr st = (mr st).bnd tuB := rfl
theorem w_49 : mLst mr st = (mr st).bnd liB := rfl
def cbB (g : List D → Option D) (ds : List D) : Rs D := ofO (g ds)
theorem w_50 (g : List D → Option D) (ds : List D) : cbB g ds = ofO (g ds) := rfl
theorem w_51 (g : List D → Option D) : mCB g mr st = (mr st).bnd (cbB g) := rfl
def mtC (g : D → List D → Option D) (a : D) (ds : List D) : Rs D := ofO (g a ds)
def mtB (T : String) (g : D → List D → Option D) (mr : MA) (st : PSt) (a : D) : Rs D := if mtyD T a = true then (mr st).bnd (mtC g a) else none
theorem w_52 (g : D → List D → Option D) (a : D) (ds : List D) : mtC g a ds = ofO (g a ds) := rfl
theorem w_53 {T : String} {g : D → List D → Option D} {mr : MA} {st : PSt} {a : D} (h : mtyD T a = true) : mtB T g mr st a = (mr st).bnd (mtC g a) := if_pos h
theorem w_54 (T : String) (g : D → List D → Option D) : mMt T g ma mr st = (ma st).bnd (mtB T g mr st) := rfl
def slD3 (a : D) (l h : Option Int) : Rs D := ofO (cutD a l h)
def slD2 (hi : MO) (st : PSt) (a : D) (l : Option Int) : Rs D := (hi st).bnd (slD3 a l)
def slD1 (lo hi : MO) (st : PSt) (a : D) : Rs D := (lo st).bnd (slD2 hi st a)
theorem w_55 (a : D) (l h : Option Int) : slD3 a l h = ofO (cutD a l h) := rfl
theorem w_56 (hi : MO) (a : D) (l : Option Int) : slD2 hi st a l = (hi st).bnd (slD3 a l) := rfl
theorem w_57 (lo hi : MO) (a : D) : slD1 lo hi st a = (lo st).bnd (slD2 hi st a) := rfl
theorem w_58 (lo hi : MO) : mSl ma lo hi st = (ma st).bnd (slD1 lo hi st) := rfl
theorem w_59 : mNo st = okR none := rfl
def ptB : D → Rs (Option Int)
  | .int i => okR (some i)
  | _ => none
theorem w_60 (i : Int) : ptB (.int i) = okR (some i) := rfl
theorem w_61 : mPt ma st = (ma st).bnd ptB := rfl
def lcC (es : List D) : Rs D := okR (.lst es)
def lcB (t : Tg) (mt : MB) (me : M) (st : PSt) (ds : List D) : Rs D := (lcGo t mt me st ds).bnd lcC
theorem w_62 (es : List D) : lcC es = okR (.lst es) := rfl
theorem w_63 (t : Tg) (mt : MB) (me : M) (ds : List D) : lcB t mt me st ds = (lcGo t mt me st ds).bnd lcC := rfl
theorem w_64 (src : MA) (t : Tg) (mt : MB) (me : M) (vs : List Nat) : mLc src t mt me vs st = (src st).bnd (lcB t mt me (wipeS st vs)) := rfl
def itB (d : D) : Rs (List D) := ofO (iterD d)
theorem w_65 (d : D) : itB d = ofO (iterD d) := rfl
theorem w_66 : mIter ma st = (ma st).bnd itB := rfl
def enB : List D → Rs (List D)
  | [d] => ofO ((iterD d).map enumL)
  | _ => none
def zpB : List D → Rs (List D)
  | [d, e] => ofO (zipD d e)
  | _ => none
theorem w_67 (d : D) : enB [d] = ofO ((iterD d).map enumL) := rfl
theorem w_68 : mEnum mr st = (mr st).bnd enB := rfl
theorem w_69 (d e : D) : zpB [d, e] = ofO (zipD d e) := rfl
theorem w_70 : mZip mr st = (mr st).bnd zpB := rfl
def rgB1 : List D → Rs (List D)
  | [.int n] => if -100000 ≤ n ∧ n ≤ 100000 then okR (rangeL 0 1 n.toNat) else none
  | _ => none
def rgB2 : List D → Rs (List D)
  | [.int a, .int b] => if (-100000 ≤ a ∧ a ≤ 100000) ∧ (-100000 ≤ b ∧ b ≤ 100000) then okR (rangeL a 1 (b - a).toNat) else none
  | _ => none
def rgB3 : List D → Rs (List D)
  | [.int a, .int b, .int c] => if ((-100000 ≤ a ∧ a ≤ 100000) ∧ (-100000 ≤ b ∧ b ≤ 100000)) ∧ c = -1 then okR (rangeL a (-1) (a - b).toNat) else none
  | _ => none
theorem w_71 {n : Int} (h : -100000 ≤ n ∧ n ≤ 100000) : rgB1 [.int n] = okR (rangeL 0 1 n.toNat) := if_pos h
theorem w_72 : mRange1 mr st = (mr st).bnd rgB1 := rfl
theorem w_73 {a b : Int} (h : (-100000 ≤ a ∧ a ≤ 100000) ∧ (-100000 ≤ b ∧ b ≤ 100000)) : rgB2 [.int a, .int b] = okR (rangeL a 1 (b - a).toNat) := if_pos h
theorem w_74 : mRange2 mr st = (mr st).bnd rgB2 := rfl
theorem w_75 {a b : Int} (h : ((-100000 ≤ a ∧ a ≤ 100000) ∧ (-100000 ≤ b ∧ b ≤ 100000)) ∧ (-1 : Int) = -1) : rgB3 [.int a, .int b, .int (-1)] = okR (rangeL a (-1) (a - b).toNat) := if_pos h
theorem w_76 : mRange3 mr st = (mr st).bnd rgB3 := rfl
theorem w_77 (g : List D → Rs D) : mCall g mr st = (mr st).bnd g := rfl
def cvC (n : Nat) (g : List D → Rs D) (ds : List D) : Rs D := if ds.length = n then g ds else none
def cvB (tb : Tb) (mr : MA) (st : PSt) : D → Rs D
  | .fn x => match tbGet tb x with
    | some (n, g) => (mr st).bnd (cvC n g)
    | none => none
  | _ => none
theorem w_78 {n : Nat} {g : List D → Rs D} {ds : List D} (h : ds.length = n) : cvC n g ds = g ds := if_pos h
theorem cvB_fn {tb : Tb} {mr : MA} {st : PSt} {x : Str} {n : Nat} {g : List D → Rs D} (h : tbGet tb x = some (n, g)) : cvB tb mr st (.fn x) = (mr st).bnd (cvC n g) := by
  simp only [cvB, h]
theorem w_79 (tb : Tb) (mf : M) : mCallV tb mf mr st = (mf st).bnd (cvB tb mr st) := rfl
def rtB (d : D) : Rs Fl := okR (.rt d)
def drB (st : PSt) (_ : D) : Rs Fl := okR (.nx st)
theorem w_80 (d : D) : rtB d = okR (.rt d) := rfl
theorem w_81 (d : D) : drB st d = okR (.nx st) := rfl
theorem w_82 : mRet ma st = (ma st).bnd rtB := rfl
theorem w_83 : mDrop ma st = (ma st).bnd (drB st) := rfl
def isB (m n : MS) (st : PSt) (b : Bool) : Rs Fl := if b = true then m st else n st
theorem w_84 (m n : MS) : isB m n st true = m st := rfl
theorem w_85 (m n : MS) : isB m n st false = n st := rfl
theorem w_86 (m n : MS) : mIfS mA m n st = (mA st).bnd (isB m n st) := rfl
def sqB (n : MS) : Fl → Rs Fl
  | .nx st' => n st'
  | .rt d => okR (.rt d)
theorem w_87 (n : MS) (s : PSt) : sqB n (.nx s) = n s := rfl
theorem w_88 (n : MS) (d : D) : sqB n (.rt d) = okR (.rt d) := rfl
theorem w_89 (m n : MS) : mSeq m n st = (m st).bnd (sqB n) := rfl
theorem w_90 : mNext st = okR (.nx st) := rfl
def seB (i : Nat) (st : PSt) (x : Sl) : Rs Fl := okR (.nx (st.set i x))
theorem w_91 (i : Nat) (x : Sl) : seB i st x = okR (.nx (st.set i x)) := rfl
theorem w_92 (i : Nat) : mSet i v st = (v st).bnd (seB i st) := rfl
def shC (d : D) : Rs Sl := okR (.sh d)
def shB (ma : M) (st : PSt) (d : D) : Rs Sl := if imm d = true then okR (.sh d) else (ma (hidS st)).bnd shC
theorem w_93 (d : D) : shC d = okR (.sh d) := rfl
theorem w_94 {ma : M} {st : PSt} {d : D} (h : imm d = true) : shB ma st d = okR (.sh d) := if_pos h
theorem w_95 {ma : M} {st : PSt} {d : D} (h : imm d = false) : shB ma st d = (ma (hidS st)).bnd shC := if_neg (by rw [h]; exact Bool.false_ne_true)
theorem w_96 : mSh ma st = (ma st).bnd (shB ma st) := rfl
theorem w_97 : mShH ma st = (ma (hidS st)).bnd shC := rfl
def oLB (ds : List D) : Rs Sl := okR (.ow (.lst ds))
theorem w_98 (ds : List D) : oLB ds = okR (.ow (.lst ds)) := rfl
theorem w_99 : mOwnL mr st = (mr (hidS st)).bnd oLB := rfl
theorem w_100 : mOwnD st = okR (.ow (.dct [])) := rfl
def paC (i j : Nat) (st : PSt) (x y : Sl) : Rs Fl := okR (.nx ((st.set i x).set j y))
def paB (i j : Nat) (n : MV) (st : PSt) (x : Sl) : Rs Fl := (n st).bnd (paC i j st x)
theorem w_101 (i j : Nat) (x y : Sl) : paC i j st x y = okR (.nx ((st.set i x).set j y)) := rfl
theorem w_102 (i j : Nat) (n : MV) (x : Sl) : paB i j n st x = (n st).bnd (paC i j st x) := rfl
theorem w_103 (i j : Nat) (m n : MV) : mPar i j m n st = (m st).bnd (paB i j n st) := rfl
def foB (t : Tg) (body : MS) (st : PSt) (ds : List D) : Rs Fl := forGo t body ds st
theorem w_104 (t : Tg) (body : MS) (ds : List D) : foB t body st ds = forGo t body ds st := rfl
theorem w_105 (src : MA) (t : Tg) (body : MS) : mFor src t body st = (src (hidS st)).bnd (foB t body st) := rfl
theorem w_106 (n : Nat) (m : MS) : mWhile n mA m st = whileGo mA m n st := rfl
theorem w_107 (c : Cl) : mRaise c st = some (.error c) := rfl
def upB (t : Tg) (st : PSt) : Sl → Rs Fl
  | .sh d => (match t.put d st with
    | some st2 => okR (.nx st2)
    | none => none)
  | _ => none
theorem upB_sh {t : Tg} {st st2 : PSt} {d : D} (h : t.put d st = some st2) : upB t st (.sh d) = okR (.nx st2) := by simp only [upB, h]
theorem w_108 (i : Nat) (d : D) : upB (.one i) st (.sh d) = okR (.nx (st.set i (.sh d))) := rfl
theorem w_109 (i j : Nat) (a b : D) : upB (.two i j) st (.sh (.tup [a, b])) = okR (.nx ((st.set i (.sh a)).set j (.sh b))) := rfl
theorem w_110 (t : Tg) : mUnp t v st = (v st).bnd (upB t st) := rfl
def runB : Fl → Rs D
  | .nx _ => okR .non
  | .rt d => okR d
theorem w_111 (s : PSt) : runB (.nx s) = okR .non := rfl
theorem w_112 (d : D) : runB (.rt d) = okR d := rfl
theorem w_113 (n : Nat) (m : MS) (ds : List D) : runDef n m ds = (m (startS n ds)).bnd runB := rfl
theorem w_114 : hidS [] = [] := rfl
theorem w_115 : hidS (.un :: st) = .un :: hidS st := rfl
theorem w_116 (d : D) : hidS (.sh d :: st) = .sh d :: hidS st := rfl
theorem w_117 (d : D) : hidS (.ow d :: st) = .un :: hidS st := rfl
theorem w_118 : wipeS st [] = st := rfl
theorem w_119 (i : Nat) (vs : List Nat) : wipeS st (i :: vs) = (wipeS st vs).set i .un := rfl
def apB (i : Nat) (st : PSt) (ds : List D) : Sl → Rs Fl
  | .sh d => if ds.length < 100000 then okR (.nx (st.set i (.ow (.lst (ds ++ [d]))))) else none
  | _ => none
theorem w_120 {i : Nat} {st : PSt} {ds : List D} {d : D} (h : ds.length < 100000) : apB i st ds (.sh d) = okR (.nx (st.set i (.ow (.lst (ds ++ [d]))))) := if_pos h
theorem ap_append {i : Nat} {ds : List D} (h : st[i]? = some (.ow (.lst ds))) : mAppend i v st = (v st).bnd (apB i st ds) := by
  unfold mAppend
  rw [h]
  rfl
def exB (i : Nat) (st : PSt) (ds : List D) : Sl → Rs Fl
  | .sh (.lst es) => if ds.length + es.length < 100000 then okR (.nx (st.set i (.ow (.lst (ds ++ es))))) else none
  | _ => none
theorem w_121 {i : Nat} {st : PSt} {ds es : List D} (h : ds.length + es.length < 100000) : exB i st ds (.sh (.lst es)) = okR (.nx (st.set i (.ow (.lst (ds ++ es))))) := if_pos h
theorem ap_extend {i : Nat} {ds : List D} (h : st[i]? = some (.ow (.lst ds))) : mExtend i v st = (v st).bnd (exB i st ds) := by
  unfold mExtend
  rw [h]
  rfl
def siB (i : Nat) (st : PSt) (ds : List D) (d : D) : D → Rs Fl
  | .int k => match ixN ds.length k with
    | some j => okR (.nx (st.set i (.ow (.lst (ds.set j d)))))
    | none => none
  | _ => none
def siC (i : Nat) (st : PSt) (ds : List D) (mi : M) : Sl → Rs Fl
  | .sh d => (mi st).bnd (siB i st ds d)
  | _ => none
theorem siB_i {i : Nat} {ds : List D} {d : D} {k : Int} {j : Nat} (h : ixN ds.length k = some j) : siB i st ds d (.int k) = okR (.nx (st.set i (.ow (.lst (ds.set j d))))) := by simp only [siB, h]
theorem w_122 (i : Nat) (ds : List D) (mi : M) (d : D) : siC i st ds mi (.sh d) = (mi st).bnd (siB i st ds d) := rfl
theorem ap_setItem {i : Nat} {ds : List D} {mi : M} (h : st[i]? = some (.ow (.lst ds))) : mSetItem i v mi st = (v st).bnd (siC i st ds mi) := by
  unfold mSetItem
  rw [h]
  rfl
def tryB (k : Cl → Rs Fl) (x : Rs Fl) : Rs Fl := match x with
  | some (.ok f) => some (.ok f)
  | some (.error c) => k c
  | none => none
def suB : Fl → Rs Fl
  | .rt d => if pl 40 d = true then okR (.rt d) else none
  | _ => none
def noErr {α : Type} (x : Rs α) : Rs α := match x with
  | some (.error _) => none
  | x => x
def suK (Cs : List Cl) (n i : Nat) (s : MS) (c : Cl) : Rs Fl := if c ∈ Cs then (noErr (s (suiteS n i c))).bnd suB else none
theorem w_123 (f : Fl) (k : Cl → Rs Fl) : tryB k (okR f) = okR f := rfl
theorem w_124 (c : Cl) (k : Cl → Rs Fl) : tryB k (some (.error c)) = k c := rfl
theorem w_125 {d : D} (h : pl 40 d = true) : suB (.rt d) = okR (.rt d) := if_pos h
theorem w_126 {α : Type} (a : α) : noErr (okR a) = okR a := rfl
theorem suK_in {Cs : List Cl} {n i : Nat} {s : MS} {c : Cl} {d : D} (hc : c ∈ Cs) (h : s (suiteS n i c) = okR (.rt d)) (hp : pl 40 d = true) : suK Cs n i s c = okR (.rt d) := by
  unfold suK
  rw [if_pos hc, h]
  exact if_pos hp
theorem w_127 (Cs : List Cl) (n i : Nat) (b s : MS) : mTry Cs n i b s st = tryB (suK Cs n i s) (b st) := by
  unfold mTry tryB suK
  cases b st with
  | none => rfl
  | some z => cases z with
    | ok f => rfl
    | error c =>
      dsimp only
      split
      · cases s (suiteS n i c) with
        | none => rfl
        | some y => cases y with
          | error c => rfl
          | ok f => cases f <;> rfl
      · rfl
/-! loops -/
theorem w_128 (t : Tg) (b : MS) : forGo t b [] st = okR (.nx st) := rfl
def fgB (t : Tg) (b : MS) (ds : List D) : Fl → Rs Fl
  | .nx st3 => forGo t b ds st3
  | .rt v => okR (.rt v)
theorem w_129 (t : Tg) (b : MS) (ds : List D) (s : PSt) : fgB t b ds (.nx s) = forGo t b ds s := rfl
theorem w_130 (t : Tg) (b : MS) (ds : List D) (d : D) : fgB t b ds (.rt d) = okR (.rt d) := rfl
theorem forGo_cons {t : Tg} {b : MS} {d : D} {ds : List D} {st st2 : PSt} (h : t.put d st = some st2) : forGo t b (d :: ds) st = (b st2).bnd (fgB t b ds) := by
  rw [forGo]
  simp only [h]
  congr 1
end
theorem forGo_inv {t : Tg} {b : MS} {I : Nat → PSt → Prop} : ∀ (ds : List D) (k : Nat) (st : PSt), I k st →
    (∀ (i : Nat) (d : D) (st : PSt), ds[i]? = some d → I (k + i) st → ∃ st2 st3, t.put d st = some st2 ∧ b st2 = okR (.nx st3) ∧ I (k + i + 1) st3) → ∃ st', forGo t b ds st = okR (.nx st') ∧ I (k + ds.length) st'
  | [], k, st, h, _ => ⟨st, rfl, h⟩
  | d :: ds, k, st, h, hs => by
    obtain ⟨st2, st3, h1, h2, h3⟩ := hs 0 d st rfl h
    obtain ⟨st', h4, h5⟩ := forGo_inv ds (k + 1) st3 h3 fun i e st hi hI => by
      have := hs (i + 1) e st (by simpa using hi)
      rw [show k + (i + 1) = k + 1 + i by omega] at this
      exact this hI
    refine ⟨st', ?_, by rw [List.length_cons]; rw [show k + (ds.length + 1) = k + 1 + ds.length by omega]; exact h5⟩
    rw [forGo_cons h1, h2]
    exact h4
/-- a comprehension -/
theorem lcGo_eq {t : Tg} {mt : MB} {me : M} {st : PSt} {p : D → Bool} {h : D → D} : ∀ (ds : List D), (∀ d ∈ ds, ∃ st2, t.put d st = some st2 ∧ mt st2 = okR (p d) ∧ (p d = true → me st2 = okR (h d))) → lcGo t mt me st ds = okR ((ds.filter p).map h)
  | [], _ => rfl
  | d :: ds, hs => by
    obtain ⟨st2, h1, h2, h3⟩ := hs d (by simp)
    have ih := lcGo_eq ds fun e he => hs e (List.mem_cons_of_mem _ he)
    unfold lcGo
    simp only [h1]
    rw [h2]
    show (noE (okR (p d))).bnd _ = _
    rw [show noE (okR (p d)) = okR (p d) from rfl, w_0]
    cases hp : p d with
    | true =>
      rw [if_pos rfl, h3 hp, show noE (okR (h d)) = okR (h d) from rfl, w_0, ih, w_0, List.filter_cons_of_pos (by simpa using hp), List.map_cons]
    | false =>
      rw [if_neg (by simp), ih, List.filter_cons_of_neg (by simp [hp])]
theorem lcGo_map {t : Tg} {me : M} {st : PSt} {h : D → D} (ds : List D) (hs : ∀ d ∈ ds, ∃ st2, t.put d st = some st2 ∧ me st2 = okR (h d)) : lcGo t mYes me st ds = okR (ds.map h) := by
  have := lcGo_eq (t := t) (mt := mYes) (me := me) (st := st) (p := fun _ => true) (h := h) ds fun d hd => by
    obtain ⟨st2, h1, h2⟩ := hs d hd
    exact ⟨st2, h1, rfl, fun _ => h2⟩
  rw [this, List.filter_eq_self.mpr (fun _ _ => rfl)]
theorem w_131 (i : Nat) (d : D) (st : PSt) : (Tg.one i).put d st = some (st.set i (.sh d)) := rfl
theorem w_132 (i j : Nat) (a b : D) (st : PSt) : (Tg.two i j).put (.tup [a, b]) st = some ((st.set i (.sh a)).set j (.sh b)) := rfl
theorem w_133 {α : Type} (a b : α) (l : List α) : (a :: l).set 0 b = b :: l := rfl
theorem w_134 {α : Type} (a b : α) (l : List α) (n : Nat) : (a :: l).set (n + 1) b = a :: l.set n b := rfl
theorem w_135 {α : Type} (a : α) (l : List α) : (a :: l)[0]? = some a := rfl
theorem w_136 {α : Type} (a : α) (l : List α) (n : Nat) : (a :: l)[n + 1]? = l[n]? := by simp
/-! primitives -/
theorem w_137 (g : D → Option D) (d : D) : arg1 g [d] = g d := rfl
theorem w_138 (g : D → D → Option D) (a b : D) : m1 g a [b] = g a b := rfl
theorem w_139 (l : List D) : lenD (.lst l) = some (.int l.length) := rfl
theorem w_140 (l : List D) : lenD (.tup l) = some (.int l.length) := rfl
theorem w_141 (l : List Int) : lenD (.scr l) = some (.int l.length) := rfl
theorem w_142 {l : List Nat} (h : l.length ≤ 100000) : lenD (.str l) = some (.int l.length) := if_pos h
theorem kit_refl (a b : String) (r : Option Bool) (h : kitB a b = r) : kitB a b = r := h
theorem w_143 (l : List Nat) : isiD [.str l, .ty "str"] = some (.bl true) := by
  have : kitB "str" "str" = some true := by decide +kernel
  simp only [isiD, tyD, this, Option.map]
theorem w_144 : isiD [.non, .ty "str"] = some (.bl false) := by
  have : kitB "NoneType" "str" = some false := by decide +kernel
  simp only [isiD, tyD, this, Option.map]
theorem w_145 (b : Bool) : isiD [.bl b, .ty "str"] = some (.bl false) := by
  have : kitB "bool" "str" = some false := by decide +kernel
  simp only [isiD, tyD, this, Option.map]
theorem w_146 (i : Int) : isiD [.int i, .ty "str"] = some (.bl false) := by
  have : kitB "int" "str" = some false := by decide +kernel
  simp only [isiD, tyD, this, Option.map]
theorem w_147 (l : List D) : isiD [.tup l, .ty "str"] = some (.bl false) := by
  have : kitB "tuple" "str" = some false := by decide +kernel
  simp only [isiD, tyD, this, Option.map]
theorem w_148 (l : List D) : isiD [.lst l, .ty "str"] = some (.bl false) := by
  have : kitB "list" "str" = some false := by decide +kernel
  simp only [isiD, tyD, this, Option.map]
theorem w_149 (l : List D) : isiD [.tup l, .ty "tuple"] = some (.bl true) := by
  have : kitB "tuple" "tuple" = some true := by decide +kernel
  simp only [isiD, tyD, this, Option.map]
theorem w_150 (l : List Nat) : isiD [.str l, .ty "tuple"] = some (.bl false) := by
  have : kitB "str" "tuple" = some false := by decide +kernel
  simp only [isiD, tyD, this, Option.map]
theorem w_151 : isiD [.non, .ty "tuple"] = some (.bl false) := by
  have : kitB "NoneType" "tuple" = some false := by decide +kernel
  simp only [isiD, tyD, this, Option.map]
theorem w_152 (i : Int) : isiD [.int i, .ty "tuple"] = some (.bl false) := by
  have : kitB "int" "tuple" = some false := by decide +kernel
  simp only [isiD, tyD, this, Option.map]
theorem w_153 (l : List D) : isiD [.lst l, .ty "tuple"] = some (.bl false) := by
  have : kitB "list" "tuple" = some false := by decide +kernel
  simp only [isiD, tyD, this, Option.map]
theorem w_154 (i j : Int) : addD (.int i) (.int j) = some (.int (i + j)) := rfl
theorem w_155 {a b : List Nat} (h : a.length + b.length ≤ 100000) : addD (.str a) (.str b) = some (.str (a ++ b)) := if_pos h
theorem w_156 {a b : List D} (h : a.length + b.length ≤ 100000) : addD (.lst a) (.lst b) = some (.lst (a ++ b)) := if_pos h
theorem w_157 {a b : List D} (h : a.length + b.length ≤ 100000) : addD (.tup a) (.tup b) = some (.tup (a ++ b)) := if_pos h
theorem w_158 (i j : Int) : subD (.int i) (.int j) = some (.int (i - j)) := rfl
theorem w_159 {i j : Int} (h : 0 < j ∧ j < 2 ^ 100) : fdivD (.int i) (.int j) = some (.int (i / j)) := if_pos h
theorem w_160 {i j : Int} (h : 0 < j) : modD (.int i) (.int j) = some (.int (i % j)) := if_pos h
theorem w_161 {i j : Int} (h : (0 ≤ j ∧ j ≤ 1000) ∧ (0 ≤ i ∧ i < 2 ^ 60)) : powD (.int i) (.int j) = some (.int (i ^ j.toNat)) := if_pos h
theorem w_162 {i j : Int} (h : (-(2 ^ 64) < i ∧ i < 2 ^ 64) ∨ (-(2 ^ 64) < j ∧ j < 2 ^ 64)) : mulE (.int i) (.int j) = some (.int (i * j)) := if_pos h
theorem w_163 {l : List Nat} {k : Int} (h : -100000 ≤ k ∧ k ≤ 100000 ∧ l.length * k.toNat ≤ 100000) : mulE (.str l) (.int k) = some (.str (List.replicate k.toNat l).flatten) := if_pos h
theorem w_164 {l : List D} {k : Int} (h : -100000 ≤ k ∧ k ≤ 100000 ∧ l.length * k.toNat ≤ 100000) : mulE (.lst l) (.int k) = some (.lst (List.replicate k.toNat l).flatten) := if_pos h
theorem w_165 (i j : Int) : ltD (.int i) (.int j) = some (.bl (decide (i < j))) := rfl
theorem w_166 (i j : Int) : leD (.int i) (.int j) = some (.bl (decide (i ≤ j))) := rfl
theorem w_167 (i j : Int) : gtD (.int i) (.int j) = some (.bl (decide (j < i))) := rfl
theorem w_168 (i j : Int) : geD (.int i) (.int j) = some (.bl (decide (j ≤ i))) := rfl
theorem w_169 (i j : List Nat) : ltD (.str i) (.str j) = some (.bl (decide (i < j))) := rfl
theorem w_170 (ns : List Int) : eqD false (.scr ns) (.lst []) = some (.bl ns.isEmpty) := rfl
theorem w_171 (ns : List Int) : eqD true (.scr ns) (.lst []) = some (.bl (!ns.isEmpty)) := rfl
theorem w_172 (i j : Int) : eqD false (.int i) (.int j) = some (.bl (i == j)) := rfl
theorem w_173 (i j : Int) : eqD true (.int i) (.int j) = some (.bl (!(i == j))) := rfl
theorem w_174 (i j : List Nat) : eqD false (.str i) (.str j) = some (.bl (i == j)) := rfl
theorem w_175 (i j : List Nat) : eqD true (.str i) (.str j) = some (.bl (!(i == j))) := rfl
theorem e_eq_p {a b : D} (ha : ∀ ns, a ≠ .scr ns) (h : pl 40 a = true ∧ pl 40 b = true) : eqD false a b = some (.bl (eqvD a b)) := by
  cases a <;> first | exact absurd rfl (ha _) | exact if_pos h
theorem e_ne_p {a b : D} (ha : ∀ ns, a ≠ .scr ns) (h : pl 40 a = true ∧ pl 40 b = true) : eqD true a b = some (.bl (!eqvD a b)) := by
  cases a <;> first | exact absurd rfl (ha _) | exact if_pos h
theorem w_176 (c : Nat) (l : List Nat) : inD false (.str [c]) (.str l) = some (.bl (decide (c ∈ l))) := rfl
theorem w_177 (c : Nat) (l : List Nat) : inD true (.str [c]) (.str l) = some (.bl (!decide (c ∈ l))) := rfl
theorem w_178 (a b : Bool) : isD true (.bl a) (.bl b) = some (.bl (!decide (a = b))) := rfl
theorem w_179 (a b : Bool) : isD false (.bl a) (.bl b) = some (.bl (decide (a = b))) := rfl
theorem w_180 (a : D) : isD false a .non = some (.bl (isNonD a)) := rfl
theorem w_181 (a : D) : isD true a .non = some (.bl (!isNonD a)) := rfl
theorem w_182 (l : List D) (i : Int) : getD (.lst l) (.int i) = atI l i := rfl
theorem w_183 (l : List D) (i : Int) : getD (.tup l) (.int i) = atI l i := rfl
theorem w_184 {l : List Nat} {i : Int} (h : l.length ≤ 100000) : getD (.str l) (.int i) = (atI l i).map fun c => .str [c] := if_pos h
theorem w_185 (l : List Int) (i : Int) : getD (.scr l) (.int i) = (atI l i).map .int := rfl
theorem atI_of {α : Type} {l : List α} {i : Int} {j : Nat} {x : α} (h : l[j]? = some x) (e : i = j) : atI l i = some x := by
  subst e
  have hl : j < l.length := (List.getElem?_eq_some_iff.mp h).1
  unfold atI ixN
  rw [if_pos (by omega), if_pos (by omega)]
  exact h
theorem atI_lt {α : Type} {l : List α} {i : Int} (h0 : 0 ≤ i) (h1 : i < l.length) : ∃ x, atI l i = some x ∧ l[i.toNat]? = some x := by
  have hl : i.toNat < l.length := by omega
  exact ⟨l[i.toNat], atI_of (List.getElem?_eq_getElem hl) (by omega), List.getElem?_eq_getElem hl⟩
theorem w_186 (l : List D) : iterD (.lst l) = some l := rfl
theorem w_187 (l : List D) : iterD (.tup l) = some l := rfl
theorem w_188 {l : List Nat} (h : l.length ≤ 100000) : iterD (.str l) = some (l.map fun c => .str [c]) := if_pos h
theorem w_189 (l : List D) : tupleE (.lst l) = some (.tup l) := rfl
theorem w_190 (l : List D) : tupleE (.tup l) = some (.tup l) := rfl
theorem w_191 {l : List Nat} (h : l.length ≤ 100000) : tupleE (.str l) = some (.tup (signsD l)) := if_pos h
theorem w_192 (l : List Nat) : mtyD "str" (.str l) = true := Eq.trans rfl rfl
theorem w_193 (l : List D) : mtyD "list" (.lst l) = true := Eq.trans rfl rfl
theorem strsD_map : ∀ l : List (List Nat), strsD (l.map .str) = some l
  | [] => rfl
  | x :: l => by
    show (strsD (l.map .str)).map (x :: ·) = _
    rw [strsD_map l]; rfl
theorem joinL_nil : ∀ l : List (List Nat), TL.joinL [] l = l.flatten
  | [] => rfl
  | [x] => by simp [TL.joinL]
  | x :: y :: r => by
    show x ++ ([] ++ TL.joinL [] (y :: r)) = _
    rw [joinL_nil (y :: r)]; simp
theorem len_flatten (l : List (List Nat)) : (l.map List.length).sum = l.flatten.length := by rw [List.length_flatten]
theorem w_194 {l : List (List Nat)} (h : l.flatten.length ≤ 100000) : joinD (.str []) [.tup (l.map .str)] = some (.str l.flatten) := by
  simp only [joinD, rowD, Option.bind_some, strsD_map, List.length_nil, Nat.mul_zero, Nat.add_zero, len_flatten, if_pos h, joinL_nil]
theorem w_195 {l : List (List Nat)} (h : l.flatten.length ≤ 100000) : joinD (.str []) [.lst (l.map .str)] = some (.str l.flatten) := by
  simp only [joinD, rowD, Option.bind_some, strsD_map, List.length_nil, Nat.mul_zero, Nat.add_zero, len_flatten, if_pos h, joinL_nil]
theorem allM_map {α : Type} {f : D → Option α} {h : α → D} (hf : ∀ a, f (h a) = some a) : ∀ l : List α, allM f (l.map h) = some l
  | [] => rfl
  | x :: l => by
    show allM f (h x :: l.map h) = _
    unfold allM
    rw [hf x, allM_map hf l]
theorem w_196 (l : List Bool) : allD (.lst (l.map .bl)) = some (.bl (l.all id)) := by
  simp only [allD, allM_map (f := asBl) (h := D.bl) (fun _ => rfl), Option.map]
theorem w_197 (l : List Bool) : anyD (.lst (l.map .bl)) = some (.bl (l.any id)) := by
  simp only [anyD, allM_map (f := asBl) (h := D.bl) (fun _ => rfl), Option.map]
theorem w_198 (l : List Int) : sumD (.lst (l.map .int)) = some (.int l.sum) := by
  simp only [sumD, allM_map (f := asInt) (h := D.int) (fun _ => rfl), Option.map]
theorem imm_strs : ∀ l : List (List Nat), immAll (l.map .str) = true
  | [] => rfl
  | x :: l => by
    show (imm (.str x) && immAll (l.map .str)) = true
    rw [imm_strs l]; rfl
theorem w_199 (n : Nat) (ds : List D) : startS n ds = ds.map Sl.sh ++ List.replicate (n - ds.length) Sl.un := rfl
theorem w_200 : imm .non = true := Eq.trans rfl rfl
theorem w_201 (b : Bool) : imm (.bl b) = true := Eq.trans rfl rfl
theorem w_202 (i : Int) : imm (.int i) = true := Eq.trans rfl rfl
theorem w_203 (l : List Nat) : imm (.str l) = true := Eq.trans rfl rfl
theorem w_204 (x : Str) : imm (.fn x) = true := Eq.trans rfl rfl
theorem w_205 (l : List D) : imm (.tup l) = immAll l := by rw [imm]
theorem w_206 (l : List D) : imm (.lst l) = false := Eq.trans rfl rfl
theorem w_207 : immAll [] = true := Eq.trans rfl rfl
theorem w_208 {d : D} {l : List D} (h : imm d = true) : immAll (d :: l) = immAll l := by rw [immAll, h, Bool.true_and]
end Kp

namespace Kp
open PySem PySem.Spec PyProof.Rows L2
/-! ### plain mathematics of keypads -/
abbrev Pad := List (List Nat)
def pD (kp : Pad) : D := .tup (kp.map .str)
abbrev LETT : List Nat := [97, 98, 99, 100, 101, 102, 103, 104, 105, 106, 107, 108, 109, 110, 111, 112, 113, 114, 115, 116, 117, 118, 119, 120, 121, 122]
theorem mem_LETT {c : Nat} : c ∈ LETT ↔ 97 ≤ c ∧ c ≤ 122 := by
  constructor
  · intro h
    simp only [List.mem_cons, List.not_mem_nil, or_false] at h
    omega
  · intro h
    simp only [List.mem_cons, List.not_mem_nil, or_false]
    omega
theorem nodup_len {α : Type} [BEq α] [LawfulBEq α] : ∀ {l m : List α}, l.Nodup → (∀ x ∈ l, x ∈ m) → l.length ≤ m.length
  | [], _, _, _ => Nat.zero_le _
  | x :: l, m, h, s => by
    obtain ⟨h1, h2⟩ := List.nodup_cons.mp h
    have hx : x ∈ m := s x (by simp)
    have ih := nodup_len (l := l) (m := m.erase x) h2 fun y hy => by
      refine (List.mem_erase_of_ne ?_).mpr (s y (List.mem_cons_of_mem _ hy))
      intro e; subst e; exact h1 hy
    rw [List.length_erase_of_mem hx] at ih
    have : 0 < m.length := List.length_pos_of_mem hx
    rw [List.length_cons]
    omega
structure Good (kp : Pad) : Prop where
  n1 : 1 ≤ kp.length
  n2 : kp.length ≤ 10
  ne : ∀ k ∈ kp, 1 ≤ k.length
  lt : ∀ c ∈ kp.flatten, 97 ≤ c ∧ c ≤ 122
  nd : kp.flatten.Nodup
theorem Good.len {kp : Pad} (g : Good kp) : kp.flatten.length ≤ 26 := by
  have := nodup_len (m := LETT) g.nd fun c hc => mem_LETT.mpr (g.lt c hc)
  simpa using this
theorem len_key {kp : Pad} {k : List Nat} (h : k ∈ kp) : k.length ≤ kp.flatten.length := by
  induction kp with
  | nil => simp at h
  | cons a r ih =>
    rw [List.flatten_cons, List.length_append]
    rcases List.mem_cons.mp h with rfl | h
    · omega
    · have := ih h; omega
theorem Good.klen {kp : Pad} (g : Good kp) {k : List Nat} (h : k ∈ kp) : k.length ≤ 26 := Nat.le_trans (len_key h) g.len
/-- counting different keys -/
theorem addG_nodup : ∀ (l acc : List KD), l.Nodup → (∀ x ∈ l, x ∉ acc) → (l.foldl addG acc).length = acc.length + l.length
  | [], _, _, _ => rfl
  | x :: l, acc, h, d => by
    obtain ⟨h1, h2⟩ := List.nodup_cons.mp h
    rw [List.foldl_cons]
    have e : addG acc x = x :: acc := by
      unfold addG
      rw [if_neg (d x (by simp))]
    rw [e, addG_nodup l (x :: acc) h2 fun y hy z => ?_]
    · rw [List.length_cons, List.length_cons]; omega
    · rcases List.mem_cons.mp z with rfl | z
      · exact h1 hy
      · exact d y (List.mem_cons_of_mem _ hy) z
theorem lenSet_nodup {l : List Nat} (h : l.Nodup) (hl : l.length ≤ 1000) : lenSetD (.str l) = some (.int l.length) := by
  have hn : (l.map fun c => KD.s [c]).Nodup := by
    rw [List.nodup_iff_pairwise_ne, List.pairwise_map]
    refine (List.nodup_iff_pairwise_ne.mp h).imp fun {a b} hab e => hab ?_
    simpa using e
  have e := addG_nodup (l.map fun c => KD.s [c]) [] hn (fun _ _ => by simp)
  simp only [lenSetD, setOfD]
  rw [List.length_map, if_pos hl, e]
  simp
/-- a comprehension over a mapped list -/
theorem lcM {α : Type} {t : Tg} {mt : MB} {me : M} {st : PSt} {f : α → D} {p : α → Bool} {h : α → D} (l : List α) (hs : ∀ a ∈ l, ∃ st2, t.put (f a) st = some st2 ∧ mt st2 = okR (p a) ∧ (p a = true → me st2 = okR (h a))) :
    lcGo t mt me st (l.map f) = okR ((l.filter p).map h) := by
  induction l with
  | nil => rfl
  | cons a l ih =>
    obtain ⟨st2, h1, h2, h3⟩ := hs a (by simp)
    have ih := ih fun e he => hs e (List.mem_cons_of_mem _ he)
    rw [List.map_cons]
    unfold lcGo
    simp only [h1]
    rw [h2, show noE (okR (p a)) = okR (p a) from rfl, w_0]
    cases hp : p a with
    | true => rw [if_pos rfl, h3 hp, show noE (okR (h a)) = okR (h a) from rfl, w_0, ih, w_0, List.filter_cons_of_pos (by simpa using hp), List.map_cons]
    | false => rw [if_neg (by simp), ih, List.filter_cons_of_neg (by simp [hp])]
theorem lcA {α : Type} {t : Tg} {me : M} {st : PSt} {f : α → D} {h : α → D} (l : List α) (hs : ∀ a ∈ l, ∃ st2, t.put (f a) st = some st2 ∧ me st2 = okR (h a)) : lcGo t mYes me st (l.map f) = okR (l.map h) := by
  rw [lcM (p := fun _ => true) (h := h) l fun a ha => ?_, List.filter_eq_self.mpr (fun _ _ => rfl)]
  obtain ⟨st2, h1, h2⟩ := hs a ha
  exact ⟨st2, h1, rfl, fun _ => h2⟩
theorem beq1 (a b : Nat) : (([a] : List Nat) == [b]) = (a == b) := by
  rw [Bool.eq_iff_iff, beq_iff_eq, beq_iff_eq, List.cons.injEq]
  simp
theorem sh_any {m : M} {st : PSt} {d : D} (h1 : m st = okR d) (h2 : m (hidS st) = okR d) : mSh m st = okR (.sh d) := by
  rw [w_96, h1, w_0, shB, h2]
  split <;> rfl
/-- one statement after the other -/
theorem seq_step {m n : MS} {st st' : PSt} (h : m st = okR (.nx st')) : mSeq m n st = n st' := by rw [w_89, h]; rfl
theorem seq_ret {m n : MS} {st : PSt} {d : D} (h : m st = okR (.rt d)) : mSeq m n st = okR (.rt d) := by rw [w_89, h]; rfl
theorem run_ret {n : Nat} {m : MS} {ds : List D} {d : D} (h : m (startS n ds) = okR (.rt d)) : runDef n m ds = okR d := by rw [w_113, h]; rfl
/-- the key that bears c -/
def kIx (kp : Pad) (c : Nat) : Nat := kp.findIdx fun k => decide (c ∈ k)
theorem kIx_lt {kp : Pad} {c : Nat} (h : c ∈ kp.flatten) : kIx kp c < kp.length := by
  obtain ⟨k, hk, hc⟩ := List.mem_flatten.mp h
  exact List.findIdx_lt_length_of_exists ⟨k, hk, by simpa using hc⟩
theorem kIx_mem {kp : Pad} {c : Nat} (h : c ∈ kp.flatten) : ∃ k, kp[kIx kp c]? = some k ∧ c ∈ k := by
  have hl := kIx_lt h
  refine ⟨kp[kIx kp c], List.getElem?_eq_getElem hl, ?_⟩
  have := List.findIdx_getElem (w := hl)
  have e : c ∈ kp[List.findIdx (fun k => decide (c ∈ k)) kp]'hl := by simpa using this
  exact e
theorem nodup_app {l m : List Nat} (h : (l ++ m).Nodup) : l.Nodup ∧ m.Nodup ∧ ∀ x ∈ l, x ∉ m := by
  rw [List.nodup_append] at h
  exact ⟨h.1, h.2.1, fun x hx hm => h.2.2 x hx x hm rfl⟩
/-- no other key bears it -/
theorem kIx_uniq {kp : Pad} (hn : kp.flatten.Nodup) {c i : Nat} {k : List Nat} (hi : kp[i]? = some k) (hc : c ∈ k) : i = kIx kp c := by
  induction kp generalizing i with
  | nil => simp at hi
  | cons a r ih =>
    rw [List.flatten_cons] at hn
    obtain ⟨h1, h2, h3⟩ := nodup_app hn
    unfold kIx
    rw [List.findIdx_cons]
    cases i with
    | zero =>
      cases hi
      simp [hc]
    | succ i =>
      have hi' : r[i]? = some k := by simpa using hi
      have hna : c ∉ a := fun z => h3 c z (List.mem_flatten.mpr ⟨k, List.mem_of_getElem? hi', hc⟩)
      have := ih h2 hi'
      simp only [hna, decide_false, cond_false]
      rw [this]
      rfl
/-- the pairs of a row with its places -/
theorem enumL_map (l : List (List Nat)) : enumL (l.map .str) = l.zipIdx.map fun p => .tup [.int (p.2 : Nat), .str p.1] := by
  unfold enumL
  rw [List.zipIdx_map, List.map_map]
  rfl
theorem filter_kIx {kp : Pad} (hn : kp.flatten.Nodup) {c : Nat} (h : c ∈ kp.flatten) : (kp.zipIdx.filter fun p => decide (c ∈ p.1)).map (fun p => p.2) = [kIx kp c] := by
  suffices H : ∀ (kp : Pad) (o : Nat), kp.flatten.Nodup → c ∈ kp.flatten → ((kp.zipIdx o).filter fun p => decide (c ∈ p.1)).map (fun p => p.2) = [o + kIx kp c] by
    have := H kp 0 hn h
    rw [Nat.zero_add] at this
    exact this
  intro kp
  induction kp with
  | nil => intro o _ h; simp at h
  | cons a r ih =>
    intro o hn h
    rw [List.flatten_cons] at hn
    obtain ⟨h1, h2, h3⟩ := nodup_app hn
    rw [List.zipIdx_cons]
    by_cases ha : c ∈ a
    · have hr : ((r.zipIdx (o + 1)).filter fun p => decide (c ∈ p.1)) = [] := by
        rw [List.filter_eq_nil_iff]
        intro p hp hc
        have : p.1 ∈ r := by
          have := List.mem_zipIdx hp
          rw [this.2.2]
          exact List.getElem_mem _
        exact h3 c ha (List.mem_flatten.mpr ⟨p.1, this, by simpa using hc⟩)
      rw [List.filter_cons_of_pos (by simpa using ha), hr]
      simp [kIx, List.findIdx_cons, ha]
    · have hc : c ∈ r.flatten := by
        rw [List.flatten_cons, List.mem_append] at h
        exact h.resolve_left ha
      rw [List.filter_cons_of_neg (by simpa using ha), ih (o + 1) h2 hc]
      simp only [kIx, List.findIdx_cons, ha, decide_false, cond_false]
      congr 1
      omega
end Kp

namespace L01
open PySem PySem.Spec PyProof.Rows L2 Kp
def top (i : Nat) : Stmt := PySem.Challenge.pw_keypadwords_k01_keypads.main.body.getD i (.Pass ⟨0, 0, 0, 0⟩)
abbrev s_is_string : Stmt := top 10
theorem sc_is_string : FnScope ["value", "signs", "least", "most", "sign"] ["value", "signs", "least", "most"] (defScope s_is_string) := ⟨rfl, rfl, rfl, by decide +kernel, rfl, by decide +kernel, by decide +kernel⟩
abbrev s_is_keypad : Stmt := top 11
theorem sc_is_keypad : FnScope ["candidate", "key"] ["candidate"] (defScope s_is_keypad) := ⟨rfl, rfl, rfl, by decide +kernel, rfl, by decide +kernel, by decide +kernel⟩
abbrev s_check_keypad : Stmt := top 12
theorem sc_check_keypad : FnScope ["value"] ["value"] (defScope s_check_keypad) := ⟨rfl, rfl, rfl, by decide +kernel, rfl, by decide +kernel, by decide +kernel⟩
abbrev s_has_word : Stmt := top 13
theorem sc_has_word : FnScope ["keypad", "candidate"] ["keypad", "candidate"] (defScope s_has_word) := ⟨rfl, rfl, rfl, by decide +kernel, rfl, by decide +kernel, by decide +kernel⟩
abbrev s_is_word : Stmt := top 14
theorem sc_is_word : FnScope ["keypad", "candidate"] ["keypad", "candidate"] (defScope s_is_word) := ⟨rfl, rfl, rfl, by decide +kernel, rfl, by decide +kernel, by decide +kernel⟩
abbrev s_find_key : Stmt := top 15
theorem sc_find_key : FnScope ["keypad", "letter", "number", "key"] ["keypad", "letter"] (defScope s_find_key) := ⟨rfl, rfl, rfl, by decide +kernel, rfl, by decide +kernel, by decide +kernel⟩
abbrev s_key_of : Stmt := top 16
theorem sc_key_of : FnScope ["keypad", "letter"] ["keypad", "letter"] (defScope s_key_of) := ⟨rfl, rfl, rfl, by decide +kernel, rfl, by decide +kernel, by decide +kernel⟩
abbrev s_find_code : Stmt := top 17
theorem sc_find_code : FnScope ["keypad", "word", "letter"] ["keypad", "word"] (defScope s_find_code) := ⟨rfl, rfl, rfl, by decide +kernel, rfl, by decide +kernel, by decide +kernel⟩
abbrev s_check_word : Stmt := top 18
theorem sc_check_word : FnScope ["keypad", "word"] ["keypad", "word"] (defScope s_check_word) := ⟨rfl, rfl, rfl, by decide +kernel, rfl, by decide +kernel, by decide +kernel⟩
abbrev s_code : Stmt := top 19
theorem sc_code : FnScope ["keypad", "word"] ["keypad", "word"] (defScope s_code) := ⟨rfl, rfl, rfl, by decide +kernel, rfl, by decide +kernel, by decide +kernel⟩
abbrev s_find_presses : Stmt := top 20
theorem sc_find_presses : FnScope ["keypad", "word", "letter"] ["keypad", "word"] (defScope s_find_presses) := ⟨rfl, rfl, rfl, by decide +kernel, rfl, by decide +kernel, by decide +kernel⟩
abbrev s_presses : Stmt := top 21
theorem sc_presses : FnScope ["keypad", "word"] ["keypad", "word"] (defScope s_presses) := ⟨rfl, rfl, rfl, by decide +kernel, rfl, by decide +kernel, by decide +kernel⟩
abbrev s_find_pauses : Stmt := top 22
theorem sc_find_pauses : FnScope ["keypad", "word", "text", "one", "other"] ["keypad", "word"] (defScope s_find_pauses) := ⟨rfl, rfl, rfl, by decide +kernel, rfl, by decide +kernel, by decide +kernel⟩
abbrev s_pauses : Stmt := top 23
theorem sc_pauses : FnScope ["keypad", "word"] ["keypad", "word"] (defScope s_pauses) := ⟨rfl, rfl, rfl, by decide +kernel, rfl, by decide +kernel, by decide +kernel⟩
abbrev s__law_drawn : Stmt := top 25
theorem sc__law_drawn : FnScope ["script", "k", "many", "cell", "turn", "rest"] ["script", "k", "many"] (defScope s__law_drawn) := ⟨rfl, rfl, rfl, by decide +kernel, rfl, by decide +kernel, by decide +kernel⟩
abbrev s__law_keypad : Stmt := top 26
theorem sc__law_keypad : FnScope ["script", "at", "most", "keys", "k", "letter", "place"] ["script", "at", "most"] (defScope s__law_keypad) := ⟨rfl, rfl, rfl, by decide +kernel, rfl, by decide +kernel, by decide +kernel⟩
abbrev s__law_code : Stmt := top 27
theorem sc__law_code : FnScope ["keypad", "word", "found", "letter", "number", "key"] ["keypad", "word"] (defScope s__law_code) := ⟨rfl, rfl, rfl, by decide +kernel, rfl, by decide +kernel, by decide +kernel⟩
abbrev s__law_badpad : Stmt := top 28
theorem sc__law_badpad : FnScope ["script", "at", "bad"] ["script", "at"] (defScope s__law_badpad) := ⟨rfl, rfl, rfl, by decide +kernel, rfl, by decide +kernel, by decide +kernel⟩
abbrev s__law_badword : Stmt := top 29
theorem sc__law_badword : FnScope ["script", "at"] ["script", "at"] (defScope s__law_badword) := ⟨rfl, rfl, rfl, by decide +kernel, rfl, by decide +kernel, by decide +kernel⟩
abbrev s__law_error : Stmt := top 30
theorem sc__law_error : FnScope ["way", "one", "two", "e"] ["way", "one", "two"] (defScope s__law_error) := ⟨rfl, rfl, rfl, by decide +kernel, rfl, by decide +kernel, by decide +kernel⟩
abbrev s_law : Stmt := top 31
theorem sc_law : FnScope ["script", "keypad", "letters", "number", "key", "k", "word", "n", "text", "many", "letter", "odd", "bad", "told", "place", "way"] ["script"] (defScope s_law) := ⟨rfl, rfl, rfl, by decide +kernel, rfl, by decide +kernel, by decide +kernel⟩
structure Txt (K : PySem.W.Frag) (mg : Str → Option Value) : Prop where
  f_is_string : FnAt K mg "is_string" s_is_string ["value", "signs", "least", "most"]
  f_is_keypad : FnAt K mg "is_keypad" s_is_keypad ["candidate"]
  f_check_keypad : FnAt K mg "check_keypad" s_check_keypad ["value"]
  f_has_word : FnAt K mg "has_word" s_has_word ["keypad", "candidate"]
  f_is_word : FnAt K mg "is_word" s_is_word ["keypad", "candidate"]
  f_find_key : FnAt K mg "find_key" s_find_key ["keypad", "letter"]
  f_key_of : FnAt K mg "key_of" s_key_of ["keypad", "letter"]
  f_find_code : FnAt K mg "find_code" s_find_code ["keypad", "word"]
  f_check_word : FnAt K mg "check_word" s_check_word ["keypad", "word"]
  f_code : FnAt K mg "code" s_code ["keypad", "word"]
  f_find_presses : FnAt K mg "find_presses" s_find_presses ["keypad", "word"]
  f_presses : FnAt K mg "presses" s_presses ["keypad", "word"]
  f_find_pauses : FnAt K mg "find_pauses" s_find_pauses ["keypad", "word"]
  f_pauses : FnAt K mg "pauses" s_pauses ["keypad", "word"]
  f__law_drawn : FnAt K mg "_law_drawn" s__law_drawn ["script", "k", "many"]
  f__law_keypad : FnAt K mg "_law_keypad" s__law_keypad ["script", "at", "most"]
  f__law_code : FnAt K mg "_law_code" s__law_code ["keypad", "word"]
  f__law_badpad : FnAt K mg "_law_badpad" s__law_badpad ["script", "at"]
  f__law_badword : FnAt K mg "_law_badword" s__law_badword ["script", "at"]
  f__law_error : FnAt K mg "_law_error" s__law_error ["way", "one", "two"]
  f_law : FnAt K mg "law" s_law ["script"]
  c_DIGITS : ∃ t, mg "DIGITS" = some (.str "0123456789" t)
  c_LETTERS : ∃ t, mg "LETTERS" = some (.str "abcdefghijklmnopqrstuvwxyz" t)
  c_MAX_KEYS : ∃ t, mg "MAX_KEYS" = some (.int 10 t)
  c_MAX_WORD : ∃ t, mg "MAX_WORD" = some (.int 8 t)
  b_all : mg "all" = none
  b_enumerate : mg "enumerate" = none
  b_isinstance : mg "isinstance" = none
  b_len : mg "len" = none
  b_range : mg "range" = none
  b_set : mg "set" = none
  b_str : mg "str" = none
  b_sum : mg "sum" = none
  b_tuple : mg "tuple" = none
  b_zip : mg "zip" = none
  e_invalidKeypad : ExAt K mg .invalidKeypad
  e_invalidLetter : ExAt K mg .invalidLetter
  e_invalidWord : ExAt K mg .invalidWord
  ek : Ek K (gvOf mg) [.invalidKeypad, .invalidLetter, .invalidWord]
  n_keypadError : mg "KeypadError" = some (.ref ((gvOf mg).cl .keypadError))
def m_is_string : MS := mRet (mAndV (mCB isiD (mCons (mVar 0) (mCons (mC (.ty "str")) (mNil)))) (mAndV (mChain leD leD (mVar 2) (mCB (arg1 lenD) (mCons (mVar 0) (mNil))) (mVar 3)) (mCB (arg1 allD) (mCons (mLc (mIter (mVar 0)) (.one 4) (mYes) (mOp (inD false) (mVar 4) (mVar 1)) [4]) (mNil)))))
def g_is_string : List D → Rs D := runDef 5 m_is_string
def m_is_keypad : MS := mSeq (mIfS (mOrB (mNotB (mBl (mCB isiD (mCons (mVar 0) (mCons (mC (.ty "tuple")) (mNil)))))) (mNotB (mBl (mChain leD leD (mC (.int 1)) (mCB (arg1 lenD) (mCons (mVar 0) (mNil))) (mC (.int 10)))))) (mRet (mC (.bl false))) (mNext))
  (mSeq (mIfS (mNotB (mBl (mCB (arg1 allD) (mCons (mLc (mIter (mVar 0)) (.one 1) (mYes) (mCall g_is_string (mCons (mVar 1) (mCons (mC (.str [97, 98, 99, 100, 101, 102, 103, 104, 105, 106, 107, 108, 109, 110, 111, 112, 113, 114, 115, 116, 117, 118, 119, 120, 121, 122])) (mCons (mC (.int 1)) (mCons (mCB (arg1 lenD) (mCons (mC (.str [97, 98, 99, 100, 101, 102, 103, 104, 105, 106, 107, 108, 109, 110, 111, 112, 113, 114, 115, 116, 117, 118, 119, 120, 121, 122])) (mNil))) (mNil)))))) [1]) (mNil))))) (mRet (mC (.bl false))) (mNext))
  (mRet (mOp (eqD false) (mUn lenSetD (mMt "str" joinD (mC (.str [])) (mCons (mVar 0) (mNil)))) (mCB (arg1 lenD) (mCons (mMt "str" joinD (mC (.str [])) (mCons (mVar 0) (mNil))) (mNil))))))
def g_is_keypad : List D → Rs D := runDef 2 m_is_keypad
def m_check_keypad : MS := mIfS (mNotB (mBl (mCall g_is_keypad (mCons (mVar 0) (mNil))))) (mRaise .invalidKeypad) (mNext)
def g_check_keypad : List D → Rs D := runDef 1 m_check_keypad
def m_has_word : MS := mRet (mCall g_is_string (mCons (mVar 1) (mCons (mMt "str" joinD (mC (.str [])) (mCons (mVar 0) (mNil))) (mCons (mC (.int 1)) (mCons (mC (.int 8)) (mNil))))))
def g_has_word : List D → Rs D := runDef 2 m_has_word
def m_is_word : MS := mSeq (mDrop (mCall g_check_keypad (mCons (mVar 0) (mNil))))
  (mRet (mCall g_has_word (mCons (mVar 0) (mCons (mVar 1) (mNil)))))
def g_is_word : List D → Rs D := runDef 2 m_is_word
def m_find_key : MS := mRet (mOp getD (mLc (mEnum (mCons (mVar 0) (mNil))) (.two 2 3) (mBl (mOp (inD false) (mVar 1) (mVar 3))) (mVar 2) [2, 3]) (mC (.int 0)))
def g_find_key : List D → Rs D := runDef 4 m_find_key
def m_key_of : MS := mSeq (mDrop (mCall g_check_keypad (mCons (mVar 0) (mNil))))
  (mSeq (mIfS (mNotB (mBl (mCall g_is_string (mCons (mVar 1) (mCons (mMt "str" joinD (mC (.str [])) (mCons (mVar 0) (mNil))) (mCons (mC (.int 1)) (mCons (mC (.int 1)) (mNil)))))))) (mRaise .invalidLetter) (mNext))
  (mRet (mCall g_find_key (mCons (mVar 0) (mCons (mVar 1) (mNil))))))
def g_key_of : List D → Rs D := runDef 2 m_key_of
def m_find_code : MS := mRet (mMt "str" joinD (mC (.str [])) (mCons (mLc (mIter (mVar 1)) (.one 2) (mYes) (mOp getD (mC (.str [48, 49, 50, 51, 52, 53, 54, 55, 56, 57])) (mCall g_find_key (mCons (mVar 0) (mCons (mVar 2) (mNil))))) [2]) (mNil)))
def g_find_code : List D → Rs D := runDef 3 m_find_code
def m_check_word : MS := mSeq (mDrop (mCall g_check_keypad (mCons (mVar 0) (mNil))))
  (mIfS (mNotB (mBl (mCall g_has_word (mCons (mVar 0) (mCons (mVar 1) (mNil)))))) (mRaise .invalidWord) (mNext))
def g_check_word : List D → Rs D := runDef 2 m_check_word
def m_code : MS := mSeq (mDrop (mCall g_check_word (mCons (mVar 0) (mCons (mVar 1) (mNil)))))
  (mRet (mCall g_find_code (mCons (mVar 0) (mCons (mVar 1) (mNil)))))
def g_code : List D → Rs D := runDef 2 m_code
def m_find_presses : MS := mRet (mCB (arg1 sumD) (mCons (mLc (mIter (mVar 1)) (.one 2) (mYes) (mOp addD (mC (.int 1)) (mMt "str" (m1 sindexD) (mOp getD (mVar 0) (mCall g_find_key (mCons (mVar 0) (mCons (mVar 2) (mNil))))) (mCons (mVar 2) (mNil)))) [2]) (mNil)))
def g_find_presses : List D → Rs D := runDef 3 m_find_presses
def m_presses : MS := mSeq (mDrop (mCall g_check_word (mCons (mVar 0) (mCons (mVar 1) (mNil)))))
  (mRet (mCall g_find_presses (mCons (mVar 0) (mCons (mVar 1) (mNil)))))
def g_presses : List D → Rs D := runDef 2 m_presses
def m_find_pauses : MS := mSeq (mSet 2 (mSh (mCall g_find_code (mCons (mVar 0) (mCons (mVar 1) (mNil))))))
  (mRet (mCB (arg1 lenD) (mCons (mLc (mZip (mCons (mVar 2) (mCons (mSl (mVar 2) (mPt (mC (.int 1))) mNo) (mNil)))) (.two 3 4) (mBl (mOp (eqD false) (mVar 3) (mVar 4))) (mC (.int 1)) [3, 4]) (mNil))))
def g_find_pauses : List D → Rs D := runDef 5 m_find_pauses
def m_pauses : MS := mSeq (mDrop (mCall g_check_word (mCons (mVar 0) (mCons (mVar 1) (mNil)))))
  (mRet (mCall g_find_pauses (mCons (mVar 0) (mCons (mVar 1) (mNil)))))
def g_pauses : List D → Rs D := runDef 2 m_pauses
def m__law_drawn : MS := mSeq (mSet 3 (mSh (mOp mulE (mC (.int 7)) (mVar 1))))
  (mSeq (mIfS (mBl (mOp (eqD true) (mVar 0) (mLst (mNil)))) (mSeq (mSet 3 (mSh (mOp getD (mVar 0) (mOp modD (mVar 1) (mCB (arg1 lenD) (mCons (mVar 0) (mNil)))))))
  (mSeq (mSet 4 (mSh (mOp fdivD (mVar 1) (mCB (arg1 lenD) (mCons (mVar 0) (mNil))))))
  (mSeq (mIfS (mAndB (mBl (mOp geD (mVar 3) (mOp powD (mC (.int 10)) (mC (.int 18))))) (mBl (mOp ltD (mVar 4) (mC (.int 60))))) (mSeq (mSet 5 (mSh (mOp fdivD (mVar 3) (mOp powD (mC (.int 10)) (mC (.int 18))))))
  (mSeq (mWhile 200 (mAndB (mBl (mOp gtD (mVar 5) (mC (.int 0)))) (mBl (mOp gtD (mVar 4) (mC (.int 0))))) (mSeq (mSet 5 (mSh (mOp fdivD (mVar 5) (mC (.int 1000000)))))
  (mSet 4 (mSh (mOp subD (mVar 4) (mC (.int 1)))))))
  (mIfS (mBl (mOp gtD (mVar 5) (mC (.int 0)))) (mRet (mOp modD (mOp modD (mVar 5) (mC (.int 1000000))) (mVar 2))) (mNext)))) (mNext))
  (mSet 3 (mSh (mOp addD (mVar 3) (mOp mulE (mC (.int 6553)) (mOp fdivD (mVar 1) (mCB (arg1 lenD) (mCons (mVar 0) (mNil))))))))))) (mNext))
  (mSeq (mSet 3 (mSh (mOp modD (mOp addD (mOp mulE (mOp modD (mVar 3) (mC (.int 2147483563))) (mC (.int 69069))) (mOp mulE (mC (.int 104723)) (mOp addD (mVar 1) (mC (.int 1))))) (mC (.int 2147483563)))))
  (mSeq (mSet 3 (mSh (mOp modD (mOp addD (mOp mulE (mVar 3) (mVar 3)) (mOp fdivD (mVar 3) (mC (.int 3)))) (mC (.int 2147483399)))))
  (mRet (mOp modD (mOp fdivD (mOp modD (mOp addD (mOp mulE (mVar 3) (mVar 3)) (mOp fdivD (mVar 3) (mC (.int 7)))) (mC (.int 2147483647))) (mC (.int 11))) (mVar 2))))))
def g__law_drawn : List D → Rs D := runDef 6 m__law_drawn
def m__law_keypad : MS := mSeq (mSet 3 (mOwnL (mNil)))
  (mSeq (mFor (mRange1 (mCons (mOp addD (mC (.int 2)) (mCall g__law_drawn (mCons (mVar 0) (mCons (mVar 1) (mCons (mOp subD (mVar 2) (mC (.int 1))) (mNil)))))) (mNil))) (.one 4) (mSeq (mPar 5 6 (mSh (mOp getD (mC (.str [98, 97, 99, 100, 101, 102, 103, 104])) (mVar 4))) (mSh (mCall g__law_drawn (mCons (mVar 0) (mCons (mOp addD (mOp addD (mVar 1) (mC (.int 1))) (mVar 4)) (mCons (mC (.int 4)) (mNil)))))))
  (mIfS (mBl (mOp ltD (mVar 6) (mCB (arg1 lenD) (mCons (mVar 3) (mNil))))) (mSetItem 3 (mSh (mIf (mBl (mOp (eqD false) (mCall g__law_drawn (mCons (mVar 0) (mCons (mOp addD (mOp addD (mVar 1) (mC (.int 11))) (mVar 4)) (mCons (mC (.int 2)) (mNil))))) (mC (.int 0)))) (mOp addD (mOp getD (mVar 3) (mVar 6)) (mVar 5)) (mOp addD (mVar 5) (mOp getD (mVar 3) (mVar 6))))) (mVar 6)) (mAppend 3 (mSh (mVar 5))))))
  (mRet (mCB (arg1 tupleE) (mCons (mVar 3) (mNil)))))
def g__law_keypad : List D → Rs D := runDef 7 m__law_keypad
def m__law_code : MS := mSeq (mSet 2 (mSh (mC (.str []))))
  (mSeq (mFor (mIter (mVar 1)) (.one 3) (mSet 2 (mSh (mOp addD (mVar 2) (mMt "str" joinD (mC (.str [])) (mCons (mLc (mEnum (mCons (mVar 0) (mNil))) (.two 4 5) (mBl (mOp (inD false) (mVar 3) (mVar 5))) (mCB (arg1 strD) (mCons (mVar 4) (mNil))) [4, 5]) (mNil)))))))
  (mRet (mVar 2)))
def g__law_code : List D → Rs D := runDef 6 m__law_code
def m__law_badpad : MS := mSeq (mSet 2 (mSh (mLst (mCons (mC .non) (mCons (mTup (mNil)) (mCons (mLst (mCons (mC (.str [97])) (mNil))) (mCons (mTup (mCons (mC (.str [])) (mNil))) (mCons (mTup (mCons (mC (.str [97, 97])) (mNil))) (mCons (mTup (mCons (mC (.str [97])) (mCons (mC (.str [97])) (mNil)))) (mCons (mTup (mCons (mC (.str [65])) (mNil))) (mCons (mTup (mCons (mC (.str [97, 49])) (mNil))) (mCons (mTup (mCons (mC (.str [97])) (mCons (mC (.int 7)) (mNil)))) (mCons (mC (.str [97, 98])) (mNil))))))))))))))
  (mSeq (mSet 2 (mSh (mOp addD (mVar 2) (mLst (mCons (mCB (arg1 tupleE) (mCons (mC (.str [97, 98, 99, 100, 101, 102, 103, 104, 105, 106, 107])) (mNil))) (mNil))))))
  (mRet (mOp getD (mVar 2) (mCall g__law_drawn (mCons (mVar 0) (mCons (mVar 1) (mCons (mC (.int 11)) (mNil))))))))
def g__law_badpad : List D → Rs D := runDef 3 m__law_badpad
def m__law_badword : MS := mRet (mOp getD (mLst (mCons (mC .non) (mCons (mC (.str [])) (mCons (mC (.str [65])) (mCons (mC (.str [97, 98, 97, 98, 97, 98, 97, 97, 98])) (mCons (mC (.int 7)) (mCons (mTup (mCons (mC (.str [97])) (mNil))) (mCons (mC (.str [122])) (mCons (mC (.str [97, 32, 98])) (mNil)))))))))) (mCall g__law_drawn (mCons (mVar 0) (mCons (mVar 1) (mCons (mC (.int 8)) (mNil))))))
def g__law_badword : List D → Rs D := runDef 2 m__law_badword
def m__law_error : MS := mSeq (mTry [.invalidKeypad, .invalidLetter, .invalidWord] 4 3 (mDrop (mCallV [("is_word", 2, g_is_word), ("key_of", 2, g_key_of), ("code", 2, g_code), ("presses", 2, g_presses), ("pauses", 2, g_pauses)] (mOp getD (mLst (mCons (mC (.fn "is_word")) (mCons (mC (.fn "key_of")) (mCons (mC (.fn "code")) (mCons (mC (.fn "presses")) (mCons (mC (.fn "pauses")) (mNil))))))) (mVar 0)) (mCons (mVar 1) (mCons (mVar 2) (mNil))))) (mRet (mMt "list" (m1 lindexD) (mLst (mCons (mCB (isED [.invalidKeypad, .invalidLetter, .invalidWord]) (mCons (mVar 3) (mCons (mC (.cls .invalidKeypad)) (mNil)))) (mCons (mCB (isED [.invalidKeypad, .invalidLetter, .invalidWord]) (mCons (mVar 3) (mCons (mC (.cls .invalidLetter)) (mNil)))) (mCons (mCB (isED [.invalidKeypad, .invalidLetter, .invalidWord]) (mCons (mVar 3) (mCons (mC (.cls .invalidWord)) (mNil)))) (mNil))))) (mCons (mC (.bl true)) (mNil)))))
  (mRet (mC .non))
def g__law_error : List D → Rs D := runDef 4 m__law_error
def ts_law_1 : MB := mBl (mOp (eqD true) (mCall g_key_of (mCons (mVar 1) (mCons (mVar 10) (mNil)))) (mVar 3))
def el_law_2 : M := mVar 10
def bd_law_3 : MS := mIfS (mBl (mOp (eqD true) (mLc (mIter (mVar 4)) (.one 10) (ts_law_1) (el_law_2) [10]) (mLst (mNil)))) (mRet (mC (.bl false))) (mNext)
def bd_law_4 : MS := mSet 6 (mSh (mOp addD (mVar 6) (mOp getD (mVar 2) (mCall g__law_drawn (mCons (mVar 0) (mCons (mOp addD (mOp addD (mC (.int 51)) (mOp mulE (mC (.int 10)) (mVar 5))) (mVar 7)) (mCons (mCB (arg1 lenD) (mCons (mVar 2) (mNil))) (mNil))))))))
def ts_law_5 : MB := mBl (mOp (inD false) (mVar 10) (mVar 4))
def el_law_6 : M := mMt "str" (m1 sindexD) (mVar 4) (mCons (mVar 10) (mNil))
def bd_law_7 : MS := mSet 9 (mSh (mOp addD (mOp addD (mVar 9) (mC (.int 1))) (mOp getD (mLc (mIter (mVar 1)) (.one 4) (ts_law_5) (el_law_6) [4]) (mC (.int 0)))))
def ts_law_8 : MB := mBl (mOp (eqD false) (mOp getD (mVar 8) (mVar 14)) (mOp getD (mVar 8) (mOp subD (mVar 14) (mC (.int 1)))))
def el_law_9 : M := mVar 14
def bd_law_10 : MS := mSeq (mSet 6 (mSh (mC (.str []))))
  (mSeq (mFor (mRange1 (mCons (mOp addD (mC (.int 1)) (mCall g__law_drawn (mCons (mVar 0) (mCons (mOp addD (mC (.int 50)) (mOp mulE (mC (.int 10)) (mVar 5))) (mCons (mC (.int 8)) (mNil)))))) (mNil))) (.one 7) (bd_law_4))
  (mSeq (mUnp (.two 8 9) (mSh (mTup (mCons (mCall g__law_code (mCons (mVar 1) (mCons (mVar 6) (mNil)))) (mCons (mC (.int 0)) (mNil))))))
  (mSeq (mFor (mIter (mVar 6)) (.one 10) (bd_law_7))
  (mSeq (mIfS (mOrB (mBl (mOp (isD true) (mCall g_is_word (mCons (mVar 1) (mCons (mVar 6) (mNil)))) (mC (.bl true)))) (mBl (mOp (eqD true) (mCall g_code (mCons (mVar 1) (mCons (mVar 6) (mNil)))) (mVar 8)))) (mRet (mC (.bl false))) (mNext))
  (mSeq (mIfS (mBl (mOp (eqD true) (mCall g_presses (mCons (mVar 1) (mCons (mVar 6) (mNil)))) (mVar 9))) (mRet (mC (.bl false))) (mNext))
  (mIfS (mBl (mOp (eqD true) (mCall g_pauses (mCons (mVar 1) (mCons (mVar 6) (mNil)))) (mCB (arg1 lenD) (mCons (mLc (mRange2 (mCons (mC (.int 1)) (mCons (mCB (arg1 lenD) (mCons (mVar 6) (mNil))) (mNil)))) (.one 14) (ts_law_8) (el_law_9) [14]) (mNil))))) (mRet (mC (.bl false))) (mNext)))))))
def el_law_11 : M := mCall g__law_error (mCons (mVar 15) (mCons (mVar 11) (mCons (mVar 12) (mNil))))
def el_law_12 : M := mCall g__law_error (mCons (mVar 15) (mCons (mVar 1) (mCons (mVar 12) (mNil))))
def m_law : MS := mSeq (mSet 1 (mSh (mCall g__law_keypad (mCons (mVar 0) (mCons (mC (.int 10)) (mCons (mC (.int 8)) (mNil)))))))
  (mSeq (mSet 2 (mSh (mMt "str" joinD (mC (.str [])) (mCons (mVar 1) (mNil)))))
  (mSeq (mIfS (mOrB (mBl (mOp (isD true) (mCall g_is_keypad (mCons (mVar 1) (mNil))) (mC (.bl true)))) (mBl (mOp (isD true) (mCall g_is_keypad (mCons (mTup (mCons (mC (.str [97, 98, 99, 100, 101, 102, 103, 104, 105, 106, 107, 108, 109, 110, 111, 112, 113, 114, 115, 116, 117, 118, 119, 120, 121, 122])) (mNil))) (mNil))) (mC (.bl true))))) (mRet (mC (.bl false))) (mNext))
  (mSeq (mIfS (mOrB (mBl (mOp (isD true) (mCall g_is_keypad (mCons (mCB (arg1 tupleE) (mCons (mC (.str [97, 98, 99, 100, 101, 102, 103, 104, 105, 106])) (mNil))) (mNil))) (mC (.bl true)))) (mBl (mOp (isD true) (mCall g_is_word (mCons (mVar 1) (mCons (mOp mulE (mOp getD (mVar 2) (mC (.int 0))) (mC (.int 8))) (mNil)))) (mC (.bl true))))) (mRet (mC (.bl false))) (mNext))
  (mSeq (mFor (mEnum (mCons (mVar 1) (mNil))) (.two 3 4) (bd_law_3))
  (mSeq (mFor (mRange1 (mCons (mC (.int 5)) (mNil))) (.one 5) (bd_law_10))
  (mSeq (mUnp (.two 11 12) (mSh (mTup (mCons (mCall g__law_badpad (mCons (mVar 0) (mCons (mC (.int 1)) (mNil)))) (mCons (mCall g__law_badword (mCons (mVar 0) (mCons (mC (.int 2)) (mNil)))) (mNil))))))
  (mSeq (mSet 10 (mSh (mOp getD (mLst (mCons (mC .non) (mCons (mC (.str [])) (mCons (mSl (mVar 2) mNo (mPt (mC (.int 2)))) (mCons (mC (.str [122])) (mCons (mC (.str [65])) (mCons (mC (.int 7)) (mNil)))))))) (mCall g__law_drawn (mCons (mVar 0) (mCons (mC (.int 3)) (mCons (mC (.int 6)) (mNil))))))))
  (mSeq (mIfS (mOrB (mBl (mCall g_is_keypad (mCons (mVar 11) (mNil)))) (mBl (mCall g_is_word (mCons (mVar 1) (mCons (mVar 12) (mNil)))))) (mRet (mC (.bl false))) (mNext))
  (mSeq (mSet 13 (mSh (mLst (mCons (mCall g__law_error (mCons (mC (.int 0)) (mCons (mVar 11) (mCons (mVar 12) (mNil))))) (mCons (mCall g__law_error (mCons (mC (.int 1)) (mCons (mVar 11) (mCons (mVar 10) (mNil))))) (mNil))))))
  (mSeq (mSet 13 (mSh (mOp addD (mVar 13) (mLc (mIter (mTup (mCons (mC (.int 2)) (mCons (mC (.int 3)) (mCons (mC (.int 4)) (mNil)))))) (.one 15) (mYes) (el_law_11) [15]))))
  (mSeq (mSet 13 (mSh (mOp addD (mVar 13) (mLst (mCons (mCall g__law_error (mCons (mC (.int 1)) (mCons (mVar 1) (mCons (mVar 10) (mNil))))) (mNil))))))
  (mRet (mOp (eqD false) (mOp addD (mVar 13) (mLc (mIter (mTup (mCons (mC (.int 2)) (mCons (mC (.int 3)) (mCons (mC (.int 4)) (mNil)))))) (.one 15) (mYes) (el_law_12) [15])) (mOp addD (mOp mulE (mLst (mCons (mC (.int 0)) (mNil))) (mC (.int 5))) (mLst (mCons (mC (.int 1)) (mCons (mC (.int 2)) (mCons (mC (.int 2)) (mCons (mC (.int 2)) (mNil))))))))))))))))))))
def g_law : List D → Rs D := runDef 16 m_law
section
variable {P : Program} {w : World} {K : PySem.W.Frag} {mg : Str → Option Value} {base : Heap}
theorem ok_is_string (T : Txt K mg) : Fo P w K mg base (gvOf mg) 1 "is_string" 4 g_is_string := by
  refine fo_mk (k := 0) (N := ["value", "signs", "least", "most", "sign"]) (ps := ["value", "signs", "least", "most"]) (st := s_is_string) (m := m_is_string) T.f_is_string sc_is_string ?_
  intro f cdv A outer s H E hr
  exact (ss_one (ss_ret (se_and (se_cb cD_isi (by rfl) T.b_isinstance bt_isinstance (sa_cons (se_var 0) (sa_cons (se_bty (by rfl) T.b_str bt_str) sa_nil))) (se_and (se_chain opD_le opD_le (se_var 2) (se_cb cD_len (by rfl) T.b_len bt_len (sa_cons (se_var 0) sa_nil)) (se_var 3)) (se_one (se_cb (cD_all rfl) (by rfl) T.b_all bt_all (sa_cons (se_lc rfl sc_is_string.nd (si_val (se_var 0)) (blkOk_by (own := [("sign", 4)]) (by kernel_rfl)) (fun _ _ _ _ _ => (sg_one 4 sc_is_string.nd)) (fun _ _ _ _ _ => st_nil) (fun _ _ _ _ _ => (se_cmp (opD_in (hu65 hr)) (se_var 4) (se_var 1)))) sa_nil)))))))
theorem ok_is_keypad (T : Txt K mg) : Fo P w K mg base (gvOf mg) 2 "is_keypad" 1 g_is_keypad := by
  refine fo_mk (k := 1) (N := ["candidate", "key"]) (ps := ["candidate"]) (st := s_is_keypad) (m := m_is_keypad) T.f_is_keypad sc_is_keypad ?_
  intro f cdv A outer s H E hr
  exact (ss_cons (ss_if (st_w (sw_or (st_not (st_val (se_cb cD_isi (by rfl) T.b_isinstance bt_isinstance (sa_cons (se_var 0) (sa_cons (se_bty (by rfl) T.b_tuple bt_tuple) sa_nil))))) (sw_or1 (st_not (st_chain opD_le opD_le se_int (se_cb cD_len (by rfl) T.b_len bt_len (sa_cons (se_var 0) sa_nil)) (se_gint (by rfl) T.c_MAX_KEYS)))))) (ss_one (ss_ret se_bl)) ss_nil)
    (ss_cons (ss_if (st_not (st_val (se_cb (cD_all rfl) (by rfl) T.b_all bt_all (sa_cons (se_lc rfl sc_is_keypad.nd (si_val (se_var 0)) (blkOk_by (own := [("key", 1)]) (by kernel_rfl)) (fun _ _ _ _ _ => (sg_one 1 sc_is_keypad.nd)) (fun _ _ _ _ _ => st_nil) (fun _ _ _ _ _ => (se_call (ok_is_string T) hr (by decide) (by rfl) takes0 (lenA_cons (lenA_cons (lenA_cons (lenA_cons lenA_nil)))) (sa_cons (se_var 1) (sa_cons (se_gstr (by rfl) T.c_LETTERS rfl (by decide)) (sa_cons se_int (sa_cons (se_cb cD_len (by rfl) T.b_len bt_len (sa_cons (se_gstr (by rfl) T.c_LETTERS rfl (by decide)) sa_nil)) sa_nil))))))) sa_nil)))) (ss_one (ss_ret se_bl)) ss_nil)
    (ss_one (ss_ret (se_cmp (opD_eq (hu64 hr)) (se_lenSet (by rfl) T.b_len (by rfl) T.b_set (se_mt PySem.F.plainAttrs_str PySem.F.slot_str_join PySem.F.type_str_join mtD_join (se_str (l := [])) (sa_cons (se_var 0) sa_nil))) (se_cb cD_len (by rfl) T.b_len bt_len (sa_cons (se_mt PySem.F.plainAttrs_str PySem.F.slot_str_join PySem.F.type_str_join mtD_join (se_str (l := [])) (sa_cons (se_var 0) sa_nil)) sa_nil)))))))
theorem ok_check_keypad (T : Txt K mg) : Fo P w K mg base (gvOf mg) 3 "check_keypad" 1 g_check_keypad := by
  refine fo_mk (k := 2) (N := ["value"]) (ps := ["value"]) (st := s_check_keypad) (m := m_check_keypad) T.f_check_keypad sc_check_keypad ?_
  intro f cdv A outer s H E hr
  exact (ss_one (ss_if (st_not (st_val (se_call (ok_is_keypad T) hr (by decide) (by rfl) tk_def (lenA_cons lenA_nil) (sa_cons (se_var 0) sa_nil)))) (ss_one (ss_raiseC (c := .invalidKeypad) T.e_invalidKeypad rfl tk_def (by rfl))) ss_nil))
theorem ok_has_word (T : Txt K mg) : Fo P w K mg base (gvOf mg) 2 "has_word" 2 g_has_word := by
  refine fo_mk (k := 1) (N := ["keypad", "candidate"]) (ps := ["keypad", "candidate"]) (st := s_has_word) (m := m_has_word) T.f_has_word sc_has_word ?_
  intro f cdv A outer s H E hr
  exact (ss_one (ss_ret (se_call (ok_is_string T) hr (by decide) (by rfl) tk_def (lenA_cons (lenA_cons (lenA_cons (lenA_cons lenA_nil)))) (sa_cons (se_var 1) (sa_cons (se_mt PySem.F.plainAttrs_str PySem.F.slot_str_join PySem.F.type_str_join mtD_join (se_str (l := [])) (sa_cons (se_var 0) sa_nil)) (sa_cons se_int (sa_cons (se_gint (by rfl) T.c_MAX_WORD) sa_nil)))))))
theorem ok_is_word (T : Txt K mg) : Fo P w K mg base (gvOf mg) 4 "is_word" 2 g_is_word := by
  refine fo_mk (k := 3) (N := ["keypad", "candidate"]) (ps := ["keypad", "candidate"]) (st := s_is_word) (m := m_is_word) T.f_is_word sc_is_word ?_
  intro f cdv A outer s H E hr
  exact (ss_cons (ss_expr (se_call (ok_check_keypad T) hr (by decide) (by rfl) tk_def (lenA_cons lenA_nil) (sa_cons (se_var 0) sa_nil)))
    (ss_one (ss_ret (se_call (ok_has_word T) hr (by decide) (by rfl) tk_def (lenA_cons (lenA_cons lenA_nil)) (sa_cons (se_var 0) (sa_cons (se_var 1) sa_nil))))))
theorem ok_find_key (T : Txt K mg) : Fo P w K mg base (gvOf mg) 1 "find_key" 2 g_find_key := by
  refine fo_mk (k := 0) (N := ["keypad", "letter", "number", "key"]) (ps := ["keypad", "letter"]) (st := s_find_key) (m := m_find_key) T.f_find_key sc_find_key ?_
  intro f cdv A outer s H E hr
  exact (ss_one (ss_ret (se_ix ixD (se_lc rfl sc_find_key.nd (si_enum (by rfl) T.b_enumerate (sa_cons (se_var 0) sa_nil)) (blkOk_by (own := [("number", 2), ("key", 3)]) (by kernel_rfl)) (fun _ _ _ _ _ => (sg_two 2 3 rfl rfl sc_find_key.nd)) (fun _ _ _ _ _ => (pts_one (st_cmp (opD_in (hu65 hr)) (se_var 1) (se_var 3)))) (fun _ _ _ _ _ => (se_var 2))) se_int)))
theorem ok_key_of (T : Txt K mg) : Fo P w K mg base (gvOf mg) 4 "key_of" 2 g_key_of := by
  refine fo_mk (k := 3) (N := ["keypad", "letter"]) (ps := ["keypad", "letter"]) (st := s_key_of) (m := m_key_of) T.f_key_of sc_key_of ?_
  intro f cdv A outer s H E hr
  exact (ss_cons (ss_expr (se_call (ok_check_keypad T) hr (by decide) (by rfl) tk_def (lenA_cons lenA_nil) (sa_cons (se_var 0) sa_nil)))
    (ss_cons (ss_if (st_not (st_val (se_call (ok_is_string T) hr (by decide) (by rfl) tk_def (lenA_cons (lenA_cons (lenA_cons (lenA_cons lenA_nil)))) (sa_cons (se_var 1) (sa_cons (se_mt PySem.F.plainAttrs_str PySem.F.slot_str_join PySem.F.type_str_join mtD_join (se_str (l := [])) (sa_cons (se_var 0) sa_nil)) (sa_cons se_int (sa_cons se_int sa_nil))))))) (ss_one (ss_raiseC (c := .invalidLetter) T.e_invalidLetter rfl tk_def (by rfl))) ss_nil)
    (ss_one (ss_ret (se_call (ok_find_key T) hr (by decide) (by rfl) tk_def (lenA_cons (lenA_cons lenA_nil)) (sa_cons (se_var 0) (sa_cons (se_var 1) sa_nil)))))))
theorem ok_find_code (T : Txt K mg) : Fo P w K mg base (gvOf mg) 2 "find_code" 2 g_find_code := by
  refine fo_mk (k := 1) (N := ["keypad", "word", "letter"]) (ps := ["keypad", "word"]) (st := s_find_code) (m := m_find_code) T.f_find_code sc_find_code ?_
  intro f cdv A outer s H E hr
  exact (ss_one (ss_ret (se_mt PySem.F.plainAttrs_str PySem.F.slot_str_join PySem.F.type_str_join mtD_join (se_str (l := [])) (sa_cons (se_lc rfl sc_find_code.nd (si_val (se_var 1)) (blkOk_by (own := [("letter", 2)]) (by kernel_rfl)) (fun _ _ _ _ _ => (sg_one 2 sc_find_code.nd)) (fun _ _ _ _ _ => st_nil) (fun _ _ _ _ _ => (se_ix ixD (se_gstr (by rfl) T.c_DIGITS rfl (by decide)) (se_call (ok_find_key T) hr (by decide) (by rfl) takes0 (lenA_cons (lenA_cons lenA_nil)) (sa_cons (se_var 0) (sa_cons (se_var 2) sa_nil)))))) sa_nil))))
theorem ok_check_word (T : Txt K mg) : Fo P w K mg base (gvOf mg) 4 "check_word" 2 g_check_word := by
  refine fo_mk (k := 3) (N := ["keypad", "word"]) (ps := ["keypad", "word"]) (st := s_check_word) (m := m_check_word) T.f_check_word sc_check_word ?_
  intro f cdv A outer s H E hr
  exact (ss_cons (ss_expr (se_call (ok_check_keypad T) hr (by decide) (by rfl) tk_def (lenA_cons lenA_nil) (sa_cons (se_var 0) sa_nil)))
    (ss_one (ss_if (st_not (st_val (se_call (ok_has_word T) hr (by decide) (by rfl) tk_def (lenA_cons (lenA_cons lenA_nil)) (sa_cons (se_var 0) (sa_cons (se_var 1) sa_nil))))) (ss_one (ss_raiseC (c := .invalidWord) T.e_invalidWord rfl tk_def (by rfl))) ss_nil)))
theorem ok_code (T : Txt K mg) : Fo P w K mg base (gvOf mg) 5 "code" 2 g_code := by
  refine fo_mk (k := 4) (N := ["keypad", "word"]) (ps := ["keypad", "word"]) (st := s_code) (m := m_code) T.f_code sc_code ?_
  intro f cdv A outer s H E hr
  exact (ss_cons (ss_expr (se_call (ok_check_word T) hr (by decide) (by rfl) tk_def (lenA_cons (lenA_cons lenA_nil)) (sa_cons (se_var 0) (sa_cons (se_var 1) sa_nil))))
    (ss_one (ss_ret (se_call (ok_find_code T) hr (by decide) (by rfl) tk_def (lenA_cons (lenA_cons lenA_nil)) (sa_cons (se_var 0) (sa_cons (se_var 1) sa_nil))))))
theorem ok_find_presses (T : Txt K mg) : Fo P w K mg base (gvOf mg) 2 "find_presses" 2 g_find_presses := by
  refine fo_mk (k := 1) (N := ["keypad", "word", "letter"]) (ps := ["keypad", "word"]) (st := s_find_presses) (m := m_find_presses) T.f_find_presses sc_find_presses ?_
  intro f cdv A outer s H E hr
  exact (ss_one (ss_ret (se_cb (cD_sum rfl) (by rfl) T.b_sum bt_sum (sa_cons (se_lc rfl sc_find_presses.nd (si_val (se_var 1)) (blkOk_by (own := [("letter", 2)]) (by kernel_rfl)) (fun _ _ _ _ _ => (sg_one 2 sc_find_presses.nd)) (fun _ _ _ _ _ => st_nil) (fun _ _ _ _ _ => (se_op opD_add se_int (se_mt PySem.F.plainAttrs_str PySem.F.slot_str_index PySem.F.type_str_index mtD_sindex (se_ix ixD (se_var 0) (se_call (ok_find_key T) hr (by decide) (by rfl) takes0 (lenA_cons (lenA_cons lenA_nil)) (sa_cons (se_var 0) (sa_cons (se_var 2) sa_nil)))) (sa_cons (se_var 2) sa_nil))))) sa_nil))))
theorem ok_presses (T : Txt K mg) : Fo P w K mg base (gvOf mg) 5 "presses" 2 g_presses := by
  refine fo_mk (k := 4) (N := ["keypad", "word"]) (ps := ["keypad", "word"]) (st := s_presses) (m := m_presses) T.f_presses sc_presses ?_
  intro f cdv A outer s H E hr
  exact (ss_cons (ss_expr (se_call (ok_check_word T) hr (by decide) (by rfl) tk_def (lenA_cons (lenA_cons lenA_nil)) (sa_cons (se_var 0) (sa_cons (se_var 1) sa_nil))))
    (ss_one (ss_ret (se_call (ok_find_presses T) hr (by decide) (by rfl) tk_def (lenA_cons (lenA_cons lenA_nil)) (sa_cons (se_var 0) (sa_cons (se_var 1) sa_nil))))))
theorem ok_find_pauses (T : Txt K mg) : Fo P w K mg base (gvOf mg) 3 "find_pauses" 2 g_find_pauses := by
  refine fo_mk (k := 2) (N := ["keypad", "word", "text", "one", "other"]) (ps := ["keypad", "word"]) (st := s_find_pauses) (m := m_find_pauses) T.f_find_pauses sc_find_pauses ?_
  intro f cdv A outer s H E hr
  exact (ss_cons (ss_set (i := 2) sc_find_pauses.nd (sv_sh (se_call (ok_find_code T) hr (by decide) (by rfl) tk_def (lenA_cons (lenA_cons lenA_nil)) (sa_cons (se_var 0) (sa_cons (se_var 1) sa_nil)))))
    (ss_one (ss_ret (se_cb cD_len (by rfl) T.b_len bt_len (sa_cons (se_lc rfl sc_find_pauses.nd (si_zip (by rfl) T.b_zip (sa_cons (se_var 2) (sa_cons (se_sl (se_var 2) (so_some se_int) so_none) sa_nil))) (blkOk_by (own := [("one", 3), ("other", 4)]) (by kernel_rfl)) (fun _ _ _ _ _ => (sg_two 3 4 rfl rfl sc_find_pauses.nd)) (fun _ _ _ _ _ => (pts_one (st_cmp (opD_eq (hu64 hr)) (se_var 3) (se_var 4)))) (fun _ _ _ _ _ => se_int)) sa_nil)))))
theorem ok_pauses (T : Txt K mg) : Fo P w K mg base (gvOf mg) 5 "pauses" 2 g_pauses := by
  refine fo_mk (k := 4) (N := ["keypad", "word"]) (ps := ["keypad", "word"]) (st := s_pauses) (m := m_pauses) T.f_pauses sc_pauses ?_
  intro f cdv A outer s H E hr
  exact (ss_cons (ss_expr (se_call (ok_check_word T) hr (by decide) (by rfl) tk_def (lenA_cons (lenA_cons lenA_nil)) (sa_cons (se_var 0) (sa_cons (se_var 1) sa_nil))))
    (ss_one (ss_ret (se_call (ok_find_pauses T) hr (by decide) (by rfl) tk_def (lenA_cons (lenA_cons lenA_nil)) (sa_cons (se_var 0) (sa_cons (se_var 1) sa_nil))))))
theorem ok__law_drawn (T : Txt K mg) : Fo P w K mg base (gvOf mg) 1 "_law_drawn" 3 g__law_drawn := by
  refine fo_mk (k := 0) (N := ["script", "k", "many", "cell", "turn", "rest"]) (ps := ["script", "k", "many"]) (st := s__law_drawn) (m := m__law_drawn) T.f__law_drawn sc__law_drawn ?_
  intro f cdv A outer s H E hr
  exact (ss_cons (ss_set (i := 3) sc__law_drawn.nd (sv_sh (se_op opD_mul2 se_int (se_var 1))))
    (ss_cons (ss_if (st_cmp (opD_ne (hu64 hr)) (se_var 0) (se_lst sa_nil lenA_nil)) (ss_cons (ss_set (i := 3) sc__law_drawn.nd (sv_sh (se_ix ixD (se_var 0) (se_op opD_mod (se_var 1) (se_cb cD_len (by rfl) T.b_len bt_len (sa_cons (se_var 0) sa_nil))))))
    (ss_cons (ss_set (i := 4) sc__law_drawn.nd (sv_sh (se_op opD_fdiv (se_var 1) (se_cb cD_len (by rfl) T.b_len bt_len (sa_cons (se_var 0) sa_nil)))))
    (ss_cons (ss_if (st_w (sw_and (st_cmp opD_ge (se_var 3) (se_op opD_pow se_int se_int)) (sw_and1 (st_cmp opD_lt (se_var 4) se_int)))) (ss_cons (ss_set (i := 5) sc__law_drawn.nd (sv_sh (se_op opD_fdiv (se_var 3) (se_op opD_pow se_int se_int))))
    (ss_cons (ss_while 200 po_def (st_w (sw_and (st_cmp opD_gt (se_var 5) se_int) (sw_and1 (st_cmp opD_gt (se_var 4) se_int)))) (ss_cons (ss_set (i := 5) sc__law_drawn.nd (sv_sh (se_op opD_fdiv (se_var 5) se_int)))
    (ss_one (ss_set (i := 4) sc__law_drawn.nd (sv_sh (se_op opD_sub (se_var 4) se_int))))))
    (ss_one (ss_if (st_cmp opD_gt (se_var 5) se_int) (ss_one (ss_ret (se_op opD_mod (se_op opD_mod (se_var 5) se_int) (se_var 2)))) ss_nil)))) ss_nil)
    (ss_one (ss_set (i := 3) sc__law_drawn.nd (sv_sh (se_op opD_add (se_var 3) (se_op opD_mul2 se_int (se_op opD_fdiv (se_var 1) (se_cb cD_len (by rfl) T.b_len bt_len (sa_cons (se_var 0) sa_nil))))))))))) ss_nil)
    (ss_cons (ss_set (i := 3) sc__law_drawn.nd (sv_sh (se_op opD_mod (se_op opD_add (se_op opD_mul2 (se_op opD_mod (se_var 3) se_int) se_int) (se_op opD_mul2 se_int (se_op opD_add (se_var 1) se_int))) se_int)))
    (ss_cons (ss_set (i := 3) sc__law_drawn.nd (sv_sh (se_op opD_mod (se_op opD_add (se_op opD_mul2 (se_var 3) (se_var 3)) (se_op opD_fdiv (se_var 3) se_int)) se_int)))
    (ss_one (ss_ret (se_op opD_mod (se_op opD_fdiv (se_op opD_mod (se_op opD_add (se_op opD_mul2 (se_var 3) (se_var 3)) (se_op opD_fdiv (se_var 3) se_int)) se_int) se_int) (se_var 2))))))))
theorem ok__law_keypad (T : Txt K mg) : Fo P w K mg base (gvOf mg) 2 "_law_keypad" 3 g__law_keypad := by
  refine fo_mk (k := 1) (N := ["script", "at", "most", "keys", "k", "letter", "place"]) (ps := ["script", "at", "most"]) (st := s__law_keypad) (m := m__law_keypad) T.f__law_keypad sc__law_keypad ?_
  intro f cdv A outer s H E hr
  exact (ss_cons (ss_set (i := 3) sc__law_keypad.nd (sv_lst sa_nil lenA_nil))
    (ss_cons (ss_for po_def rfl (si_range1 (by rfl) T.b_range (sa_cons (se_op opD_add se_int (se_call (ok__law_drawn T) hr (by decide) (by rfl) tk_def (lenA_cons (lenA_cons (lenA_cons lenA_nil))) (sa_cons (se_var 0) (sa_cons (se_var 1) (sa_cons (se_op opD_sub (se_var 2) se_int) sa_nil))))) sa_nil)) (sg_one 4 sc__law_keypad.nd) (ss_cons (ss_par (ps_par rfl sc__law_keypad.nd (i := 5) (j := 6) rfl rfl (by decide) rfl rfl (pa_cons (sv_sh (se_ix ixD (se_str (l := [98, 97, 99, 100, 101, 102, 103, 104])) (se_var 4))) (pa_cons (sv_sh (se_call (ok__law_drawn T) hr (by decide) (by rfl) tk_def (lenA_cons (lenA_cons (lenA_cons lenA_nil))) (sa_cons (se_var 0) (sa_cons (se_op opD_add (se_op opD_add (se_var 1) se_int) (se_var 4)) (sa_cons se_int sa_nil))))) pa_nil)) (by rfl)))
    (ss_one (ss_if (st_cmp opD_lt (se_var 6) (se_cb cD_len (by rfl) T.b_len bt_len (sa_cons (se_var 3) sa_nil))) (ss_one (ss_setitem (ps_asg (sv_sh (se_if (st_cmp (opD_eq (hu64 hr)) (se_call (ok__law_drawn T) hr (by decide) (by rfl) tk_def (lenA_cons (lenA_cons (lenA_cons lenA_nil))) (sa_cons (se_var 0) (sa_cons (se_op opD_add (se_op opD_add (se_var 1) se_int) (se_var 4)) (sa_cons se_int sa_nil)))) se_int) (se_op opD_add (se_ix ixD (se_var 3) (se_var 6)) (se_var 5)) (se_op opD_add (se_var 5) (se_ix ixD (se_var 3) (se_var 6))))) (pg_sub (pv 3) (se_var 6) set_list)))) (ss_one (ss_append (ps_expr (pe_bm PySem.F.plainAttrs_list PySem.F.slot_list_append PySem.F.type_list_append mt_append (pv 3) (pa_cons (sv_sh (se_var 5)) pa_nil)))))))))
    (ss_one (ss_ret (se_ty (cD_tuple2 rfl) (by rfl) T.b_tuple bt_tuple (sa_cons (se_var 3) sa_nil))))))
theorem ok__law_code (T : Txt K mg) : Fo P w K mg base (gvOf mg) 1 "_law_code" 2 g__law_code := by
  refine fo_mk (k := 0) (N := ["keypad", "word", "found", "letter", "number", "key"]) (ps := ["keypad", "word"]) (st := s__law_code) (m := m__law_code) T.f__law_code sc__law_code ?_
  intro f cdv A outer s H E hr
  exact (ss_cons (ss_set (i := 2) sc__law_code.nd (sv_sh (se_str (l := []))))
    (ss_cons (ss_for po_def rfl (si_val (se_var 1)) (sg_one 3 sc__law_code.nd) (ss_one (ss_set (i := 2) sc__law_code.nd (sv_sh (se_op opD_add (se_var 2) (se_mt PySem.F.plainAttrs_str PySem.F.slot_str_join PySem.F.type_str_join mtD_join (se_str (l := [])) (sa_cons (se_lc rfl sc__law_code.nd (si_enum (by rfl) T.b_enumerate (sa_cons (se_var 0) sa_nil)) (blkOk_by (own := [("number", 4), ("key", 5)]) (by kernel_rfl)) (fun _ _ _ _ _ => (sg_two 4 5 rfl rfl sc__law_code.nd)) (fun _ _ _ _ _ => (pts_one (st_cmp (opD_in (hu65 hr)) (se_var 3) (se_var 5)))) (fun _ _ _ _ _ => (se_ty cD_str (by rfl) T.b_str bt_str (sa_cons (se_var 4) sa_nil)))) sa_nil)))))))
    (ss_one (ss_ret (se_var 2)))))
theorem ok__law_badpad (T : Txt K mg) : Fo P w K mg base (gvOf mg) 2 "_law_badpad" 2 g__law_badpad := by
  refine fo_mk (k := 1) (N := ["script", "at", "bad"]) (ps := ["script", "at"]) (st := s__law_badpad) (m := m__law_badpad) T.f__law_badpad sc__law_badpad ?_
  intro f cdv A outer s H E hr
  exact (ss_cons (ss_set (i := 2) sc__law_badpad.nd (sv_sh (se_lst (sa_cons se_non (sa_cons (se_tup sa_nil lenA_nil) (sa_cons (se_lst (sa_cons (se_str (l := [97])) sa_nil) (lenA_cons lenA_nil)) (sa_cons (se_tup (sa_cons (se_str (l := [])) sa_nil) (lenA_cons lenA_nil)) (sa_cons (se_tup (sa_cons (se_str (l := [97, 97])) sa_nil) (lenA_cons lenA_nil)) (sa_cons (se_tup (sa_cons (se_str (l := [97])) (sa_cons (se_str (l := [97])) sa_nil)) (lenA_cons (lenA_cons lenA_nil))) (sa_cons (se_tup (sa_cons (se_str (l := [65])) sa_nil) (lenA_cons lenA_nil)) (sa_cons (se_tup (sa_cons (se_str (l := [97, 49])) sa_nil) (lenA_cons lenA_nil)) (sa_cons (se_tup (sa_cons (se_str (l := [97])) (sa_cons se_int sa_nil)) (lenA_cons (lenA_cons lenA_nil))) (sa_cons (se_str (l := [97, 98])) sa_nil)))))))))) (lenA_cons (lenA_cons (lenA_cons (lenA_cons (lenA_cons (lenA_cons (lenA_cons (lenA_cons (lenA_cons (lenA_cons lenA_nil)))))))))))))
    (ss_cons (ss_set (i := 2) sc__law_badpad.nd (sv_sh (se_op opD_add (se_var 2) (se_lst (sa_cons (se_ty (cD_tuple2 rfl) (by rfl) T.b_tuple bt_tuple (sa_cons (se_str (l := [97, 98, 99, 100, 101, 102, 103, 104, 105, 106, 107])) sa_nil)) sa_nil) (lenA_cons lenA_nil)))))
    (ss_one (ss_ret (se_ix ixD (se_var 2) (se_call (ok__law_drawn T) hr (by decide) (by rfl) tk_def (lenA_cons (lenA_cons (lenA_cons lenA_nil))) (sa_cons (se_var 0) (sa_cons (se_var 1) (sa_cons se_int sa_nil)))))))))
theorem ok__law_badword (T : Txt K mg) : Fo P w K mg base (gvOf mg) 2 "_law_badword" 2 g__law_badword := by
  refine fo_mk (k := 1) (N := ["script", "at"]) (ps := ["script", "at"]) (st := s__law_badword) (m := m__law_badword) T.f__law_badword sc__law_badword ?_
  intro f cdv A outer s H E hr
  exact (ss_one (ss_ret (se_ix ixD (se_lst (sa_cons se_non (sa_cons (se_str (l := [])) (sa_cons (se_str (l := [65])) (sa_cons (se_str (l := [97, 98, 97, 98, 97, 98, 97, 97, 98])) (sa_cons se_int (sa_cons (se_tup (sa_cons (se_str (l := [97])) sa_nil) (lenA_cons lenA_nil)) (sa_cons (se_str (l := [122])) (sa_cons (se_str (l := [97, 32, 98])) sa_nil)))))))) (lenA_cons (lenA_cons (lenA_cons (lenA_cons (lenA_cons (lenA_cons (lenA_cons (lenA_cons lenA_nil))))))))) (se_call (ok__law_drawn T) hr (by decide) (by rfl) tk_def (lenA_cons (lenA_cons (lenA_cons lenA_nil))) (sa_cons (se_var 0) (sa_cons (se_var 1) (sa_cons se_int sa_nil)))))))
theorem ok__law_error (T : Txt K mg) : Fo P w K mg base (gvOf mg) 6 "_law_error" 3 g__law_error := by
  refine fo_mk (k := 5) (N := ["way", "one", "two", "e"]) (ps := ["way", "one", "two"]) (st := s__law_error) (m := m__law_error) T.f__law_error sc__law_error ?_
  intro f cdv A outer s H E hr
  exact (ss_cons (ss_try T.ek rfl rfl sc__law_error.nd (i := 3) rfl rfl ⟨by rfl, by decide, .inl T.n_keypadError⟩ tk_def (fun W1 pn1 xe1 tk1 po1 => (ss_one (ss_expr (se_callv (k := 5) (fun p hp => by
      simp only [List.mem_cons, List.not_mem_nil, or_false] at hp
      rcases hp with rfl | rfl | rfl | rfl | rfl
      · exact (ok_is_word T).up (by decide)
      · exact (ok_key_of T).up (by decide)
      · exact (ok_code T).up (by decide)
      · exact (ok_presses T).up (by decide)
      · exact (ok_pauses T).up (by decide)
      ) hr (by decide) tk1 (se_ix ixD (se_lst (sa_cons (se_gfnT T.f_is_word (by rfl)) (sa_cons (se_gfnT T.f_key_of (by rfl)) (sa_cons (se_gfnT T.f_code (by rfl)) (sa_cons (se_gfnT T.f_presses (by rfl)) (sa_cons (se_gfnT T.f_pauses (by rfl)) sa_nil))))) (lenA_cons (lenA_cons (lenA_cons (lenA_cons (lenA_cons lenA_nil)))))) (se_var 0)) (sa_cons (se_var 1) (sa_cons (se_var 2) sa_nil)))))) (fun a1 oe1 c1 pn1 hc1 hz1 hf1 => (ss_one (ss_ret (se_mt PySem.F.plainAttrs_list PySem.F.slot_list_index PySem.F.type_list_index (mtD_lindex (by have := hu65 hr; exact this)) (se_lst (sa_cons (se_cb (cD_isE T.ek hc1 hz1 hf1) (by rfl) T.b_isinstance bt_isinstance (sa_cons (se_var 3) (sa_cons (se_cls (c := .invalidKeypad) T.e_invalidKeypad (by rfl)) sa_nil))) (sa_cons (se_cb (cD_isE T.ek hc1 hz1 hf1) (by rfl) T.b_isinstance bt_isinstance (sa_cons (se_var 3) (sa_cons (se_cls (c := .invalidLetter) T.e_invalidLetter (by rfl)) sa_nil))) (sa_cons (se_cb (cD_isE T.ek hc1 hz1 hf1) (by rfl) T.b_isinstance bt_isinstance (sa_cons (se_var 3) (sa_cons (se_cls (c := .invalidWord) T.e_invalidWord (by rfl)) sa_nil))) sa_nil))) (lenA_cons (lenA_cons (lenA_cons lenA_nil)))) (sa_cons se_bl sa_nil))))))
    (ss_one (ss_ret se_non)))
theorem fk_law (T : Txt K mg) (f : Addr) (fd : FuncData) (F : Fun K "law" "law" s_law f fd) : FnOk P w K mg base (L2.CX P w) 7 f fd ["script"] (spOf K (gvOf mg) 1 g_law) := by
  refine def_ok (N := ["script", "keypad", "letters", "number", "key", "k", "word", "n", "text", "many", "letter", "odd", "bad", "told", "place", "way"]) (ps := ["script"]) (st := s_law) (m := m_law) (k := 6) F sc_law ?_
  intro cdv A outer s H E hr
  exact (ss_cons (ss_set (i := 1) sc_law.nd (sv_sh (se_call (ok__law_keypad T) hr (by decide) (by rfl) tk_def (lenA_cons (lenA_cons (lenA_cons lenA_nil))) (sa_cons (se_var 0) (sa_cons se_int (sa_cons se_int sa_nil))))))
    (ss_cons (ss_set (i := 2) sc_law.nd (sv_sh (se_mt PySem.F.plainAttrs_str PySem.F.slot_str_join PySem.F.type_str_join mtD_join (se_str (l := [])) (sa_cons (se_var 1) sa_nil))))
    (ss_cons (ss_if (st_w (sw_or (st_cmp opD_isnot (se_call (ok_is_keypad T) hr (by decide) (by rfl) tk_def (lenA_cons lenA_nil) (sa_cons (se_var 1) sa_nil)) se_bl) (sw_or1 (st_cmp opD_isnot (se_call (ok_is_keypad T) hr (by decide) (by rfl) tk_def (lenA_cons lenA_nil) (sa_cons (se_tup (sa_cons (se_str (l := [97, 98, 99, 100, 101, 102, 103, 104, 105, 106, 107, 108, 109, 110, 111, 112, 113, 114, 115, 116, 117, 118, 119, 120, 121, 122])) sa_nil) (lenA_cons lenA_nil)) sa_nil)) se_bl)))) (ss_one (ss_ret se_bl)) ss_nil)
    (ss_cons (ss_if (st_w (sw_or (st_cmp opD_isnot (se_call (ok_is_keypad T) hr (by decide) (by rfl) tk_def (lenA_cons lenA_nil) (sa_cons (se_ty (cD_tuple2 rfl) (by rfl) T.b_tuple bt_tuple (sa_cons (se_str (l := [97, 98, 99, 100, 101, 102, 103, 104, 105, 106])) sa_nil)) sa_nil)) se_bl) (sw_or1 (st_cmp opD_isnot (se_call (ok_is_word T) hr (by decide) (by rfl) tk_def (lenA_cons (lenA_cons lenA_nil)) (sa_cons (se_var 1) (sa_cons (se_op opD_mul2 (se_ix ixD (se_var 2) se_int) se_int) sa_nil))) se_bl)))) (ss_one (ss_ret se_bl)) ss_nil)
    (ss_cons (ss_for po_def rfl (si_enum (by rfl) T.b_enumerate (sa_cons (se_var 1) sa_nil)) (sg_two 3 4 rfl rfl sc_law.nd) (ss_one (ss_if (st_cmp (opD_ne (hu64 hr)) (se_lc rfl sc_law.nd (si_val (se_var 4)) (blkOk_by (own := [("letter", 10)]) (by kernel_rfl)) (fun _ _ _ _ _ => (sg_one 10 sc_law.nd)) (fun _ _ _ _ _ => (pts_one (st_cmp (opD_ne (hu64 hr)) (se_call (ok_key_of T) hr (by decide) (by rfl) takes0 (lenA_cons (lenA_cons lenA_nil)) (sa_cons (se_var 1) (sa_cons (se_var 10) sa_nil))) (se_var 3)))) (fun _ _ _ _ _ => (se_var 10))) (se_lst sa_nil lenA_nil)) (ss_one (ss_ret se_bl)) ss_nil)))
    (ss_cons (ss_for po_def rfl (si_range1 (by rfl) T.b_range (sa_cons se_int sa_nil)) (sg_one 5 sc_law.nd) (ss_cons (ss_set (i := 6) sc_law.nd (sv_sh (se_str (l := []))))
    (ss_cons (ss_for po_def rfl (si_range1 (by rfl) T.b_range (sa_cons (se_op opD_add se_int (se_call (ok__law_drawn T) hr (by decide) (by rfl) tk_def (lenA_cons (lenA_cons (lenA_cons lenA_nil))) (sa_cons (se_var 0) (sa_cons (se_op opD_add se_int (se_op opD_mul2 se_int (se_var 5))) (sa_cons se_int sa_nil))))) sa_nil)) (sg_one 7 sc_law.nd) (ss_one (ss_set (i := 6) sc_law.nd (sv_sh (se_op opD_add (se_var 6) (se_ix ixD (se_var 2) (se_call (ok__law_drawn T) hr (by decide) (by rfl) tk_def (lenA_cons (lenA_cons (lenA_cons lenA_nil))) (sa_cons (se_var 0) (sa_cons (se_op opD_add (se_op opD_add se_int (se_op opD_mul2 se_int (se_var 5))) (se_var 7)) (sa_cons (se_cb cD_len (by rfl) T.b_len bt_len (sa_cons (se_var 2) sa_nil)) sa_nil))))))))))
    (ss_cons (ss_unp (t := .two 8 9) (ps_asg (sv_sh (se_tup (sa_cons (se_call (ok__law_code T) hr (by decide) (by rfl) tk_def (lenA_cons (lenA_cons lenA_nil)) (sa_cons (se_var 1) (sa_cons (se_var 6) sa_nil))) (sa_cons se_int sa_nil)) (lenA_cons (lenA_cons lenA_nil)))) (sg_two 8 9 rfl rfl sc_law.nd)))
    (ss_cons (ss_for po_def rfl (si_val (se_var 6)) (sg_one 10 sc_law.nd) (ss_one (ss_set (i := 9) sc_law.nd (sv_sh (se_op opD_add (se_op opD_add (se_var 9) se_int) (se_ix ixD (se_lc rfl sc_law.nd (si_val (se_var 1)) (blkOk_by (own := [("key", 4)]) (by kernel_rfl)) (fun _ _ _ _ _ => (sg_one 4 sc_law.nd)) (fun _ _ _ _ _ => (pts_one (st_cmp (opD_in (hu65 hr)) (se_var 10) (se_var 4)))) (fun _ _ _ _ _ => (se_mt PySem.F.plainAttrs_str PySem.F.slot_str_index PySem.F.type_str_index mtD_sindex (se_var 4) (sa_cons (se_var 10) sa_nil)))) se_int))))))
    (ss_cons (ss_if (st_w (sw_or (st_cmp opD_isnot (se_call (ok_is_word T) hr (by decide) (by rfl) tk_def (lenA_cons (lenA_cons lenA_nil)) (sa_cons (se_var 1) (sa_cons (se_var 6) sa_nil))) se_bl) (sw_or1 (st_cmp (opD_ne (hu64 hr)) (se_call (ok_code T) hr (by decide) (by rfl) tk_def (lenA_cons (lenA_cons lenA_nil)) (sa_cons (se_var 1) (sa_cons (se_var 6) sa_nil))) (se_var 8))))) (ss_one (ss_ret se_bl)) ss_nil)
    (ss_cons (ss_if (st_cmp (opD_ne (hu64 hr)) (se_call (ok_presses T) hr (by decide) (by rfl) tk_def (lenA_cons (lenA_cons lenA_nil)) (sa_cons (se_var 1) (sa_cons (se_var 6) sa_nil))) (se_var 9)) (ss_one (ss_ret se_bl)) ss_nil)
    (ss_one (ss_if (st_cmp (opD_ne (hu64 hr)) (se_call (ok_pauses T) hr (by decide) (by rfl) tk_def (lenA_cons (lenA_cons lenA_nil)) (sa_cons (se_var 1) (sa_cons (se_var 6) sa_nil))) (se_cb cD_len (by rfl) T.b_len bt_len (sa_cons (se_lc rfl sc_law.nd (si_range2 (by rfl) T.b_range (sa_cons se_int (sa_cons (se_cb cD_len (by rfl) T.b_len bt_len (sa_cons (se_var 6) sa_nil)) sa_nil))) (blkOk_by (own := [("place", 14)]) (by kernel_rfl)) (fun _ _ _ _ _ => (sg_one 14 sc_law.nd)) (fun _ _ _ _ _ => (pts_one (st_cmp (opD_eq (hu64 hr)) (se_ix ixD (se_var 8) (se_var 14)) (se_ix ixD (se_var 8) (se_op opD_sub (se_var 14) se_int))))) (fun _ _ _ _ _ => (se_var 14))) sa_nil))) (ss_one (ss_ret se_bl)) ss_nil)))))))))
    (ss_cons (ss_unp (t := .two 11 12) (ps_asg (sv_sh (se_tup (sa_cons (se_call (ok__law_badpad T) hr (by decide) (by rfl) tk_def (lenA_cons (lenA_cons lenA_nil)) (sa_cons (se_var 0) (sa_cons se_int sa_nil))) (sa_cons (se_call (ok__law_badword T) hr (by decide) (by rfl) tk_def (lenA_cons (lenA_cons lenA_nil)) (sa_cons (se_var 0) (sa_cons se_int sa_nil))) sa_nil)) (lenA_cons (lenA_cons lenA_nil)))) (sg_two 11 12 rfl rfl sc_law.nd)))
    (ss_cons (ss_set (i := 10) sc_law.nd (sv_sh (se_ix ixD (se_lst (sa_cons se_non (sa_cons (se_str (l := [])) (sa_cons (se_sl (se_var 2) so_none (so_some se_int)) (sa_cons (se_str (l := [122])) (sa_cons (se_str (l := [65])) (sa_cons se_int sa_nil)))))) (lenA_cons (lenA_cons (lenA_cons (lenA_cons (lenA_cons (lenA_cons lenA_nil))))))) (se_call (ok__law_drawn T) hr (by decide) (by rfl) tk_def (lenA_cons (lenA_cons (lenA_cons lenA_nil))) (sa_cons (se_var 0) (sa_cons se_int (sa_cons se_int sa_nil)))))))
    (ss_cons (ss_if (st_w (sw_or (st_val (se_call (ok_is_keypad T) hr (by decide) (by rfl) tk_def (lenA_cons lenA_nil) (sa_cons (se_var 11) sa_nil))) (sw_or1 (st_val (se_call (ok_is_word T) hr (by decide) (by rfl) tk_def (lenA_cons (lenA_cons lenA_nil)) (sa_cons (se_var 1) (sa_cons (se_var 12) sa_nil))))))) (ss_one (ss_ret se_bl)) ss_nil)
    (ss_cons (ss_set (i := 13) sc_law.nd (sv_sh (se_lst (sa_cons (se_call (ok__law_error T) hr (by decide) (by rfl) tk_def (lenA_cons (lenA_cons (lenA_cons lenA_nil))) (sa_cons se_int (sa_cons (se_var 11) (sa_cons (se_var 12) sa_nil)))) (sa_cons (se_call (ok__law_error T) hr (by decide) (by rfl) tk_def (lenA_cons (lenA_cons (lenA_cons lenA_nil))) (sa_cons se_int (sa_cons (se_var 11) (sa_cons (se_var 10) sa_nil)))) sa_nil)) (lenA_cons (lenA_cons lenA_nil)))))
    (ss_cons (ss_set (i := 13) sc_law.nd (sv_sh (se_op opD_add (se_var 13) (se_lc rfl sc_law.nd (si_val (se_tup (sa_cons se_int (sa_cons se_int (sa_cons se_int sa_nil))) (lenA_cons (lenA_cons (lenA_cons lenA_nil))))) (blkOk_by (own := [("way", 15)]) (by kernel_rfl)) (fun _ _ _ _ _ => (sg_one 15 sc_law.nd)) (fun _ _ _ _ _ => st_nil) (fun _ _ _ _ _ => (se_call (ok__law_error T) hr (by decide) (by rfl) takes0 (lenA_cons (lenA_cons (lenA_cons lenA_nil))) (sa_cons (se_var 15) (sa_cons (se_var 11) (sa_cons (se_var 12) sa_nil)))))))))
    (ss_cons (ss_set (i := 13) sc_law.nd (sv_sh (se_op opD_add (se_var 13) (se_lst (sa_cons (se_call (ok__law_error T) hr (by decide) (by rfl) tk_def (lenA_cons (lenA_cons (lenA_cons lenA_nil))) (sa_cons se_int (sa_cons (se_var 1) (sa_cons (se_var 10) sa_nil)))) sa_nil) (lenA_cons lenA_nil)))))
    (ss_one (ss_ret (se_cmp (opD_eq (hu64 hr)) (se_op opD_add (se_var 13) (se_lc rfl sc_law.nd (si_val (se_tup (sa_cons se_int (sa_cons se_int (sa_cons se_int sa_nil))) (lenA_cons (lenA_cons (lenA_cons lenA_nil))))) (blkOk_by (own := [("way", 15)]) (by kernel_rfl)) (fun _ _ _ _ _ => (sg_one 15 sc_law.nd)) (fun _ _ _ _ _ => st_nil) (fun _ _ _ _ _ => (se_call (ok__law_error T) hr (by decide) (by rfl) takes0 (lenA_cons (lenA_cons (lenA_cons lenA_nil))) (sa_cons (se_var 15) (sa_cons (se_var 1) (sa_cons (se_var 12) sa_nil))))))) (se_op opD_add (se_op opD_mul2 (se_lst (sa_cons se_int sa_nil) (lenA_cons lenA_nil)) se_int) (se_lst (sa_cons se_int (sa_cons se_int (sa_cons se_int (sa_cons se_int sa_nil)))) (lenA_cons (lenA_cons (lenA_cons (lenA_cons lenA_nil)))))))))))))))))))))
end
end L01

namespace L01
open PySem PySem.Spec PyProof.Rows L2 Kp
/-! is_string -/
theorem is_string_s {v sg : List Nat} {a b : Int} (hv : v.length ≤ 100000) : g_is_string [.str v, .str sg, .int a, .int b] = okR (.bl (decide (a ≤ v.length) && (decide (v.length ≤ b) && v.all (fun c => decide (c ∈ sg))))) := by
  have lc : lcGo (.one 4) mYes (mOp (inD false) (mVar 4) (mVar 1)) [.sh (.str v), .sh (.str sg), .sh (.int a), .sh (.int b), .un] (v.map fun c => .str [c]) = okR ((v.map fun c => decide (c ∈ sg)).map .bl) := by
    rw [lcA (h := fun c => .bl (decide (c ∈ sg))) v fun c hc => ⟨_, rfl, by simp only [w_0, w_1, w_2, w_3, w_4, w_5, w_6, w_7, w_8, w_9, w_10, w_11, w_12, w_13, w_14, w_15, w_16, w_17, w_18, w_19, w_20, w_21, w_22, w_23, w_24, w_25, w_26, w_27, w_28, w_29, w_30, w_31, w_32, w_33, w_34, w_35, w_36, w_37, w_38, w_39, w_40, w_41, w_42, w_43, w_44, w_45, w_46, w_47, w_48, w_49, w_50, w_51, w_52, w_53, w_54, w_55, w_56, w_57, w_58, w_59, w_60, w_61, w_62, w_63, w_64, w_65, w_66, w_67, w_68, w_69, w_70, w_71, w_72, w_73, w_74, w_75, w_76, w_77, w_78, w_79, w_80, w_81, w_82, w_83, w_84, w_85, w_86, w_87, w_88, w_89, w_90, w_91, w_92, w_93, w_94, w_95, w_96, w_97, w_98, w_99, w_100, w_101, w_102, w_103, w_104, w_105, w_106, w_107, w_108, w_109, w_110, w_111, w_112, w_113, w_114, w_115, w_116, w_117, w_118, w_119, w_120, w_121, w_122, w_123, w_124, w_125, w_126, w_127, w_128, w_129, w_130, w_131, w_132, w_133, w_134, w_135, w_136, w_137, w_138, w_139, w_140, w_141, w_142, w_143, w_144, w_145, w_146, w_147, w_148, w_149, w_150, w_151, w_152, w_153, w_154, w_155, w_156, w_157, w_158, w_159, w_160, w_161, w_162, w_163, w_164, w_165, w_166, w_167, w_168, w_169, w_170, w_171, w_172, w_173, w_174, w_175, w_176, w_177, w_178, w_179, w_180, w_181, w_182, w_183, w_184, w_185, w_186, w_187, w_188, w_189, w_190, w_191, w_192, w_193, w_194, w_195, w_196, w_197, w_198, w_199, w_200, w_201, w_202, w_203, w_204, w_205, w_206, w_207, w_208, ↓reduceIte, Bool.not_true, Bool.not_false, Bool.false_eq_true, Bool.true_eq_false, if_true, if_false, List.map_cons, List.map_nil, List.length_cons, List.length_nil, List.cons_append, List.nil_append, List.replicate, Nat.reduceAdd, Nat.reduceSub, and_self]⟩, List.map_map]
    rfl
  have e : ((v.map fun c => decide (c ∈ sg)).all id) = v.all fun c => decide (c ∈ sg) := by
    rw [List.all_map]; rfl
  unfold g_is_string m_is_string
  by_cases h1 : a ≤ v.length
  · by_cases h2 : (v.length : Int) ≤ b
    · simp only [w_0, w_1, w_2, w_3, w_4, w_5, w_6, w_7, w_8, w_9, w_10, w_11, w_12, w_13, w_14, w_15, w_16, w_17, w_18, w_19, w_20, w_21, w_22, w_23, w_24, w_25, w_26, w_27, w_28, w_29, w_30, w_31, w_32, w_33, w_34, w_35, w_36, w_37, w_38, w_39, w_40, w_41, w_42, w_43, w_44, w_45, w_46, w_47, w_48, w_49, w_50, w_51, w_52, w_53, w_54, w_55, w_56, w_57, w_58, w_59, w_60, w_61, w_62, w_63, w_64, w_65, w_66, w_67, w_68, w_69, w_70, w_71, w_72, w_73, w_74, w_75, w_76, w_77, w_78, w_79, w_80, w_81, w_82, w_83, w_84, w_85, w_86, w_87, w_88, w_89, w_90, w_91, w_92, w_93, w_94, w_95, w_96, w_97, w_98, w_99, w_100, w_101, w_102, w_103, w_104, w_105, w_106, w_107, w_108, w_109, w_110, w_111, w_112, w_113, w_114, w_115, w_116, w_117, w_118, w_119, w_120, w_121, w_122, w_123, w_124, w_125, w_126, w_127, w_128, w_129, w_130, w_131, w_132, w_133, w_134, w_135, w_136, w_137, w_138, w_139, w_140, w_141, w_142, w_143, w_144, w_145, w_146, w_147, w_148, w_149, w_150, w_151, w_152, w_153, w_154, w_155, w_156, w_157, w_158, w_159, w_160, w_161, w_162, w_163, w_164, w_165, w_166, w_167, w_168, w_169, w_170, w_171, w_172, w_173, w_174, w_175, w_176, w_177, w_178, w_179, w_180, w_181, w_182, w_183, w_184, w_185, w_186, w_187, w_188, w_189, w_190, w_191, w_192, w_193, w_194, w_195, w_196, w_197, w_198, w_199, w_200, w_201, w_202, w_203, w_204, w_205, w_206, w_207, w_208, ↓reduceIte, Bool.not_true, Bool.not_false, Bool.false_eq_true, Bool.true_eq_false, if_true, if_false, List.map_cons, List.map_nil, List.length_cons, List.length_nil, List.cons_append, List.nil_append, List.replicate, Nat.reduceAdd, Nat.reduceSub, and_self, hv, h1, h2, decide_true, lc, e, Bool.true_and]
    · simp only [w_0, w_1, w_2, w_3, w_4, w_5, w_6, w_7, w_8, w_9, w_10, w_11, w_12, w_13, w_14, w_15, w_16, w_17, w_18, w_19, w_20, w_21, w_22, w_23, w_24, w_25, w_26, w_27, w_28, w_29, w_30, w_31, w_32, w_33, w_34, w_35, w_36, w_37, w_38, w_39, w_40, w_41, w_42, w_43, w_44, w_45, w_46, w_47, w_48, w_49, w_50, w_51, w_52, w_53, w_54, w_55, w_56, w_57, w_58, w_59, w_60, w_61, w_62, w_63, w_64, w_65, w_66, w_67, w_68, w_69, w_70, w_71, w_72, w_73, w_74, w_75, w_76, w_77, w_78, w_79, w_80, w_81, w_82, w_83, w_84, w_85, w_86, w_87, w_88, w_89, w_90, w_91, w_92, w_93, w_94, w_95, w_96, w_97, w_98, w_99, w_100, w_101, w_102, w_103, w_104, w_105, w_106, w_107, w_108, w_109, w_110, w_111, w_112, w_113, w_114, w_115, w_116, w_117, w_118, w_119, w_120, w_121, w_122, w_123, w_124, w_125, w_126, w_127, w_128, w_129, w_130, w_131, w_132, w_133, w_134, w_135, w_136, w_137, w_138, w_139, w_140, w_141, w_142, w_143, w_144, w_145, w_146, w_147, w_148, w_149, w_150, w_151, w_152, w_153, w_154, w_155, w_156, w_157, w_158, w_159, w_160, w_161, w_162, w_163, w_164, w_165, w_166, w_167, w_168, w_169, w_170, w_171, w_172, w_173, w_174, w_175, w_176, w_177, w_178, w_179, w_180, w_181, w_182, w_183, w_184, w_185, w_186, w_187, w_188, w_189, w_190, w_191, w_192, w_193, w_194, w_195, w_196, w_197, w_198, w_199, w_200, w_201, w_202, w_203, w_204, w_205, w_206, w_207, w_208, ↓reduceIte, Bool.not_true, Bool.not_false, Bool.false_eq_true, Bool.true_eq_false, if_true, if_false, List.map_cons, List.map_nil, List.length_cons, List.length_nil, List.cons_append, List.nil_append, List.replicate, Nat.reduceAdd, Nat.reduceSub, and_self, hv, h1, h2, decide_true, decide_false, Bool.true_and, Bool.false_and]
  · simp only [w_0, w_1, w_2, w_3, w_4, w_5, w_6, w_7, w_8, w_9, w_10, w_11, w_12, w_13, w_14, w_15, w_16, w_17, w_18, w_19, w_20, w_21, w_22, w_23, w_24, w_25, w_26, w_27, w_28, w_29, w_30, w_31, w_32, w_33, w_34, w_35, w_36, w_37, w_38, w_39, w_40, w_41, w_42, w_43, w_44, w_45, w_46, w_47, w_48, w_49, w_50, w_51, w_52, w_53, w_54, w_55, w_56, w_57, w_58, w_59, w_60, w_61, w_62, w_63, w_64, w_65, w_66, w_67, w_68, w_69, w_70, w_71, w_72, w_73, w_74, w_75, w_76, w_77, w_78, w_79, w_80, w_81, w_82, w_83, w_84, w_85, w_86, w_87, w_88, w_89, w_90, w_91, w_92, w_93, w_94, w_95, w_96, w_97, w_98, w_99, w_100, w_101, w_102, w_103, w_104, w_105, w_106, w_107, w_108, w_109, w_110, w_111, w_112, w_113, w_114, w_115, w_116, w_117, w_118, w_119, w_120, w_121, w_122, w_123, w_124, w_125, w_126, w_127, w_128, w_129, w_130, w_131, w_132, w_133, w_134, w_135, w_136, w_137, w_138, w_139, w_140, w_141, w_142, w_143, w_144, w_145, w_146, w_147, w_148, w_149, w_150, w_151, w_152, w_153, w_154, w_155, w_156, w_157, w_158, w_159, w_160, w_161, w_162, w_163, w_164, w_165, w_166, w_167, w_168, w_169, w_170, w_171, w_172, w_173, w_174, w_175, w_176, w_177, w_178, w_179, w_180, w_181, w_182, w_183, w_184, w_185, w_186, w_187, w_188, w_189, w_190, w_191, w_192, w_193, w_194, w_195, w_196, w_197, w_198, w_199, w_200, w_201, w_202, w_203, w_204, w_205, w_206, w_207, w_208, ↓reduceIte, Bool.not_true, Bool.not_false, Bool.false_eq_true, Bool.true_eq_false, if_true, if_false, List.map_cons, List.map_nil, List.length_cons, List.length_nil, List.cons_append, List.nil_append, List.replicate, Nat.reduceAdd, Nat.reduceSub, and_self, hv, h1, decide_false, Bool.false_and]
def txtB : D → Bool
  | .str _ => true
  | _ => false
theorem is_string_n {d : D} {sg : List Nat} {a b : Int} (h : isiD [d, .ty "str"] = some (.bl false)) : g_is_string [d, .str sg, .int a, .int b] = okR (.bl false) := by
  unfold g_is_string m_is_string
  simp only [w_0, w_1, w_2, w_3, w_4, w_5, w_6, w_7, w_8, w_9, w_10, w_11, w_12, w_13, w_14, w_15, w_16, w_17, w_18, w_19, w_20, w_21, w_22, w_23, w_24, w_25, w_26, w_27, w_28, w_29, w_30, w_31, w_32, w_33, w_34, w_35, w_36, w_37, w_38, w_39, w_40, w_41, w_42, w_43, w_44, w_45, w_46, w_47, w_48, w_49, w_50, w_51, w_52, w_53, w_54, w_55, w_56, w_57, w_58, w_59, w_60, w_61, w_62, w_63, w_64, w_65, w_66, w_67, w_68, w_69, w_70, w_71, w_72, w_73, w_74, w_75, w_76, w_77, w_78, w_79, w_80, w_81, w_82, w_83, w_84, w_85, w_86, w_87, w_88, w_89, w_90, w_91, w_92, w_93, w_94, w_95, w_96, w_97, w_98, w_99, w_100, w_101, w_102, w_103, w_104, w_105, w_106, w_107, w_108, w_109, w_110, w_111, w_112, w_113, w_114, w_115, w_116, w_117, w_118, w_119, w_120, w_121, w_122, w_123, w_124, w_125, w_126, w_127, w_128, w_129, w_130, w_131, w_132, w_133, w_134, w_135, w_136, w_137, w_138, w_139, w_140, w_141, w_142, w_143, w_144, w_145, w_146, w_147, w_148, w_149, w_150, w_151, w_152, w_153, w_154, w_155, w_156, w_157, w_158, w_159, w_160, w_161, w_162, w_163, w_164, w_165, w_166, w_167, w_168, w_169, w_170, w_171, w_172, w_173, w_174, w_175, w_176, w_177, w_178, w_179, w_180, w_181, w_182, w_183, w_184, w_185, w_186, w_187, w_188, w_189, w_190, w_191, w_192, w_193, w_194, w_195, w_196, w_197, w_198, w_199, w_200, w_201, w_202, w_203, w_204, w_205, w_206, w_207, w_208, ↓reduceIte, Bool.not_true, Bool.not_false, Bool.false_eq_true, Bool.true_eq_false, if_true, if_false, List.map_cons, List.map_nil, List.length_cons, List.length_nil, List.cons_append, List.nil_append, List.replicate, Nat.reduceAdd, Nat.reduceSub, and_self, h]
/-! is_keypad -/
theorem is_keypad_good {kp : Pad} (g : Good kp) : g_is_keypad [pD kp] = okR (.bl true) := by
  have hn1 : (1 : Int) ≤ ((kp.map D.str).length : Nat) := by have := g.n1; rw [List.length_map]; omega
  have hn2 : (((kp.map D.str).length : Nat) : Int) ≤ 10 := by have := g.n2; rw [List.length_map]; omega
  have lc : lcGo (.one 1) mYes (mCall g_is_string (mCons (mVar 1) (mCons (mC (.str LETT)) (mCons (mC (.int 1)) (mCons (mCB (arg1 lenD) (mCons (mC (.str LETT)) (mNil))) (mNil)))))) [.sh (.tup (kp.map .str)), .un] (kp.map .str) = okR ((kp.map fun _ => true).map .bl) := by
    rw [lcA (h := fun _ => .bl true) kp fun k hk => ⟨_, rfl, ?_⟩, List.map_map]
    · rfl
    · have h1 := g.ne k hk
      have h2 := g.klen hk
      have h3 : k.all (fun c => decide (c ∈ LETT)) = true := by
        rw [List.all_eq_true]
        intro c hc
        exact decide_eq_true (mem_LETT.mpr (g.lt c (List.mem_flatten.mpr ⟨k, hk, hc⟩)))
      simp only [w_0, w_1, w_2, w_3, w_4, w_5, w_6, w_7, w_8, w_9, w_10, w_11, w_12, w_13, w_14, w_15, w_16, w_17, w_18, w_19, w_20, w_21, w_22, w_23, w_24, w_25, w_26, w_27, w_28, w_29, w_30, w_31, w_32, w_33, w_34, w_35, w_36, w_37, w_38, w_39, w_40, w_41, w_42, w_43, w_44, w_45, w_46, w_47, w_48, w_49, w_50, w_51, w_52, w_53, w_54, w_55, w_56, w_57, w_58, w_59, w_60, w_61, w_62, w_63, w_64, w_65, w_66, w_67, w_68, w_69, w_70, w_71, w_72, w_73, w_74, w_75, w_76, w_77, w_78, w_79, w_80, w_81, w_82, w_83, w_84, w_85, w_86, w_87, w_88, w_89, w_90, w_91, w_92, w_93, w_94, w_95, w_96, w_97, w_98, w_99, w_100, w_101, w_102, w_103, w_104, w_105, w_106, w_107, w_108, w_109, w_110, w_111, w_112, w_113, w_114, w_115, w_116, w_117, w_118, w_119, w_120, w_121, w_122, w_123, w_124, w_125, w_126, w_127, w_128, w_129, w_130, w_131, w_132, w_133, w_134, w_135, w_136, w_137, w_138, w_139, w_140, w_141, w_142, w_143, w_144, w_145, w_146, w_147, w_148, w_149, w_150, w_151, w_152, w_153, w_154, w_155, w_156, w_157, w_158, w_159, w_160, w_161, w_162, w_163, w_164, w_165, w_166, w_167, w_168, w_169, w_170, w_171, w_172, w_173, w_174, w_175, w_176, w_177, w_178, w_179, w_180, w_181, w_182, w_183, w_184, w_185, w_186, w_187, w_188, w_189, w_190, w_191, w_192, w_193, w_194, w_195, w_196, w_197, w_198, w_199, w_200, w_201, w_202, w_203, w_204, w_205, w_206, w_207, w_208, ↓reduceIte, Bool.not_true, Bool.not_false, Bool.false_eq_true, Bool.true_eq_false, if_true, if_false, List.map_cons, List.map_nil, List.length_cons, List.length_nil, List.cons_append, List.nil_append, List.replicate, Nat.reduceAdd, Nat.reduceSub, and_self, is_string_s (v := k) (sg := LETT) (by omega), Nat.reduceLeDiff]
      rw [h3, decide_eq_true (by omega : (1 : Int) ≤ k.length), decide_eq_true (by omega : (k.length : Int) ≤ ((26 : Nat) : Int))]
      rfl
  have e : ((kp.map fun _ => true).all id) = true := by rw [List.all_map]; simp
  have hf := g.len
  unfold g_is_keypad m_is_keypad pD
  simp only [w_0, w_1, w_2, w_3, w_4, w_5, w_6, w_7, w_8, w_9, w_10, w_11, w_12, w_13, w_14, w_15, w_16, w_17, w_18, w_19, w_20, w_21, w_22, w_23, w_24, w_25, w_26, w_27, w_28, w_29, w_30, w_31, w_32, w_33, w_34, w_35, w_36, w_37, w_38, w_39, w_40, w_41, w_42, w_43, w_44, w_45, w_46, w_47, w_48, w_49, w_50, w_51, w_52, w_53, w_54, w_55, w_56, w_57, w_58, w_59, w_60, w_61, w_62, w_63, w_64, w_65, w_66, w_67, w_68, w_69, w_70, w_71, w_72, w_73, w_74, w_75, w_76, w_77, w_78, w_79, w_80, w_81, w_82, w_83, w_84, w_85, w_86, w_87, w_88, w_89, w_90, w_91, w_92, w_93, w_94, w_95, w_96, w_97, w_98, w_99, w_100, w_101, w_102, w_103, w_104, w_105, w_106, w_107, w_108, w_109, w_110, w_111, w_112, w_113, w_114, w_115, w_116, w_117, w_118, w_119, w_120, w_121, w_122, w_123, w_124, w_125, w_126, w_127, w_128, w_129, w_130, w_131, w_132, w_133, w_134, w_135, w_136, w_137, w_138, w_139, w_140, w_141, w_142, w_143, w_144, w_145, w_146, w_147, w_148, w_149, w_150, w_151, w_152, w_153, w_154, w_155, w_156, w_157, w_158, w_159, w_160, w_161, w_162, w_163, w_164, w_165, w_166, w_167, w_168, w_169, w_170, w_171, w_172, w_173, w_174, w_175, w_176, w_177, w_178, w_179, w_180, w_181, w_182, w_183, w_184, w_185, w_186, w_187, w_188, w_189, w_190, w_191, w_192, w_193, w_194, w_195, w_196, w_197, w_198, w_199, w_200, w_201, w_202, w_203, w_204, w_205, w_206, w_207, w_208, ↓reduceIte, Bool.not_true, Bool.not_false, Bool.false_eq_true, Bool.true_eq_false, if_true, if_false, List.map_cons, List.map_nil, List.length_cons, List.length_nil, List.cons_append, List.nil_append, List.replicate, Nat.reduceAdd, Nat.reduceSub, and_self, hn1, hn2, decide_true, lc, e, w_194 (l := kp) (by omega), lenSet_nodup g.nd (by omega), (show kp.flatten.length ≤ 100000 by omega), beq_self_eq_true]
/-! check_keypad, has_word, is_word, find_key, key_of -/
theorem check_keypad_good {kp : Pad} (g : Good kp) : g_check_keypad [pD kp] = okR .non := by
  unfold g_check_keypad m_check_keypad
  simp only [w_0, w_1, w_2, w_3, w_4, w_5, w_6, w_7, w_8, w_9, w_10, w_11, w_12, w_13, w_14, w_15, w_16, w_17, w_18, w_19, w_20, w_21, w_22, w_23, w_24, w_25, w_26, w_27, w_28, w_29, w_30, w_31, w_32, w_33, w_34, w_35, w_36, w_37, w_38, w_39, w_40, w_41, w_42, w_43, w_44, w_45, w_46, w_47, w_48, w_49, w_50, w_51, w_52, w_53, w_54, w_55, w_56, w_57, w_58, w_59, w_60, w_61, w_62, w_63, w_64, w_65, w_66, w_67, w_68, w_69, w_70, w_71, w_72, w_73, w_74, w_75, w_76, w_77, w_78, w_79, w_80, w_81, w_82, w_83, w_84, w_85, w_86, w_87, w_88, w_89, w_90, w_91, w_92, w_93, w_94, w_95, w_96, w_97, w_98, w_99, w_100, w_101, w_102, w_103, w_104, w_105, w_106, w_107, w_108, w_109, w_110, w_111, w_112, w_113, w_114, w_115, w_116, w_117, w_118, w_119, w_120, w_121, w_122, w_123, w_124, w_125, w_126, w_127, w_128, w_129, w_130, w_131, w_132, w_133, w_134, w_135, w_136, w_137, w_138, w_139, w_140, w_141, w_142, w_143, w_144, w_145, w_146, w_147, w_148, w_149, w_150, w_151, w_152, w_153, w_154, w_155, w_156, w_157, w_158, w_159, w_160, w_161, w_162, w_163, w_164, w_165, w_166, w_167, w_168, w_169, w_170, w_171, w_172, w_173, w_174, w_175, w_176, w_177, w_178, w_179, w_180, w_181, w_182, w_183, w_184, w_185, w_186, w_187, w_188, w_189, w_190, w_191, w_192, w_193, w_194, w_195, w_196, w_197, w_198, w_199, w_200, w_201, w_202, w_203, w_204, w_205, w_206, w_207, w_208, ↓reduceIte, Bool.not_true, Bool.not_false, Bool.false_eq_true, Bool.true_eq_false, if_true, if_false, List.map_cons, List.map_nil, List.length_cons, List.length_nil, List.cons_append, List.nil_append, List.replicate, Nat.reduceAdd, Nat.reduceSub, and_self, is_keypad_good g]
theorem check_keypad_bad {d : D} (h : g_is_keypad [d] = okR (.bl false)) : g_check_keypad [d] = some (.error .invalidKeypad) := by
  unfold g_check_keypad m_check_keypad
  simp only [w_0, w_1, w_2, w_3, w_4, w_5, w_6, w_7, w_8, w_9, w_10, w_11, w_12, w_13, w_14, w_15, w_16, w_17, w_18, w_19, w_20, w_21, w_22, w_23, w_24, w_25, w_26, w_27, w_28, w_29, w_30, w_31, w_32, w_33, w_34, w_35, w_36, w_37, w_38, w_39, w_40, w_41, w_42, w_43, w_44, w_45, w_46, w_47, w_48, w_49, w_50, w_51, w_52, w_53, w_54, w_55, w_56, w_57, w_58, w_59, w_60, w_61, w_62, w_63, w_64, w_65, w_66, w_67, w_68, w_69, w_70, w_71, w_72, w_73, w_74, w_75, w_76, w_77, w_78, w_79, w_80, w_81, w_82, w_83, w_84, w_85, w_86, w_87, w_88, w_89, w_90, w_91, w_92, w_93, w_94, w_95, w_96, w_97, w_98, w_99, w_100, w_101, w_102, w_103, w_104, w_105, w_106, w_107, w_108, w_109, w_110, w_111, w_112, w_113, w_114, w_115, w_116, w_117, w_118, w_119, w_120, w_121, w_122, w_123, w_124, w_125, w_126, w_127, w_128, w_129, w_130, w_131, w_132, w_133, w_134, w_135, w_136, w_137, w_138, w_139, w_140, w_141, w_142, w_143, w_144, w_145, w_146, w_147, w_148, w_149, w_150, w_151, w_152, w_153, w_154, w_155, w_156, w_157, w_158, w_159, w_160, w_161, w_162, w_163, w_164, w_165, w_166, w_167, w_168, w_169, w_170, w_171, w_172, w_173, w_174, w_175, w_176, w_177, w_178, w_179, w_180, w_181, w_182, w_183, w_184, w_185, w_186, w_187, w_188, w_189, w_190, w_191, w_192, w_193, w_194, w_195, w_196, w_197, w_198, w_199, w_200, w_201, w_202, w_203, w_204, w_205, w_206, w_207, w_208, ↓reduceIte, Bool.not_true, Bool.not_false, Bool.false_eq_true, Bool.true_eq_false, if_true, if_false, List.map_cons, List.map_nil, List.length_cons, List.length_nil, List.cons_append, List.nil_append, List.replicate, Nat.reduceAdd, Nat.reduceSub, and_self, h]
/-- a word of the keypad -/
def wordB (kp : Pad) (w : List Nat) : Bool := decide (1 ≤ w.length) && (decide (w.length ≤ 8) && w.all fun c => decide (c ∈ kp.flatten))
theorem has_word_s {kp : Pad} (g : Good kp) {w : List Nat} (hw : w.length ≤ 100000) : g_has_word [pD kp, .str w] = okR (.bl (wordB kp w)) := by
  have hf := g.len
  unfold g_has_word m_has_word pD
  simp only [w_0, w_1, w_2, w_3, w_4, w_5, w_6, w_7, w_8, w_9, w_10, w_11, w_12, w_13, w_14, w_15, w_16, w_17, w_18, w_19, w_20, w_21, w_22, w_23, w_24, w_25, w_26, w_27, w_28, w_29, w_30, w_31, w_32, w_33, w_34, w_35, w_36, w_37, w_38, w_39, w_40, w_41, w_42, w_43, w_44, w_45, w_46, w_47, w_48, w_49, w_50, w_51, w_52, w_53, w_54, w_55, w_56, w_57, w_58, w_59, w_60, w_61, w_62, w_63, w_64, w_65, w_66, w_67, w_68, w_69, w_70, w_71, w_72, w_73, w_74, w_75, w_76, w_77, w_78, w_79, w_80, w_81, w_82, w_83, w_84, w_85, w_86, w_87, w_88, w_89, w_90, w_91, w_92, w_93, w_94, w_95, w_96, w_97, w_98, w_99, w_100, w_101, w_102, w_103, w_104, w_105, w_106, w_107, w_108, w_109, w_110, w_111, w_112, w_113, w_114, w_115, w_116, w_117, w_118, w_119, w_120, w_121, w_122, w_123, w_124, w_125, w_126, w_127, w_128, w_129, w_130, w_131, w_132, w_133, w_134, w_135, w_136, w_137, w_138, w_139, w_140, w_141, w_142, w_143, w_144, w_145, w_146, w_147, w_148, w_149, w_150, w_151, w_152, w_153, w_154, w_155, w_156, w_157, w_158, w_159, w_160, w_161, w_162, w_163, w_164, w_165, w_166, w_167, w_168, w_169, w_170, w_171, w_172, w_173, w_174, w_175, w_176, w_177, w_178, w_179, w_180, w_181, w_182, w_183, w_184, w_185, w_186, w_187, w_188, w_189, w_190, w_191, w_192, w_193, w_194, w_195, w_196, w_197, w_198, w_199, w_200, w_201, w_202, w_203, w_204, w_205, w_206, w_207, w_208, ↓reduceIte, Bool.not_true, Bool.not_false, Bool.false_eq_true, Bool.true_eq_false, if_true, if_false, List.map_cons, List.map_nil, List.length_cons, List.length_nil, List.cons_append, List.nil_append, List.replicate, Nat.reduceAdd, Nat.reduceSub, and_self, w_194 (l := kp) (by omega), is_string_s hw]
  have h1 : decide ((1 : Int) ≤ w.length) = decide (1 ≤ w.length) := decide_eq_decide.mpr (by omega)
  have h2 : decide ((w.length : Int) ≤ 8) = decide (w.length ≤ 8) := decide_eq_decide.mpr (by omega)
  rw [h1, h2]
  rfl
theorem has_word_n {kp : Pad} (g : Good kp) {d : D} (h : isiD [d, .ty "str"] = some (.bl false)) : g_has_word [pD kp, d] = okR (.bl false) := by
  have hf := g.len
  unfold g_has_word m_has_word pD
  simp only [w_0, w_1, w_2, w_3, w_4, w_5, w_6, w_7, w_8, w_9, w_10, w_11, w_12, w_13, w_14, w_15, w_16, w_17, w_18, w_19, w_20, w_21, w_22, w_23, w_24, w_25, w_26, w_27, w_28, w_29, w_30, w_31, w_32, w_33, w_34, w_35, w_36, w_37, w_38, w_39, w_40, w_41, w_42, w_43, w_44, w_45, w_46, w_47, w_48, w_49, w_50, w_51, w_52, w_53, w_54, w_55, w_56, w_57, w_58, w_59, w_60, w_61, w_62, w_63, w_64, w_65, w_66, w_67, w_68, w_69, w_70, w_71, w_72, w_73, w_74, w_75, w_76, w_77, w_78, w_79, w_80, w_81, w_82, w_83, w_84, w_85, w_86, w_87, w_88, w_89, w_90, w_91, w_92, w_93, w_94, w_95, w_96, w_97, w_98, w_99, w_100, w_101, w_102, w_103, w_104, w_105, w_106, w_107, w_108, w_109, w_110, w_111, w_112, w_113, w_114, w_115, w_116, w_117, w_118, w_119, w_120, w_121, w_122, w_123, w_124, w_125, w_126, w_127, w_128, w_129, w_130, w_131, w_132, w_133, w_134, w_135, w_136, w_137, w_138, w_139, w_140, w_141, w_142, w_143, w_144, w_145, w_146, w_147, w_148, w_149, w_150, w_151, w_152, w_153, w_154, w_155, w_156, w_157, w_158, w_159, w_160, w_161, w_162, w_163, w_164, w_165, w_166, w_167, w_168, w_169, w_170, w_171, w_172, w_173, w_174, w_175, w_176, w_177, w_178, w_179, w_180, w_181, w_182, w_183, w_184, w_185, w_186, w_187, w_188, w_189, w_190, w_191, w_192, w_193, w_194, w_195, w_196, w_197, w_198, w_199, w_200, w_201, w_202, w_203, w_204, w_205, w_206, w_207, w_208, ↓reduceIte, Bool.not_true, Bool.not_false, Bool.false_eq_true, Bool.true_eq_false, if_true, if_false, List.map_cons, List.map_nil, List.length_cons, List.length_nil, List.cons_append, List.nil_append, List.replicate, Nat.reduceAdd, Nat.reduceSub, and_self, w_194 (l := kp) (by omega), is_string_n h]
theorem is_word_of {kp : Pad} (g : Good kp) {d : D} {b : Bool} (h : g_has_word [pD kp, d] = okR (.bl b)) : g_is_word [pD kp, d] = okR (.bl b) := by
  unfold g_is_word m_is_word
  simp only [w_0, w_1, w_2, w_3, w_4, w_5, w_6, w_7, w_8, w_9, w_10, w_11, w_12, w_13, w_14, w_15, w_16, w_17, w_18, w_19, w_20, w_21, w_22, w_23, w_24, w_25, w_26, w_27, w_28, w_29, w_30, w_31, w_32, w_33, w_34, w_35, w_36, w_37, w_38, w_39, w_40, w_41, w_42, w_43, w_44, w_45, w_46, w_47, w_48, w_49, w_50, w_51, w_52, w_53, w_54, w_55, w_56, w_57, w_58, w_59, w_60, w_61, w_62, w_63, w_64, w_65, w_66, w_67, w_68, w_69, w_70, w_71, w_72, w_73, w_74, w_75, w_76, w_77, w_78, w_79, w_80, w_81, w_82, w_83, w_84, w_85, w_86, w_87, w_88, w_89, w_90, w_91, w_92, w_93, w_94, w_95, w_96, w_97, w_98, w_99, w_100, w_101, w_102, w_103, w_104, w_105, w_106, w_107, w_108, w_109, w_110, w_111, w_112, w_113, w_114, w_115, w_116, w_117, w_118, w_119, w_120, w_121, w_122, w_123, w_124, w_125, w_126, w_127, w_128, w_129, w_130, w_131, w_132, w_133, w_134, w_135, w_136, w_137, w_138, w_139, w_140, w_141, w_142, w_143, w_144, w_145, w_146, w_147, w_148, w_149, w_150, w_151, w_152, w_153, w_154, w_155, w_156, w_157, w_158, w_159, w_160, w_161, w_162, w_163, w_164, w_165, w_166, w_167, w_168, w_169, w_170, w_171, w_172, w_173, w_174, w_175, w_176, w_177, w_178, w_179, w_180, w_181, w_182, w_183, w_184, w_185, w_186, w_187, w_188, w_189, w_190, w_191, w_192, w_193, w_194, w_195, w_196, w_197, w_198, w_199, w_200, w_201, w_202, w_203, w_204, w_205, w_206, w_207, w_208, ↓reduceIte, Bool.not_true, Bool.not_false, Bool.false_eq_true, Bool.true_eq_false, if_true, if_false, List.map_cons, List.map_nil, List.length_cons, List.length_nil, List.cons_append, List.nil_append, List.replicate, Nat.reduceAdd, Nat.reduceSub, and_self, check_keypad_good g, h]
theorem find_key_s {kp : Pad} (hn : kp.flatten.Nodup) {c : Nat} (h : c ∈ kp.flatten) : g_find_key [pD kp, .str [c]] = okR (.int (kIx kp c : Nat)) := by
  have lc : lcGo (.two 2 3) (mBl (mOp (inD false) (mVar 1) (mVar 3))) (mVar 2) [.sh (.tup (kp.map .str)), .sh (.str [c]), .un, .un] (enumL (kp.map .str)) = okR [.int (kIx kp c : Nat)] := by
    rw [enumL_map, lcM (p := fun p => decide (c ∈ p.1)) (h := fun p => .int (p.2 : Nat)) _ fun p hp => ⟨_, rfl, by simp only [w_0, w_1, w_2, w_3, w_4, w_5, w_6, w_7, w_8, w_9, w_10, w_11, w_12, w_13, w_14, w_15, w_16, w_17, w_18, w_19, w_20, w_21, w_22, w_23, w_24, w_25, w_26, w_27, w_28, w_29, w_30, w_31, w_32, w_33, w_34, w_35, w_36, w_37, w_38, w_39, w_40, w_41, w_42, w_43, w_44, w_45, w_46, w_47, w_48, w_49, w_50, w_51, w_52, w_53, w_54, w_55, w_56, w_57, w_58, w_59, w_60, w_61, w_62, w_63, w_64, w_65, w_66, w_67, w_68, w_69, w_70, w_71, w_72, w_73, w_74, w_75, w_76, w_77, w_78, w_79, w_80, w_81, w_82, w_83, w_84, w_85, w_86, w_87, w_88, w_89, w_90, w_91, w_92, w_93, w_94, w_95, w_96, w_97, w_98, w_99, w_100, w_101, w_102, w_103, w_104, w_105, w_106, w_107, w_108, w_109, w_110, w_111, w_112, w_113, w_114, w_115, w_116, w_117, w_118, w_119, w_120, w_121, w_122, w_123, w_124, w_125, w_126, w_127, w_128, w_129, w_130, w_131, w_132, w_133, w_134, w_135, w_136, w_137, w_138, w_139, w_140, w_141, w_142, w_143, w_144, w_145, w_146, w_147, w_148, w_149, w_150, w_151, w_152, w_153, w_154, w_155, w_156, w_157, w_158, w_159, w_160, w_161, w_162, w_163, w_164, w_165, w_166, w_167, w_168, w_169, w_170, w_171, w_172, w_173, w_174, w_175, w_176, w_177, w_178, w_179, w_180, w_181, w_182, w_183, w_184, w_185, w_186, w_187, w_188, w_189, w_190, w_191, w_192, w_193, w_194, w_195, w_196, w_197, w_198, w_199, w_200, w_201, w_202, w_203, w_204, w_205, w_206, w_207, w_208, ↓reduceIte, Bool.not_true, Bool.not_false, Bool.false_eq_true, Bool.true_eq_false, if_true, if_false, List.map_cons, List.map_nil, List.length_cons, List.length_nil, List.cons_append, List.nil_append, List.replicate, Nat.reduceAdd, Nat.reduceSub, and_self], fun _ => by simp only [w_0, w_1, w_2, w_3, w_4, w_5, w_6, w_7, w_8, w_9, w_10, w_11, w_12, w_13, w_14, w_15, w_16, w_17, w_18, w_19, w_20, w_21, w_22, w_23, w_24, w_25, w_26, w_27, w_28, w_29, w_30, w_31, w_32, w_33, w_34, w_35, w_36, w_37, w_38, w_39, w_40, w_41, w_42, w_43, w_44, w_45, w_46, w_47, w_48, w_49, w_50, w_51, w_52, w_53, w_54, w_55, w_56, w_57, w_58, w_59, w_60, w_61, w_62, w_63, w_64, w_65, w_66, w_67, w_68, w_69, w_70, w_71, w_72, w_73, w_74, w_75, w_76, w_77, w_78, w_79, w_80, w_81, w_82, w_83, w_84, w_85, w_86, w_87, w_88, w_89, w_90, w_91, w_92, w_93, w_94, w_95, w_96, w_97, w_98, w_99, w_100, w_101, w_102, w_103, w_104, w_105, w_106, w_107, w_108, w_109, w_110, w_111, w_112, w_113, w_114, w_115, w_116, w_117, w_118, w_119, w_120, w_121, w_122, w_123, w_124, w_125, w_126, w_127, w_128, w_129, w_130, w_131, w_132, w_133, w_134, w_135, w_136, w_137, w_138, w_139, w_140, w_141, w_142, w_143, w_144, w_145, w_146, w_147, w_148, w_149, w_150, w_151, w_152, w_153, w_154, w_155, w_156, w_157, w_158, w_159, w_160, w_161, w_162, w_163, w_164, w_165, w_166, w_167, w_168, w_169, w_170, w_171, w_172, w_173, w_174, w_175, w_176, w_177, w_178, w_179, w_180, w_181, w_182, w_183, w_184, w_185, w_186, w_187, w_188, w_189, w_190, w_191, w_192, w_193, w_194, w_195, w_196, w_197, w_198, w_199, w_200, w_201, w_202, w_203, w_204, w_205, w_206, w_207, w_208, ↓reduceIte, Bool.not_true, Bool.not_false, Bool.false_eq_true, Bool.true_eq_false, if_true, if_false, List.map_cons, List.map_nil, List.length_cons, List.length_nil, List.cons_append, List.nil_append, List.replicate, Nat.reduceAdd, Nat.reduceSub, and_self]⟩]
    have := congrArg (List.map fun n : Nat => D.int n) (filter_kIx hn h)
    rw [List.map_map] at this
    exact congrArg okR this
  unfold g_find_key m_find_key pD
  simp only [w_0, w_1, w_2, w_3, w_4, w_5, w_6, w_7, w_8, w_9, w_10, w_11, w_12, w_13, w_14, w_15, w_16, w_17, w_18, w_19, w_20, w_21, w_22, w_23, w_24, w_25, w_26, w_27, w_28, w_29, w_30, w_31, w_32, w_33, w_34, w_35, w_36, w_37, w_38, w_39, w_40, w_41, w_42, w_43, w_44, w_45, w_46, w_47, w_48, w_49, w_50, w_51, w_52, w_53, w_54, w_55, w_56, w_57, w_58, w_59, w_60, w_61, w_62, w_63, w_64, w_65, w_66, w_67, w_68, w_69, w_70, w_71, w_72, w_73, w_74, w_75, w_76, w_77, w_78, w_79, w_80, w_81, w_82, w_83, w_84, w_85, w_86, w_87, w_88, w_89, w_90, w_91, w_92, w_93, w_94, w_95, w_96, w_97, w_98, w_99, w_100, w_101, w_102, w_103, w_104, w_105, w_106, w_107, w_108, w_109, w_110, w_111, w_112, w_113, w_114, w_115, w_116, w_117, w_118, w_119, w_120, w_121, w_122, w_123, w_124, w_125, w_126, w_127, w_128, w_129, w_130, w_131, w_132, w_133, w_134, w_135, w_136, w_137, w_138, w_139, w_140, w_141, w_142, w_143, w_144, w_145, w_146, w_147, w_148, w_149, w_150, w_151, w_152, w_153, w_154, w_155, w_156, w_157, w_158, w_159, w_160, w_161, w_162, w_163, w_164, w_165, w_166, w_167, w_168, w_169, w_170, w_171, w_172, w_173, w_174, w_175, w_176, w_177, w_178, w_179, w_180, w_181, w_182, w_183, w_184, w_185, w_186, w_187, w_188, w_189, w_190, w_191, w_192, w_193, w_194, w_195, w_196, w_197, w_198, w_199, w_200, w_201, w_202, w_203, w_204, w_205, w_206, w_207, w_208, ↓reduceIte, Bool.not_true, Bool.not_false, Bool.false_eq_true, Bool.true_eq_false, if_true, if_false, List.map_cons, List.map_nil, List.length_cons, List.length_nil, List.cons_append, List.nil_append, List.replicate, Nat.reduceAdd, Nat.reduceSub, and_self, lc, Option.map, atI_of (l := [D.int (kIx kp c : Nat)]) (i := 0) (j := 0) rfl rfl]
theorem letter_s {kp : Pad} (g : Good kp) {v : List Nat} (hv : v.length ≤ 100000) : g_is_string [.str v, .str kp.flatten, .int 1, .int 1] = okR (.bl (decide (v.length = 1) && v.all fun c => decide (c ∈ kp.flatten))) := by
  rw [is_string_s hv]
  by_cases h : v.length = 1
  · rw [h]; rfl
  · rw [decide_eq_false h, Bool.false_and]
    by_cases h0 : (1 : Int) ≤ v.length
    · rw [decide_eq_false (by omega : ¬ (v.length : Int) ≤ 1), Bool.false_and, Bool.and_false]
    · rw [decide_eq_false h0, Bool.false_and]
theorem key_of_s {kp : Pad} (g : Good kp) {c : Nat} (h : c ∈ kp.flatten) : g_key_of [pD kp, .str [c]] = okR (.int (kIx kp c : Nat)) := by
  have hf := g.len
  have e : g_is_string [.str [c], .str kp.flatten, .int 1, .int 1] = okR (.bl true) := by
    rw [letter_s g (by simp), List.all_cons, List.all_nil, decide_eq_true h]
    rfl
  have e2 : g_find_key [.tup (kp.map .str), .str [c]] = okR (.int (kIx kp c : Nat)) := find_key_s g.nd h
  have e3 : g_check_keypad [.tup (kp.map .str)] = okR .non := check_keypad_good g
  unfold g_key_of m_key_of pD
  simp only [w_0, w_1, w_2, w_3, w_4, w_5, w_6, w_7, w_8, w_9, w_10, w_11, w_12, w_13, w_14, w_15, w_16, w_17, w_18, w_19, w_20, w_21, w_22, w_23, w_24, w_25, w_26, w_27, w_28, w_29, w_30, w_31, w_32, w_33, w_34, w_35, w_36, w_37, w_38, w_39, w_40, w_41, w_42, w_43, w_44, w_45, w_46, w_47, w_48, w_49, w_50, w_51, w_52, w_53, w_54, w_55, w_56, w_57, w_58, w_59, w_60, w_61, w_62, w_63, w_64, w_65, w_66, w_67, w_68, w_69, w_70, w_71, w_72, w_73, w_74, w_75, w_76, w_77, w_78, w_79, w_80, w_81, w_82, w_83, w_84, w_85, w_86, w_87, w_88, w_89, w_90, w_91, w_92, w_93, w_94, w_95, w_96, w_97, w_98, w_99, w_100, w_101, w_102, w_103, w_104, w_105, w_106, w_107, w_108, w_109, w_110, w_111, w_112, w_113, w_114, w_115, w_116, w_117, w_118, w_119, w_120, w_121, w_122, w_123, w_124, w_125, w_126, w_127, w_128, w_129, w_130, w_131, w_132, w_133, w_134, w_135, w_136, w_137, w_138, w_139, w_140, w_141, w_142, w_143, w_144, w_145, w_146, w_147, w_148, w_149, w_150, w_151, w_152, w_153, w_154, w_155, w_156, w_157, w_158, w_159, w_160, w_161, w_162, w_163, w_164, w_165, w_166, w_167, w_168, w_169, w_170, w_171, w_172, w_173, w_174, w_175, w_176, w_177, w_178, w_179, w_180, w_181, w_182, w_183, w_184, w_185, w_186, w_187, w_188, w_189, w_190, w_191, w_192, w_193, w_194, w_195, w_196, w_197, w_198, w_199, w_200, w_201, w_202, w_203, w_204, w_205, w_206, w_207, w_208, ↓reduceIte, Bool.not_true, Bool.not_false, Bool.false_eq_true, Bool.true_eq_false, if_true, if_false, List.map_cons, List.map_nil, List.length_cons, List.length_nil, List.cons_append, List.nil_append, List.replicate, Nat.reduceAdd, Nat.reduceSub, and_self, e3, w_194 (l := kp) (by omega), e, e2]
theorem key_of_bad {kp : Pad} (g : Good kp) {d : D} (h : g_is_string [d, .str kp.flatten, .int 1, .int 1] = okR (.bl false)) : g_key_of [pD kp, d] = some (.error .invalidLetter) := by
  have hf := g.len
  have e3 : g_check_keypad [.tup (kp.map .str)] = okR .non := check_keypad_good g
  unfold g_key_of m_key_of pD
  simp only [w_0, w_1, w_2, w_3, w_4, w_5, w_6, w_7, w_8, w_9, w_10, w_11, w_12, w_13, w_14, w_15, w_16, w_17, w_18, w_19, w_20, w_21, w_22, w_23, w_24, w_25, w_26, w_27, w_28, w_29, w_30, w_31, w_32, w_33, w_34, w_35, w_36, w_37, w_38, w_39, w_40, w_41, w_42, w_43, w_44, w_45, w_46, w_47, w_48, w_49, w_50, w_51, w_52, w_53, w_54, w_55, w_56, w_57, w_58, w_59, w_60, w_61, w_62, w_63, w_64, w_65, w_66, w_67, w_68, w_69, w_70, w_71, w_72, w_73, w_74, w_75, w_76, w_77, w_78, w_79, w_80, w_81, w_82, w_83, w_84, w_85, w_86, w_87, w_88, w_89, w_90, w_91, w_92, w_93, w_94, w_95, w_96, w_97, w_98, w_99, w_100, w_101, w_102, w_103, w_104, w_105, w_106, w_107, w_108, w_109, w_110, w_111, w_112, w_113, w_114, w_115, w_116, w_117, w_118, w_119, w_120, w_121, w_122, w_123, w_124, w_125, w_126, w_127, w_128, w_129, w_130, w_131, w_132, w_133, w_134, w_135, w_136, w_137, w_138, w_139, w_140, w_141, w_142, w_143, w_144, w_145, w_146, w_147, w_148, w_149, w_150, w_151, w_152, w_153, w_154, w_155, w_156, w_157, w_158, w_159, w_160, w_161, w_162, w_163, w_164, w_165, w_166, w_167, w_168, w_169, w_170, w_171, w_172, w_173, w_174, w_175, w_176, w_177, w_178, w_179, w_180, w_181, w_182, w_183, w_184, w_185, w_186, w_187, w_188, w_189, w_190, w_191, w_192, w_193, w_194, w_195, w_196, w_197, w_198, w_199, w_200, w_201, w_202, w_203, w_204, w_205, w_206, w_207, w_208, ↓reduceIte, Bool.not_true, Bool.not_false, Bool.false_eq_true, Bool.true_eq_false, if_true, if_false, List.map_cons, List.map_nil, List.length_cons, List.length_nil, List.cons_append, List.nil_append, List.replicate, Nat.reduceAdd, Nat.reduceSub, and_self, e3, w_194 (l := kp) (by omega), h]
theorem key_of_pad {p d : D} (h : g_is_keypad [p] = okR (.bl false)) : g_key_of [p, d] = some (.error .invalidKeypad) := by
  unfold g_key_of m_key_of
  simp only [w_0, w_1, w_2, w_3, w_4, w_5, w_6, w_7, w_8, w_9, w_10, w_11, w_12, w_13, w_14, w_15, w_16, w_17, w_18, w_19, w_20, w_21, w_22, w_23, w_24, w_25, w_26, w_27, w_28, w_29, w_30, w_31, w_32, w_33, w_34, w_35, w_36, w_37, w_38, w_39, w_40, w_41, w_42, w_43, w_44, w_45, w_46, w_47, w_48, w_49, w_50, w_51, w_52, w_53, w_54, w_55, w_56, w_57, w_58, w_59, w_60, w_61, w_62, w_63, w_64, w_65, w_66, w_67, w_68, w_69, w_70, w_71, w_72, w_73, w_74, w_75, w_76, w_77, w_78, w_79, w_80, w_81, w_82, w_83, w_84, w_85, w_86, w_87, w_88, w_89, w_90, w_91, w_92, w_93, w_94, w_95, w_96, w_97, w_98, w_99, w_100, w_101, w_102, w_103, w_104, w_105, w_106, w_107, w_108, w_109, w_110, w_111, w_112, w_113, w_114, w_115, w_116, w_117, w_118, w_119, w_120, w_121, w_122, w_123, w_124, w_125, w_126, w_127, w_128, w_129, w_130, w_131, w_132, w_133, w_134, w_135, w_136, w_137, w_138, w_139, w_140, w_141, w_142, w_143, w_144, w_145, w_146, w_147, w_148, w_149, w_150, w_151, w_152, w_153, w_154, w_155, w_156, w_157, w_158, w_159, w_160, w_161, w_162, w_163, w_164, w_165, w_166, w_167, w_168, w_169, w_170, w_171, w_172, w_173, w_174, w_175, w_176, w_177, w_178, w_179, w_180, w_181, w_182, w_183, w_184, w_185, w_186, w_187, w_188, w_189, w_190, w_191, w_192, w_193, w_194, w_195, w_196, w_197, w_198, w_199, w_200, w_201, w_202, w_203, w_204, w_205, w_206, w_207, w_208, ↓reduceIte, Bool.not_true, Bool.not_false, Bool.false_eq_true, Bool.true_eq_false, if_true, if_false, List.map_cons, List.map_nil, List.length_cons, List.length_nil, List.cons_append, List.nil_append, List.replicate, Nat.reduceAdd, Nat.reduceSub, and_self, check_keypad_bad h]
theorem is_word_pad {p d : D} (h : g_is_keypad [p] = okR (.bl false)) : g_is_word [p, d] = some (.error .invalidKeypad) := by
  unfold g_is_word m_is_word
  simp only [w_0, w_1, w_2, w_3, w_4, w_5, w_6, w_7, w_8, w_9, w_10, w_11, w_12, w_13, w_14, w_15, w_16, w_17, w_18, w_19, w_20, w_21, w_22, w_23, w_24, w_25, w_26, w_27, w_28, w_29, w_30, w_31, w_32, w_33, w_34, w_35, w_36, w_37, w_38, w_39, w_40, w_41, w_42, w_43, w_44, w_45, w_46, w_47, w_48, w_49, w_50, w_51, w_52, w_53, w_54, w_55, w_56, w_57, w_58, w_59, w_60, w_61, w_62, w_63, w_64, w_65, w_66, w_67, w_68, w_69, w_70, w_71, w_72, w_73, w_74, w_75, w_76, w_77, w_78, w_79, w_80, w_81, w_82, w_83, w_84, w_85, w_86, w_87, w_88, w_89, w_90, w_91, w_92, w_93, w_94, w_95, w_96, w_97, w_98, w_99, w_100, w_101, w_102, w_103, w_104, w_105, w_106, w_107, w_108, w_109, w_110, w_111, w_112, w_113, w_114, w_115, w_116, w_117, w_118, w_119, w_120, w_121, w_122, w_123, w_124, w_125, w_126, w_127, w_128, w_129, w_130, w_131, w_132, w_133, w_134, w_135, w_136, w_137, w_138, w_139, w_140, w_141, w_142, w_143, w_144, w_145, w_146, w_147, w_148, w_149, w_150, w_151, w_152, w_153, w_154, w_155, w_156, w_157, w_158, w_159, w_160, w_161, w_162, w_163, w_164, w_165, w_166, w_167, w_168, w_169, w_170, w_171, w_172, w_173, w_174, w_175, w_176, w_177, w_178, w_179, w_180, w_181, w_182, w_183, w_184, w_185, w_186, w_187, w_188, w_189, w_190, w_191, w_192, w_193, w_194, w_195, w_196, w_197, w_198, w_199, w_200, w_201, w_202, w_203, w_204, w_205, w_206, w_207, w_208, ↓reduceIte, Bool.not_true, Bool.not_false, Bool.false_eq_true, Bool.true_eq_false, if_true, if_false, List.map_cons, List.map_nil, List.length_cons, List.length_nil, List.cons_append, List.nil_append, List.replicate, Nat.reduceAdd, Nat.reduceSub, and_self, check_keypad_bad h]
/-! check_word, find_code, code, find_presses, presses, find_pauses, pauses -/
theorem check_word_ok {kp : Pad} (g : Good kp) {w : List Nat} (hw : wordB kp w = true) : g_check_word [pD kp, .str w] = okR .non := by
  have hl : w.length ≤ 100000 := by
    unfold wordB at hw
    simp only [Bool.and_eq_true, decide_eq_true_eq] at hw
    omega
  unfold g_check_word m_check_word
  simp only [w_0, w_1, w_2, w_3, w_4, w_5, w_6, w_7, w_8, w_9, w_10, w_11, w_12, w_13, w_14, w_15, w_16, w_17, w_18, w_19, w_20, w_21, w_22, w_23, w_24, w_25, w_26, w_27, w_28, w_29, w_30, w_31, w_32, w_33, w_34, w_35, w_36, w_37, w_38, w_39, w_40, w_41, w_42, w_43, w_44, w_45, w_46, w_47, w_48, w_49, w_50, w_51, w_52, w_53, w_54, w_55, w_56, w_57, w_58, w_59, w_60, w_61, w_62, w_63, w_64, w_65, w_66, w_67, w_68, w_69, w_70, w_71, w_72, w_73, w_74, w_75, w_76, w_77, w_78, w_79, w_80, w_81, w_82, w_83, w_84, w_85, w_86, w_87, w_88, w_89, w_90, w_91, w_92, w_93, w_94, w_95, w_96, w_97, w_98, w_99, w_100, w_101, w_102, w_103, w_104, w_105, w_106, w_107, w_108, w_109, w_110, w_111, w_112, w_113, w_114, w_115, w_116, w_117, w_118, w_119, w_120, w_121, w_122, w_123, w_124, w_125, w_126, w_127, w_128, w_129, w_130, w_131, w_132, w_133, w_134, w_135, w_136, w_137, w_138, w_139, w_140, w_141, w_142, w_143, w_144, w_145, w_146, w_147, w_148, w_149, w_150, w_151, w_152, w_153, w_154, w_155, w_156, w_157, w_158, w_159, w_160, w_161, w_162, w_163, w_164, w_165, w_166, w_167, w_168, w_169, w_170, w_171, w_172, w_173, w_174, w_175, w_176, w_177, w_178, w_179, w_180, w_181, w_182, w_183, w_184, w_185, w_186, w_187, w_188, w_189, w_190, w_191, w_192, w_193, w_194, w_195, w_196, w_197, w_198, w_199, w_200, w_201, w_202, w_203, w_204, w_205, w_206, w_207, w_208, ↓reduceIte, Bool.not_true, Bool.not_false, Bool.false_eq_true, Bool.true_eq_false, if_true, if_false, List.map_cons, List.map_nil, List.length_cons, List.length_nil, List.cons_append, List.nil_append, List.replicate, Nat.reduceAdd, Nat.reduceSub, and_self, check_keypad_good g, has_word_s g hl, hw]
theorem check_word_bad {kp : Pad} (g : Good kp) {d : D} (h : g_has_word [pD kp, d] = okR (.bl false)) : g_check_word [pD kp, d] = some (.error .invalidWord) := by
  unfold g_check_word m_check_word
  simp only [w_0, w_1, w_2, w_3, w_4, w_5, w_6, w_7, w_8, w_9, w_10, w_11, w_12, w_13, w_14, w_15, w_16, w_17, w_18, w_19, w_20, w_21, w_22, w_23, w_24, w_25, w_26, w_27, w_28, w_29, w_30, w_31, w_32, w_33, w_34, w_35, w_36, w_37, w_38, w_39, w_40, w_41, w_42, w_43, w_44, w_45, w_46, w_47, w_48, w_49, w_50, w_51, w_52, w_53, w_54, w_55, w_56, w_57, w_58, w_59, w_60, w_61, w_62, w_63, w_64, w_65, w_66, w_67, w_68, w_69, w_70, w_71, w_72, w_73, w_74, w_75, w_76, w_77, w_78, w_79, w_80, w_81, w_82, w_83, w_84, w_85, w_86, w_87, w_88, w_89, w_90, w_91, w_92, w_93, w_94, w_95, w_96, w_97, w_98, w_99, w_100, w_101, w_102, w_103, w_104, w_105, w_106, w_107, w_108, w_109, w_110, w_111, w_112, w_113, w_114, w_115, w_116, w_117, w_118, w_119, w_120, w_121, w_122, w_123, w_124, w_125, w_126, w_127, w_128, w_129, w_130, w_131, w_132, w_133, w_134, w_135, w_136, w_137, w_138, w_139, w_140, w_141, w_142, w_143, w_144, w_145, w_146, w_147, w_148, w_149, w_150, w_151, w_152, w_153, w_154, w_155, w_156, w_157, w_158, w_159, w_160, w_161, w_162, w_163, w_164, w_165, w_166, w_167, w_168, w_169, w_170, w_171, w_172, w_173, w_174, w_175, w_176, w_177, w_178, w_179, w_180, w_181, w_182, w_183, w_184, w_185, w_186, w_187, w_188, w_189, w_190, w_191, w_192, w_193, w_194, w_195, w_196, w_197, w_198, w_199, w_200, w_201, w_202, w_203, w_204, w_205, w_206, w_207, w_208, ↓reduceIte, Bool.not_true, Bool.not_false, Bool.false_eq_true, Bool.true_eq_false, if_true, if_false, List.map_cons, List.map_nil, List.length_cons, List.length_nil, List.cons_append, List.nil_append, List.replicate, Nat.reduceAdd, Nat.reduceSub, and_self, check_keypad_good g, h]
theorem check_word_pad {p d : D} (h : g_is_keypad [p] = okR (.bl false)) : g_check_word [p, d] = some (.error .invalidKeypad) := by
  unfold g_check_word m_check_word
  simp only [w_0, w_1, w_2, w_3, w_4, w_5, w_6, w_7, w_8, w_9, w_10, w_11, w_12, w_13, w_14, w_15, w_16, w_17, w_18, w_19, w_20, w_21, w_22, w_23, w_24, w_25, w_26, w_27, w_28, w_29, w_30, w_31, w_32, w_33, w_34, w_35, w_36, w_37, w_38, w_39, w_40, w_41, w_42, w_43, w_44, w_45, w_46, w_47, w_48, w_49, w_50, w_51, w_52, w_53, w_54, w_55, w_56, w_57, w_58, w_59, w_60, w_61, w_62, w_63, w_64, w_65, w_66, w_67, w_68, w_69, w_70, w_71, w_72, w_73, w_74, w_75, w_76, w_77, w_78, w_79, w_80, w_81, w_82, w_83, w_84, w_85, w_86, w_87, w_88, w_89, w_90, w_91, w_92, w_93, w_94, w_95, w_96, w_97, w_98, w_99, w_100, w_101, w_102, w_103, w_104, w_105, w_106, w_107, w_108, w_109, w_110, w_111, w_112, w_113, w_114, w_115, w_116, w_117, w_118, w_119, w_120, w_121, w_122, w_123, w_124, w_125, w_126, w_127, w_128, w_129, w_130, w_131, w_132, w_133, w_134, w_135, w_136, w_137, w_138, w_139, w_140, w_141, w_142, w_143, w_144, w_145, w_146, w_147, w_148, w_149, w_150, w_151, w_152, w_153, w_154, w_155, w_156, w_157, w_158, w_159, w_160, w_161, w_162, w_163, w_164, w_165, w_166, w_167, w_168, w_169, w_170, w_171, w_172, w_173, w_174, w_175, w_176, w_177, w_178, w_179, w_180, w_181, w_182, w_183, w_184, w_185, w_186, w_187, w_188, w_189, w_190, w_191, w_192, w_193, w_194, w_195, w_196, w_197, w_198, w_199, w_200, w_201, w_202, w_203, w_204, w_205, w_206, w_207, w_208, ↓reduceIte, Bool.not_true, Bool.not_false, Bool.false_eq_true, Bool.true_eq_false, if_true, if_false, List.map_cons, List.map_nil, List.length_cons, List.length_nil, List.cons_append, List.nil_append, List.replicate, Nat.reduceAdd, Nat.reduceSub, and_self, check_keypad_bad h]
/-- the code -/
def codeL (kp : Pad) (w : List Nat) : List Nat := w.map fun c => 48 + kIx kp c
theorem dig_at {i : Nat} (h : i < 10) : atI [48, 49, 50, 51, 52, 53, 54, 55, 56, 57] ((i : Nat) : Int) = some (48 + i) := by
  refine atI_of (j := i) ?_ rfl
  match i, h with
  | 0, _ => rfl
  | 1, _ => rfl
  | 2, _ => rfl
  | 3, _ => rfl
  | 4, _ => rfl
  | 5, _ => rfl
  | 6, _ => rfl
  | 7, _ => rfl
  | 8, _ => rfl
  | 9, _ => rfl
  | n + 10, h => exact absurd h (by omega)
theorem flat_ones {α : Type} (f : α → Nat) : ∀ w : List α, (w.map fun c => [f c]).flatten = w.map f
  | [] => rfl
  | c :: w => by rw [List.map_cons, List.flatten_cons, flat_ones f w]; rfl
theorem find_code_s {kp : Pad} (g : Good kp) {w : List Nat} (hl : w.length ≤ 1000) (hw : ∀ c ∈ w, c ∈ kp.flatten) : g_find_code [pD kp, .str w] = okR (.str (codeL kp w)) := by
  have lc : lcGo (.one 2) mYes (mOp getD (mC (.str [48, 49, 50, 51, 52, 53, 54, 55, 56, 57])) (mCall g_find_key (mCons (mVar 0) (mCons (mVar 2) (mNil))))) [.sh (.tup (kp.map .str)), .sh (.str w), .un] (w.map fun c => .str [c]) = okR ((w.map fun c => [48 + kIx kp c]).map .str) := by
    rw [lcA (h := fun c => .str [48 + kIx kp c]) w fun c hc => ⟨_, rfl, ?_⟩, List.map_map]
    · rfl
    · have e2 : g_find_key [.tup (kp.map .str), .str [c]] = okR (.int (kIx kp c : Nat)) := find_key_s g.nd (hw c hc)
      have h10 := kIx_lt (hw c hc)
      have hk := g.n2
      simp only [w_0, w_1, w_2, w_3, w_4, w_5, w_6, w_7, w_8, w_9, w_10, w_11, w_12, w_13, w_14, w_15, w_16, w_17, w_18, w_19, w_20, w_21, w_22, w_23, w_24, w_25, w_26, w_27, w_28, w_29, w_30, w_31, w_32, w_33, w_34, w_35, w_36, w_37, w_38, w_39, w_40, w_41, w_42, w_43, w_44, w_45, w_46, w_47, w_48, w_49, w_50, w_51, w_52, w_53, w_54, w_55, w_56, w_57, w_58, w_59, w_60, w_61, w_62, w_63, w_64, w_65, w_66, w_67, w_68, w_69, w_70, w_71, w_72, w_73, w_74, w_75, w_76, w_77, w_78, w_79, w_80, w_81, w_82, w_83, w_84, w_85, w_86, w_87, w_88, w_89, w_90, w_91, w_92, w_93, w_94, w_95, w_96, w_97, w_98, w_99, w_100, w_101, w_102, w_103, w_104, w_105, w_106, w_107, w_108, w_109, w_110, w_111, w_112, w_113, w_114, w_115, w_116, w_117, w_118, w_119, w_120, w_121, w_122, w_123, w_124, w_125, w_126, w_127, w_128, w_129, w_130, w_131, w_132, w_133, w_134, w_135, w_136, w_137, w_138, w_139, w_140, w_141, w_142, w_143, w_144, w_145, w_146, w_147, w_148, w_149, w_150, w_151, w_152, w_153, w_154, w_155, w_156, w_157, w_158, w_159, w_160, w_161, w_162, w_163, w_164, w_165, w_166, w_167, w_168, w_169, w_170, w_171, w_172, w_173, w_174, w_175, w_176, w_177, w_178, w_179, w_180, w_181, w_182, w_183, w_184, w_185, w_186, w_187, w_188, w_189, w_190, w_191, w_192, w_193, w_194, w_195, w_196, w_197, w_198, w_199, w_200, w_201, w_202, w_203, w_204, w_205, w_206, w_207, w_208, ↓reduceIte, Bool.not_true, Bool.not_false, Bool.false_eq_true, Bool.true_eq_false, if_true, if_false, List.map_cons, List.map_nil, List.length_cons, List.length_nil, List.cons_append, List.nil_append, List.replicate, Nat.reduceAdd, Nat.reduceSub, and_self, e2, Nat.reduceLeDiff, dig_at (show kIx kp c < 10 by omega), Option.map]
  have hf : (w.map fun c => [48 + kIx kp c]).flatten = codeL kp w := flat_ones _ w
  unfold g_find_code m_find_code pD
  simp only [w_0, w_1, w_2, w_3, w_4, w_5, w_6, w_7, w_8, w_9, w_10, w_11, w_12, w_13, w_14, w_15, w_16, w_17, w_18, w_19, w_20, w_21, w_22, w_23, w_24, w_25, w_26, w_27, w_28, w_29, w_30, w_31, w_32, w_33, w_34, w_35, w_36, w_37, w_38, w_39, w_40, w_41, w_42, w_43, w_44, w_45, w_46, w_47, w_48, w_49, w_50, w_51, w_52, w_53, w_54, w_55, w_56, w_57, w_58, w_59, w_60, w_61, w_62, w_63, w_64, w_65, w_66, w_67, w_68, w_69, w_70, w_71, w_72, w_73, w_74, w_75, w_76, w_77, w_78, w_79, w_80, w_81, w_82, w_83, w_84, w_85, w_86, w_87, w_88, w_89, w_90, w_91, w_92, w_93, w_94, w_95, w_96, w_97, w_98, w_99, w_100, w_101, w_102, w_103, w_104, w_105, w_106, w_107, w_108, w_109, w_110, w_111, w_112, w_113, w_114, w_115, w_116, w_117, w_118, w_119, w_120, w_121, w_122, w_123, w_124, w_125, w_126, w_127, w_128, w_129, w_130, w_131, w_132, w_133, w_134, w_135, w_136, w_137, w_138, w_139, w_140, w_141, w_142, w_143, w_144, w_145, w_146, w_147, w_148, w_149, w_150, w_151, w_152, w_153, w_154, w_155, w_156, w_157, w_158, w_159, w_160, w_161, w_162, w_163, w_164, w_165, w_166, w_167, w_168, w_169, w_170, w_171, w_172, w_173, w_174, w_175, w_176, w_177, w_178, w_179, w_180, w_181, w_182, w_183, w_184, w_185, w_186, w_187, w_188, w_189, w_190, w_191, w_192, w_193, w_194, w_195, w_196, w_197, w_198, w_199, w_200, w_201, w_202, w_203, w_204, w_205, w_206, w_207, w_208, ↓reduceIte, Bool.not_true, Bool.not_false, Bool.false_eq_true, Bool.true_eq_false, if_true, if_false, List.map_cons, List.map_nil, List.length_cons, List.length_nil, List.cons_append, List.nil_append, List.replicate, Nat.reduceAdd, Nat.reduceSub, and_self, (show w.length ≤ 100000 by omega), lc, w_195 (l := w.map fun c => [48 + kIx kp c]) (by rw [hf]; unfold codeL; rw [List.length_map]; omega), hf]
theorem word_in {kp : Pad} {w : List Nat} (h : wordB kp w = true) : 1 ≤ w.length ∧ w.length ≤ 8 ∧ ∀ c ∈ w, c ∈ kp.flatten := by
  unfold wordB at h
  simp only [Bool.and_eq_true, decide_eq_true_eq, List.all_eq_true] at h
  exact ⟨h.1, h.2.1, h.2.2⟩
theorem code_s {kp : Pad} (g : Good kp) {w : List Nat} (h : wordB kp w = true) : g_code [pD kp, .str w] = okR (.str (codeL kp w)) := by
  obtain ⟨h1, h2, h3⟩ := word_in h
  unfold g_code m_code
  simp only [w_0, w_1, w_2, w_3, w_4, w_5, w_6, w_7, w_8, w_9, w_10, w_11, w_12, w_13, w_14, w_15, w_16, w_17, w_18, w_19, w_20, w_21, w_22, w_23, w_24, w_25, w_26, w_27, w_28, w_29, w_30, w_31, w_32, w_33, w_34, w_35, w_36, w_37, w_38, w_39, w_40, w_41, w_42, w_43, w_44, w_45, w_46, w_47, w_48, w_49, w_50, w_51, w_52, w_53, w_54, w_55, w_56, w_57, w_58, w_59, w_60, w_61, w_62, w_63, w_64, w_65, w_66, w_67, w_68, w_69, w_70, w_71, w_72, w_73, w_74, w_75, w_76, w_77, w_78, w_79, w_80, w_81, w_82, w_83, w_84, w_85, w_86, w_87, w_88, w_89, w_90, w_91, w_92, w_93, w_94, w_95, w_96, w_97, w_98, w_99, w_100, w_101, w_102, w_103, w_104, w_105, w_106, w_107, w_108, w_109, w_110, w_111, w_112, w_113, w_114, w_115, w_116, w_117, w_118, w_119, w_120, w_121, w_122, w_123, w_124, w_125, w_126, w_127, w_128, w_129, w_130, w_131, w_132, w_133, w_134, w_135, w_136, w_137, w_138, w_139, w_140, w_141, w_142, w_143, w_144, w_145, w_146, w_147, w_148, w_149, w_150, w_151, w_152, w_153, w_154, w_155, w_156, w_157, w_158, w_159, w_160, w_161, w_162, w_163, w_164, w_165, w_166, w_167, w_168, w_169, w_170, w_171, w_172, w_173, w_174, w_175, w_176, w_177, w_178, w_179, w_180, w_181, w_182, w_183, w_184, w_185, w_186, w_187, w_188, w_189, w_190, w_191, w_192, w_193, w_194, w_195, w_196, w_197, w_198, w_199, w_200, w_201, w_202, w_203, w_204, w_205, w_206, w_207, w_208, ↓reduceIte, Bool.not_true, Bool.not_false, Bool.false_eq_true, Bool.true_eq_false, if_true, if_false, List.map_cons, List.map_nil, List.length_cons, List.length_nil, List.cons_append, List.nil_append, List.replicate, Nat.reduceAdd, Nat.reduceSub, and_self, check_word_ok g h, find_code_s g (by omega) h3]
/-- the place of a letter within its key -/
def kPos (kp : Pad) (c : Nat) : Nat := ((kp.getD (kIx kp c) []).findIdx? (fun z => z == c)).getD 0
theorem sindex_in {k : List Nat} {c : Nat} (h : c ∈ k) : ∃ j, k.findIdx? (fun z => z == c) = some j := by
  cases e : k.findIdx? (fun z => z == c) with
  | some j => exact ⟨j, rfl⟩
  | none =>
    have := List.findIdx?_eq_none_iff.mp e c h
    simp at this
theorem at_key {kp : Pad} {c : Nat} (h : c ∈ kp.flatten) : ∃ k, c ∈ k ∧ k ∈ kp ∧ atI (kp.map D.str) ((kIx kp c : Nat) : Int) = some (.str k) ∧ sindexD (.str k) (.str [c]) = some (.int (kPos kp c : Nat)) := by
  obtain ⟨k, h1, h2⟩ := kIx_mem h
  obtain ⟨j, hj⟩ := sindex_in h2
  refine ⟨k, h2, List.mem_of_getElem? h1, atI_of (j := kIx kp c) (by rw [List.getElem?_map, h1]; rfl) rfl, ?_⟩
  have e : kPos kp c = j := by
    unfold kPos
    rw [List.getD_eq_getElem?_getD, h1, Option.getD_some, hj, Option.getD_some]
  show nat? (k.findIdx? (fun z => z == c)) = _
  rw [hj, e]
  rfl
def pressL (kp : Pad) (w : List Nat) : List Int := w.map fun c => 1 + (kPos kp c : Int)
theorem find_presses_s {kp : Pad} (g : Good kp) {w : List Nat} (hl : w.length ≤ 1000) (hw : ∀ c ∈ w, c ∈ kp.flatten) : g_find_presses [pD kp, .str w] = okR (.int (pressL kp w).sum) := by
  have lc : lcGo (.one 2) mYes (mOp addD (mC (.int 1)) (mMt "str" (m1 sindexD) (mOp getD (mVar 0) (mCall g_find_key (mCons (mVar 0) (mCons (mVar 2) (mNil))))) (mCons (mVar 2) (mNil)))) [.sh (.tup (kp.map .str)), .sh (.str w), .un] (w.map fun c => .str [c]) = okR ((pressL kp w).map .int) := by
    unfold pressL
    rw [lcA (h := fun c => .int (1 + (kPos kp c : Int))) w fun c hc => ⟨_, rfl, ?_⟩, List.map_map]
    · rfl
    · have e2 : g_find_key [.tup (kp.map .str), .str [c]] = okR (.int (kIx kp c : Nat)) := find_key_s g.nd (hw c hc)
      obtain ⟨k, h1, h2, h3, h4⟩ := at_key (hw c hc)
      simp only [w_0, w_1, w_2, w_3, w_4, w_5, w_6, w_7, w_8, w_9, w_10, w_11, w_12, w_13, w_14, w_15, w_16, w_17, w_18, w_19, w_20, w_21, w_22, w_23, w_24, w_25, w_26, w_27, w_28, w_29, w_30, w_31, w_32, w_33, w_34, w_35, w_36, w_37, w_38, w_39, w_40, w_41, w_42, w_43, w_44, w_45, w_46, w_47, w_48, w_49, w_50, w_51, w_52, w_53, w_54, w_55, w_56, w_57, w_58, w_59, w_60, w_61, w_62, w_63, w_64, w_65, w_66, w_67, w_68, w_69, w_70, w_71, w_72, w_73, w_74, w_75, w_76, w_77, w_78, w_79, w_80, w_81, w_82, w_83, w_84, w_85, w_86, w_87, w_88, w_89, w_90, w_91, w_92, w_93, w_94, w_95, w_96, w_97, w_98, w_99, w_100, w_101, w_102, w_103, w_104, w_105, w_106, w_107, w_108, w_109, w_110, w_111, w_112, w_113, w_114, w_115, w_116, w_117, w_118, w_119, w_120, w_121, w_122, w_123, w_124, w_125, w_126, w_127, w_128, w_129, w_130, w_131, w_132, w_133, w_134, w_135, w_136, w_137, w_138, w_139, w_140, w_141, w_142, w_143, w_144, w_145, w_146, w_147, w_148, w_149, w_150, w_151, w_152, w_153, w_154, w_155, w_156, w_157, w_158, w_159, w_160, w_161, w_162, w_163, w_164, w_165, w_166, w_167, w_168, w_169, w_170, w_171, w_172, w_173, w_174, w_175, w_176, w_177, w_178, w_179, w_180, w_181, w_182, w_183, w_184, w_185, w_186, w_187, w_188, w_189, w_190, w_191, w_192, w_193, w_194, w_195, w_196, w_197, w_198, w_199, w_200, w_201, w_202, w_203, w_204, w_205, w_206, w_207, w_208, ↓reduceIte, Bool.not_true, Bool.not_false, Bool.false_eq_true, Bool.true_eq_false, if_true, if_false, List.map_cons, List.map_nil, List.length_cons, List.length_nil, List.cons_append, List.nil_append, List.replicate, Nat.reduceAdd, Nat.reduceSub, and_self, e2, h3, h4]
  unfold g_find_presses m_find_presses pD
  simp only [w_0, w_1, w_2, w_3, w_4, w_5, w_6, w_7, w_8, w_9, w_10, w_11, w_12, w_13, w_14, w_15, w_16, w_17, w_18, w_19, w_20, w_21, w_22, w_23, w_24, w_25, w_26, w_27, w_28, w_29, w_30, w_31, w_32, w_33, w_34, w_35, w_36, w_37, w_38, w_39, w_40, w_41, w_42, w_43, w_44, w_45, w_46, w_47, w_48, w_49, w_50, w_51, w_52, w_53, w_54, w_55, w_56, w_57, w_58, w_59, w_60, w_61, w_62, w_63, w_64, w_65, w_66, w_67, w_68, w_69, w_70, w_71, w_72, w_73, w_74, w_75, w_76, w_77, w_78, w_79, w_80, w_81, w_82, w_83, w_84, w_85, w_86, w_87, w_88, w_89, w_90, w_91, w_92, w_93, w_94, w_95, w_96, w_97, w_98, w_99, w_100, w_101, w_102, w_103, w_104, w_105, w_106, w_107, w_108, w_109, w_110, w_111, w_112, w_113, w_114, w_115, w_116, w_117, w_118, w_119, w_120, w_121, w_122, w_123, w_124, w_125, w_126, w_127, w_128, w_129, w_130, w_131, w_132, w_133, w_134, w_135, w_136, w_137, w_138, w_139, w_140, w_141, w_142, w_143, w_144, w_145, w_146, w_147, w_148, w_149, w_150, w_151, w_152, w_153, w_154, w_155, w_156, w_157, w_158, w_159, w_160, w_161, w_162, w_163, w_164, w_165, w_166, w_167, w_168, w_169, w_170, w_171, w_172, w_173, w_174, w_175, w_176, w_177, w_178, w_179, w_180, w_181, w_182, w_183, w_184, w_185, w_186, w_187, w_188, w_189, w_190, w_191, w_192, w_193, w_194, w_195, w_196, w_197, w_198, w_199, w_200, w_201, w_202, w_203, w_204, w_205, w_206, w_207, w_208, ↓reduceIte, Bool.not_true, Bool.not_false, Bool.false_eq_true, Bool.true_eq_false, if_true, if_false, List.map_cons, List.map_nil, List.length_cons, List.length_nil, List.cons_append, List.nil_append, List.replicate, Nat.reduceAdd, Nat.reduceSub, and_self, (show w.length ≤ 100000 by omega), lc]
theorem presses_s {kp : Pad} (g : Good kp) {w : List Nat} (h : wordB kp w = true) : g_presses [pD kp, .str w] = okR (.int (pressL kp w).sum) := by
  obtain ⟨h1, h2, h3⟩ := word_in h
  unfold g_presses m_presses
  simp only [w_0, w_1, w_2, w_3, w_4, w_5, w_6, w_7, w_8, w_9, w_10, w_11, w_12, w_13, w_14, w_15, w_16, w_17, w_18, w_19, w_20, w_21, w_22, w_23, w_24, w_25, w_26, w_27, w_28, w_29, w_30, w_31, w_32, w_33, w_34, w_35, w_36, w_37, w_38, w_39, w_40, w_41, w_42, w_43, w_44, w_45, w_46, w_47, w_48, w_49, w_50, w_51, w_52, w_53, w_54, w_55, w_56, w_57, w_58, w_59, w_60, w_61, w_62, w_63, w_64, w_65, w_66, w_67, w_68, w_69, w_70, w_71, w_72, w_73, w_74, w_75, w_76, w_77, w_78, w_79, w_80, w_81, w_82, w_83, w_84, w_85, w_86, w_87, w_88, w_89, w_90, w_91, w_92, w_93, w_94, w_95, w_96, w_97, w_98, w_99, w_100, w_101, w_102, w_103, w_104, w_105, w_106, w_107, w_108, w_109, w_110, w_111, w_112, w_113, w_114, w_115, w_116, w_117, w_118, w_119, w_120, w_121, w_122, w_123, w_124, w_125, w_126, w_127, w_128, w_129, w_130, w_131, w_132, w_133, w_134, w_135, w_136, w_137, w_138, w_139, w_140, w_141, w_142, w_143, w_144, w_145, w_146, w_147, w_148, w_149, w_150, w_151, w_152, w_153, w_154, w_155, w_156, w_157, w_158, w_159, w_160, w_161, w_162, w_163, w_164, w_165, w_166, w_167, w_168, w_169, w_170, w_171, w_172, w_173, w_174, w_175, w_176, w_177, w_178, w_179, w_180, w_181, w_182, w_183, w_184, w_185, w_186, w_187, w_188, w_189, w_190, w_191, w_192, w_193, w_194, w_195, w_196, w_197, w_198, w_199, w_200, w_201, w_202, w_203, w_204, w_205, w_206, w_207, w_208, ↓reduceIte, Bool.not_true, Bool.not_false, Bool.false_eq_true, Bool.true_eq_false, if_true, if_false, List.map_cons, List.map_nil, List.length_cons, List.length_nil, List.cons_append, List.nil_append, List.replicate, Nat.reduceAdd, Nat.reduceSub, and_self, check_word_ok g h, find_presses_s g (by omega) h3]
/-! _law_drawn -/
theorem e_mul_r {i j : Int} (h0 : 0 ≤ i) (h : i < 2147483648) : mulE (.int i) (.int j) = some (.int (i * j)) := w_162 (.inl (by omega))
theorem drawn_end {sc : Sl} {k m cell : Int} {x y : Sl} (hm : 0 < m) : ∃ r, (mSeq (mSet 3 (mSh (mOp modD (mOp addD (mOp mulE (mOp modD (mVar 3) (mC (.int 2147483563))) (mC (.int 69069))) (mOp mulE (mC (.int 104723)) (mOp addD (mVar 1) (mC (.int 1))))) (mC (.int 2147483563)))))
  (mSeq (mSet 3 (mSh (mOp modD (mOp addD (mOp mulE (mVar 3) (mVar 3)) (mOp fdivD (mVar 3) (mC (.int 3)))) (mC (.int 2147483399)))))
  (mRet (mOp modD (mOp fdivD (mOp modD (mOp addD (mOp mulE (mVar 3) (mVar 3)) (mOp fdivD (mVar 3) (mC (.int 7)))) (mC (.int 2147483647))) (mC (.int 11))) (mVar 2))))) [sc, .sh (.int k), .sh (.int m), .sh (.int cell), x, y] = okR (.rt (.int r)) ∧ 0 ≤ r ∧ r < m := by
  have hp : (0 : Int) < 2147483563 := by decide
  have hp2 : (0 : Int) < 2147483399 := by decide
  have hp3 : (0 : Int) < 2147483647 := by decide
  have d3 : (0 : Int) < 3 ∧ (3 : Int) < 2 ^ 100 := by decide
  have d7 : (0 : Int) < 7 ∧ (7 : Int) < 2 ^ 100 := by decide
  have d11 : (0 : Int) < 11 ∧ (11 : Int) < 2 ^ 100 := by decide
  have m1 : ∀ z : Int, mulE (.int (z % 2147483563)) (.int 69069) = some (.int (z % 2147483563 * 69069)) := fun z => w_162 (.inr (by decide))
  have m2 : ∀ z : Int, mulE (.int 104723) (.int z) = some (.int (104723 * z)) := fun z => w_162 (.inl (by decide))
  have m3 : ∀ z : Int, mulE (.int (z % 2147483563)) (.int (z % 2147483563)) = some (.int (z % 2147483563 * (z % 2147483563))) := fun z =>
    e_mul_r (Int.emod_nonneg _ (by decide)) (Int.lt_trans (Int.emod_lt_of_pos _ hp) (by decide))
  have m4 : ∀ z : Int, mulE (.int (z % 2147483399)) (.int (z % 2147483399)) = some (.int (z % 2147483399 * (z % 2147483399))) := fun z =>
    e_mul_r (Int.emod_nonneg _ (by decide)) (Int.lt_trans (Int.emod_lt_of_pos _ hp2) (by decide))
  refine ⟨_, by simp only [w_0, w_1, w_2, w_3, w_4, w_5, w_6, w_7, w_8, w_9, w_10, w_11, w_12, w_13, w_14, w_15, w_16, w_17, w_18, w_19, w_20, w_21, w_22, w_23, w_24, w_25, w_26, w_27, w_28, w_29, w_30, w_31, w_32, w_33, w_34, w_35, w_36, w_37, w_38, w_39, w_40, w_41, w_42, w_43, w_44, w_45, w_46, w_47, w_48, w_49, w_50, w_51, w_52, w_53, w_54, w_55, w_56, w_57, w_58, w_59, w_60, w_61, w_62, w_63, w_64, w_65, w_66, w_67, w_68, w_69, w_70, w_71, w_72, w_73, w_74, w_75, w_76, w_77, w_78, w_79, w_80, w_81, w_82, w_83, w_84, w_85, w_86, w_87, w_88, w_89, w_90, w_91, w_92, w_93, w_94, w_95, w_96, w_97, w_98, w_99, w_100, w_101, w_102, w_103, w_104, w_105, w_106, w_107, w_108, w_109, w_110, w_111, w_112, w_113, w_114, w_115, w_116, w_117, w_118, w_119, w_120, w_121, w_122, w_123, w_124, w_125, w_126, w_127, w_128, w_129, w_130, w_131, w_132, w_133, w_134, w_135, w_136, w_137, w_138, w_139, w_140, w_141, w_142, w_143, w_144, w_145, w_146, w_147, w_148, w_149, w_150, w_151, w_152, w_153, w_154, w_155, w_156, w_157, w_158, w_159, w_160, w_161, w_162, w_163, w_164, w_165, w_166, w_167, w_168, w_169, w_170, w_171, w_172, w_173, w_174, w_175, w_176, w_177, w_178, w_179, w_180, w_181, w_182, w_183, w_184, w_185, w_186, w_187, w_188, w_189, w_190, w_191, w_192, w_193, w_194, w_195, w_196, w_197, w_198, w_199, w_200, w_201, w_202, w_203, w_204, w_205, w_206, w_207, w_208, ↓reduceIte, Bool.not_true, Bool.not_false, Bool.false_eq_true, Bool.true_eq_false, if_true, if_false, List.map_cons, List.map_nil, List.length_cons, List.length_nil, List.cons_append, List.nil_append, List.replicate, Nat.reduceAdd, Nat.reduceSub, and_self, w_160 hp, w_160 hp2, w_160 hp3, w_160 hm, w_159 d3, w_159 d7, w_159 d11, m1, m2, m3, m4]; rfl, Int.emod_nonneg _ (by omega), Int.emod_lt_of_pos _ hm⟩
/-- the inner loop -/
theorem drawn_while {sc k m cell : Sl} : ∀ (n : Nat) (t r : Int), 0 ≤ t → t < n → ∃ t' r' : Int, whileGo (mAndB (mBl (mOp gtD (mVar 5) (mC (.int 0)))) (mBl (mOp gtD (mVar 4) (mC (.int 0))))) (mSeq (mSet 5 (mSh (mOp fdivD (mVar 5) (mC (.int 1000000)))))
  (mSet 4 (mSh (mOp subD (mVar 4) (mC (.int 1)))))) n [sc, k, m, cell, .sh (.int t), .sh (.int r)] = okR (.nx [sc, k, m, cell, .sh (.int t'), .sh (.int r')])
  | 0, t, r, h0, h1 => by omega
  | n + 1, t, r, h0, h1 => by
    have dd : (0 : Int) < 1000000 ∧ (1000000 : Int) < 2 ^ 100 := by decide
    unfold whileGo
    by_cases c1 : 0 < r
    · by_cases c2 : 0 < t
      · obtain ⟨t', r', h⟩ := drawn_while n (t - 1) (r / 1000000) (by omega) (by omega)
        refine ⟨t', r', ?_⟩
        simp only [w_0, w_1, w_2, w_3, w_4, w_5, w_6, w_7, w_8, w_9, w_10, w_11, w_12, w_13, w_14, w_15, w_16, w_17, w_18, w_19, w_20, w_21, w_22, w_23, w_24, w_25, w_26, w_27, w_28, w_29, w_30, w_31, w_32, w_33, w_34, w_35, w_36, w_37, w_38, w_39, w_40, w_41, w_42, w_43, w_44, w_45, w_46, w_47, w_48, w_49, w_50, w_51, w_52, w_53, w_54, w_55, w_56, w_57, w_58, w_59, w_60, w_61, w_62, w_63, w_64, w_65, w_66, w_67, w_68, w_69, w_70, w_71, w_72, w_73, w_74, w_75, w_76, w_77, w_78, w_79, w_80, w_81, w_82, w_83, w_84, w_85, w_86, w_87, w_88, w_89, w_90, w_91, w_92, w_93, w_94, w_95, w_96, w_97, w_98, w_99, w_100, w_101, w_102, w_103, w_104, w_105, w_106, w_107, w_108, w_109, w_110, w_111, w_112, w_113, w_114, w_115, w_116, w_117, w_118, w_119, w_120, w_121, w_122, w_123, w_124, w_125, w_126, w_127, w_128, w_129, w_130, w_131, w_132, w_133, w_134, w_135, w_136, w_137, w_138, w_139, w_140, w_141, w_142, w_143, w_144, w_145, w_146, w_147, w_148, w_149, w_150, w_151, w_152, w_153, w_154, w_155, w_156, w_157, w_158, w_159, w_160, w_161, w_162, w_163, w_164, w_165, w_166, w_167, w_168, w_169, w_170, w_171, w_172, w_173, w_174, w_175, w_176, w_177, w_178, w_179, w_180, w_181, w_182, w_183, w_184, w_185, w_186, w_187, w_188, w_189, w_190, w_191, w_192, w_193, w_194, w_195, w_196, w_197, w_198, w_199, w_200, w_201, w_202, w_203, w_204, w_205, w_206, w_207, w_208, ↓reduceIte, Bool.not_true, Bool.not_false, Bool.false_eq_true, Bool.true_eq_false, if_true, if_false, List.map_cons, List.map_nil, List.length_cons, List.length_nil, List.cons_append, List.nil_append, List.replicate, Nat.reduceAdd, Nat.reduceSub, and_self, c1, c2, decide_true, w_159 dd]
        exact h
      · refine ⟨t, r, ?_⟩
        simp only [w_0, w_1, w_2, w_3, w_4, w_5, w_6, w_7, w_8, w_9, w_10, w_11, w_12, w_13, w_14, w_15, w_16, w_17, w_18, w_19, w_20, w_21, w_22, w_23, w_24, w_25, w_26, w_27, w_28, w_29, w_30, w_31, w_32, w_33, w_34, w_35, w_36, w_37, w_38, w_39, w_40, w_41, w_42, w_43, w_44, w_45, w_46, w_47, w_48, w_49, w_50, w_51, w_52, w_53, w_54, w_55, w_56, w_57, w_58, w_59, w_60, w_61, w_62, w_63, w_64, w_65, w_66, w_67, w_68, w_69, w_70, w_71, w_72, w_73, w_74, w_75, w_76, w_77, w_78, w_79, w_80, w_81, w_82, w_83, w_84, w_85, w_86, w_87, w_88, w_89, w_90, w_91, w_92, w_93, w_94, w_95, w_96, w_97, w_98, w_99, w_100, w_101, w_102, w_103, w_104, w_105, w_106, w_107, w_108, w_109, w_110, w_111, w_112, w_113, w_114, w_115, w_116, w_117, w_118, w_119, w_120, w_121, w_122, w_123, w_124, w_125, w_126, w_127, w_128, w_129, w_130, w_131, w_132, w_133, w_134, w_135, w_136, w_137, w_138, w_139, w_140, w_141, w_142, w_143, w_144, w_145, w_146, w_147, w_148, w_149, w_150, w_151, w_152, w_153, w_154, w_155, w_156, w_157, w_158, w_159, w_160, w_161, w_162, w_163, w_164, w_165, w_166, w_167, w_168, w_169, w_170, w_171, w_172, w_173, w_174, w_175, w_176, w_177, w_178, w_179, w_180, w_181, w_182, w_183, w_184, w_185, w_186, w_187, w_188, w_189, w_190, w_191, w_192, w_193, w_194, w_195, w_196, w_197, w_198, w_199, w_200, w_201, w_202, w_203, w_204, w_205, w_206, w_207, w_208, ↓reduceIte, Bool.not_true, Bool.not_false, Bool.false_eq_true, Bool.true_eq_false, if_true, if_false, List.map_cons, List.map_nil, List.length_cons, List.length_nil, List.cons_append, List.nil_append, List.replicate, Nat.reduceAdd, Nat.reduceSub, and_self, c1, c2, decide_true, decide_false]
    · refine ⟨t, r, ?_⟩
      simp only [w_0, w_1, w_2, w_3, w_4, w_5, w_6, w_7, w_8, w_9, w_10, w_11, w_12, w_13, w_14, w_15, w_16, w_17, w_18, w_19, w_20, w_21, w_22, w_23, w_24, w_25, w_26, w_27, w_28, w_29, w_30, w_31, w_32, w_33, w_34, w_35, w_36, w_37, w_38, w_39, w_40, w_41, w_42, w_43, w_44, w_45, w_46, w_47, w_48, w_49, w_50, w_51, w_52, w_53, w_54, w_55, w_56, w_57, w_58, w_59, w_60, w_61, w_62, w_63, w_64, w_65, w_66, w_67, w_68, w_69, w_70, w_71, w_72, w_73, w_74, w_75, w_76, w_77, w_78, w_79, w_80, w_81, w_82, w_83, w_84, w_85, w_86, w_87, w_88, w_89, w_90, w_91, w_92, w_93, w_94, w_95, w_96, w_97, w_98, w_99, w_100, w_101, w_102, w_103, w_104, w_105, w_106, w_107, w_108, w_109, w_110, w_111, w_112, w_113, w_114, w_115, w_116, w_117, w_118, w_119, w_120, w_121, w_122, w_123, w_124, w_125, w_126, w_127, w_128, w_129, w_130, w_131, w_132, w_133, w_134, w_135, w_136, w_137, w_138, w_139, w_140, w_141, w_142, w_143, w_144, w_145, w_146, w_147, w_148, w_149, w_150, w_151, w_152, w_153, w_154, w_155, w_156, w_157, w_158, w_159, w_160, w_161, w_162, w_163, w_164, w_165, w_166, w_167, w_168, w_169, w_170, w_171, w_172, w_173, w_174, w_175, w_176, w_177, w_178, w_179, w_180, w_181, w_182, w_183, w_184, w_185, w_186, w_187, w_188, w_189, w_190, w_191, w_192, w_193, w_194, w_195, w_196, w_197, w_198, w_199, w_200, w_201, w_202, w_203, w_204, w_205, w_206, w_207, w_208, ↓reduceIte, Bool.not_true, Bool.not_false, Bool.false_eq_true, Bool.true_eq_false, if_true, if_false, List.map_cons, List.map_nil, List.length_cons, List.length_nil, List.cons_append, List.nil_append, List.replicate, Nat.reduceAdd, Nat.reduceSub, and_self, c1, decide_false]
theorem drawn_ok (ns : List Int) (hns : ns.length ≤ 63) {k m : Int} (hk : 0 ≤ k) (hm : 0 < m) : ∃ r, g__law_drawn [.scr ns, .int k, .int m] = okR (.int r) ∧ 0 ≤ r ∧ r < m := by
  have m7 : mulE (.int 7) (.int k) = some (.int (7 * k)) := w_162 (.inl (by decide))
  have m65 : ∀ z : Int, mulE (.int 6553) (.int z) = some (.int (6553 * z)) := fun z => w_162 (.inl (by decide))
  suffices H : ∃ r, m__law_drawn [.sh (.scr ns), .sh (.int k), .sh (.int m), .un, .un, .un] = okR (.rt (.int r)) ∧ 0 ≤ r ∧ r < m by
    obtain ⟨r, h1, h2, h3⟩ := H
    exact ⟨r, run_ret h1, h2, h3⟩
  unfold m__law_drawn
  rw [seq_step (st' := [.sh (.scr ns), .sh (.int k), .sh (.int m), .sh (.int (7 * k)), .un, .un]) (by simp only [w_0, w_1, w_2, w_3, w_4, w_5, w_6, w_7, w_8, w_9, w_10, w_11, w_12, w_13, w_14, w_15, w_16, w_17, w_18, w_19, w_20, w_21, w_22, w_23, w_24, w_25, w_26, w_27, w_28, w_29, w_30, w_31, w_32, w_33, w_34, w_35, w_36, w_37, w_38, w_39, w_40, w_41, w_42, w_43, w_44, w_45, w_46, w_47, w_48, w_49, w_50, w_51, w_52, w_53, w_54, w_55, w_56, w_57, w_58, w_59, w_60, w_61, w_62, w_63, w_64, w_65, w_66, w_67, w_68, w_69, w_70, w_71, w_72, w_73, w_74, w_75, w_76, w_77, w_78, w_79, w_80, w_81, w_82, w_83, w_84, w_85, w_86, w_87, w_88, w_89, w_90, w_91, w_92, w_93, w_94, w_95, w_96, w_97, w_98, w_99, w_100, w_101, w_102, w_103, w_104, w_105, w_106, w_107, w_108, w_109, w_110, w_111, w_112, w_113, w_114, w_115, w_116, w_117, w_118, w_119, w_120, w_121, w_122, w_123, w_124, w_125, w_126, w_127, w_128, w_129, w_130, w_131, w_132, w_133, w_134, w_135, w_136, w_137, w_138, w_139, w_140, w_141, w_142, w_143, w_144, w_145, w_146, w_147, w_148, w_149, w_150, w_151, w_152, w_153, w_154, w_155, w_156, w_157, w_158, w_159, w_160, w_161, w_162, w_163, w_164, w_165, w_166, w_167, w_168, w_169, w_170, w_171, w_172, w_173, w_174, w_175, w_176, w_177, w_178, w_179, w_180, w_181, w_182, w_183, w_184, w_185, w_186, w_187, w_188, w_189, w_190, w_191, w_192, w_193, w_194, w_195, w_196, w_197, w_198, w_199, w_200, w_201, w_202, w_203, w_204, w_205, w_206, w_207, w_208, ↓reduceIte, Bool.not_true, Bool.not_false, Bool.false_eq_true, Bool.true_eq_false, if_true, if_false, List.map_cons, List.map_nil, List.length_cons, List.length_nil, List.cons_append, List.nil_append, List.replicate, Nat.reduceAdd, Nat.reduceSub, and_self, m7])]
  cases ns with
  | nil =>
    rw [seq_step (st' := [.sh (.scr []), .sh (.int k), .sh (.int m), .sh (.int (7 * k)), .un, .un]) (by simp only [w_0, w_1, w_2, w_3, w_4, w_5, w_6, w_7, w_8, w_9, w_10, w_11, w_12, w_13, w_14, w_15, w_16, w_17, w_18, w_19, w_20, w_21, w_22, w_23, w_24, w_25, w_26, w_27, w_28, w_29, w_30, w_31, w_32, w_33, w_34, w_35, w_36, w_37, w_38, w_39, w_40, w_41, w_42, w_43, w_44, w_45, w_46, w_47, w_48, w_49, w_50, w_51, w_52, w_53, w_54, w_55, w_56, w_57, w_58, w_59, w_60, w_61, w_62, w_63, w_64, w_65, w_66, w_67, w_68, w_69, w_70, w_71, w_72, w_73, w_74, w_75, w_76, w_77, w_78, w_79, w_80, w_81, w_82, w_83, w_84, w_85, w_86, w_87, w_88, w_89, w_90, w_91, w_92, w_93, w_94, w_95, w_96, w_97, w_98, w_99, w_100, w_101, w_102, w_103, w_104, w_105, w_106, w_107, w_108, w_109, w_110, w_111, w_112, w_113, w_114, w_115, w_116, w_117, w_118, w_119, w_120, w_121, w_122, w_123, w_124, w_125, w_126, w_127, w_128, w_129, w_130, w_131, w_132, w_133, w_134, w_135, w_136, w_137, w_138, w_139, w_140, w_141, w_142, w_143, w_144, w_145, w_146, w_147, w_148, w_149, w_150, w_151, w_152, w_153, w_154, w_155, w_156, w_157, w_158, w_159, w_160, w_161, w_162, w_163, w_164, w_165, w_166, w_167, w_168, w_169, w_170, w_171, w_172, w_173, w_174, w_175, w_176, w_177, w_178, w_179, w_180, w_181, w_182, w_183, w_184, w_185, w_186, w_187, w_188, w_189, w_190, w_191, w_192, w_193, w_194, w_195, w_196, w_197, w_198, w_199, w_200, w_201, w_202, w_203, w_204, w_205, w_206, w_207, w_208, ↓reduceIte, Bool.not_true, Bool.not_false, Bool.false_eq_true, Bool.true_eq_false, if_true, if_false, List.map_cons, List.map_nil, List.length_cons, List.length_nil, List.cons_append, List.nil_append, List.replicate, Nat.reduceAdd, Nat.reduceSub, and_self, List.isEmpty_nil])]
    exact drawn_end hm
  | cons z zs =>
    have hl1 : (0 : Int) < ((z :: zs).length : Nat) := by rw [List.length_cons]; omega
    have hl2 : (((z :: zs).length : Nat) : Int) < 2 ^ 100 := Int.lt_of_le_of_lt (by omega : (((z :: zs).length : Nat) : Int) ≤ 63) (by decide)
    generalize hL : ((z :: zs).length : Nat) = L at hl1 hl2 hns
    have eL : lenD (.scr (z :: zs)) = some (.int (L : Nat)) := by rw [w_141, hL]
    obtain ⟨cell, hc, _⟩ := atI_lt (l := z :: zs) (i := k % (L : Int)) (Int.emod_nonneg _ (by omega)) (by rw [hL]; exact Int.emod_lt_of_pos _ hl1)
    have hd : fdivD (.int k) (.int (L : Nat)) = some (.int (k / (L : Nat))) := w_159 ⟨hl1, hl2⟩
    have hmo : modD (.int k) (.int (L : Nat)) = some (.int (k % (L : Nat))) := w_160 hl1
    have hq : 0 ≤ k / (L : Int) := Int.ediv_nonneg hk (by omega)
    have p18 : powD (.int 10) (.int 18) = some (.int 1000000000000000000) := by
      rw [w_161 (by decide)]; rfl
    have d18 : (0 : Int) < 1000000000000000000 ∧ (1000000000000000000 : Int) < 2 ^ 100 := by decide
    have hp6 : (0 : Int) < 1000000 := by decide
    rw [w_89, w_86]
    rw [show (mBl (mOp (eqD true) (mVar 0) (mLst mNil))) [.sh (.scr (z :: zs)), .sh (.int k), .sh (.int m), .sh (.int (7 * k)), .un, .un] = okR true by simp only [w_0, w_1, w_2, w_3, w_4, w_5, w_6, w_7, w_8, w_9, w_10, w_11, w_12, w_13, w_14, w_15, w_16, w_17, w_18, w_19, w_20, w_21, w_22, w_23, w_24, w_25, w_26, w_27, w_28, w_29, w_30, w_31, w_32, w_33, w_34, w_35, w_36, w_37, w_38, w_39, w_40, w_41, w_42, w_43, w_44, w_45, w_46, w_47, w_48, w_49, w_50, w_51, w_52, w_53, w_54, w_55, w_56, w_57, w_58, w_59, w_60, w_61, w_62, w_63, w_64, w_65, w_66, w_67, w_68, w_69, w_70, w_71, w_72, w_73, w_74, w_75, w_76, w_77, w_78, w_79, w_80, w_81, w_82, w_83, w_84, w_85, w_86, w_87, w_88, w_89, w_90, w_91, w_92, w_93, w_94, w_95, w_96, w_97, w_98, w_99, w_100, w_101, w_102, w_103, w_104, w_105, w_106, w_107, w_108, w_109, w_110, w_111, w_112, w_113, w_114, w_115, w_116, w_117, w_118, w_119, w_120, w_121, w_122, w_123, w_124, w_125, w_126, w_127, w_128, w_129, w_130, w_131, w_132, w_133, w_134, w_135, w_136, w_137, w_138, w_139, w_140, w_141, w_142, w_143, w_144, w_145, w_146, w_147, w_148, w_149, w_150, w_151, w_152, w_153, w_154, w_155, w_156, w_157, w_158, w_159, w_160, w_161, w_162, w_163, w_164, w_165, w_166, w_167, w_168, w_169, w_170, w_171, w_172, w_173, w_174, w_175, w_176, w_177, w_178, w_179, w_180, w_181, w_182, w_183, w_184, w_185, w_186, w_187, w_188, w_189, w_190, w_191, w_192, w_193, w_194, w_195, w_196, w_197, w_198, w_199, w_200, w_201, w_202, w_203, w_204, w_205, w_206, w_207, w_208, ↓reduceIte, Bool.not_true, Bool.not_false, Bool.false_eq_true, Bool.true_eq_false, if_true, if_false, List.map_cons, List.map_nil, List.length_cons, List.length_nil, List.cons_append, List.nil_append, List.replicate, Nat.reduceAdd, Nat.reduceSub, and_self, List.isEmpty_cons]]
    rw [bnd_okR, w_84]
    rw [seq_step (st' := [.sh (.scr (z :: zs)), .sh (.int k), .sh (.int m), .sh (.int cell), .un, .un]) (by simp only [w_0, w_1, w_2, w_3, w_4, w_5, w_6, w_7, w_8, w_9, w_10, w_11, w_12, w_13, w_14, w_15, w_16, w_17, w_18, w_19, w_20, w_21, w_22, w_23, w_24, w_25, w_26, w_27, w_28, w_29, w_30, w_31, w_32, w_33, w_34, w_35, w_36, w_37, w_38, w_39, w_40, w_41, w_42, w_43, w_44, w_45, w_46, w_47, w_48, w_49, w_50, w_51, w_52, w_53, w_54, w_55, w_56, w_57, w_58, w_59, w_60, w_61, w_62, w_63, w_64, w_65, w_66, w_67, w_68, w_69, w_70, w_71, w_72, w_73, w_74, w_75, w_76, w_77, w_78, w_79, w_80, w_81, w_82, w_83, w_84, w_85, w_86, w_87, w_88, w_89, w_90, w_91, w_92, w_93, w_94, w_95, w_96, w_97, w_98, w_99, w_100, w_101, w_102, w_103, w_104, w_105, w_106, w_107, w_108, w_109, w_110, w_111, w_112, w_113, w_114, w_115, w_116, w_117, w_118, w_119, w_120, w_121, w_122, w_123, w_124, w_125, w_126, w_127, w_128, w_129, w_130, w_131, w_132, w_133, w_134, w_135, w_136, w_137, w_138, w_139, w_140, w_141, w_142, w_143, w_144, w_145, w_146, w_147, w_148, w_149, w_150, w_151, w_152, w_153, w_154, w_155, w_156, w_157, w_158, w_159, w_160, w_161, w_162, w_163, w_164, w_165, w_166, w_167, w_168, w_169, w_170, w_171, w_172, w_173, w_174, w_175, w_176, w_177, w_178, w_179, w_180, w_181, w_182, w_183, w_184, w_185, w_186, w_187, w_188, w_189, w_190, w_191, w_192, w_193, w_194, w_195, w_196, w_197, w_198, w_199, w_200, w_201, w_202, w_203, w_204, w_205, w_206, w_207, w_208, ↓reduceIte, Bool.not_true, Bool.not_false, Bool.false_eq_true, Bool.true_eq_false, if_true, if_false, List.map_cons, List.map_nil, List.length_cons, List.length_nil, List.cons_append, List.nil_append, List.replicate, Nat.reduceAdd, Nat.reduceSub, and_self, eL, hmo, hc, Option.map, -w_141, -List.length_cons])]
    rw [seq_step (st' := [.sh (.scr (z :: zs)), .sh (.int k), .sh (.int m), .sh (.int cell), .sh (.int (k / (L : Nat))), .un]) (by simp only [w_0, w_1, w_2, w_3, w_4, w_5, w_6, w_7, w_8, w_9, w_10, w_11, w_12, w_13, w_14, w_15, w_16, w_17, w_18, w_19, w_20, w_21, w_22, w_23, w_24, w_25, w_26, w_27, w_28, w_29, w_30, w_31, w_32, w_33, w_34, w_35, w_36, w_37, w_38, w_39, w_40, w_41, w_42, w_43, w_44, w_45, w_46, w_47, w_48, w_49, w_50, w_51, w_52, w_53, w_54, w_55, w_56, w_57, w_58, w_59, w_60, w_61, w_62, w_63, w_64, w_65, w_66, w_67, w_68, w_69, w_70, w_71, w_72, w_73, w_74, w_75, w_76, w_77, w_78, w_79, w_80, w_81, w_82, w_83, w_84, w_85, w_86, w_87, w_88, w_89, w_90, w_91, w_92, w_93, w_94, w_95, w_96, w_97, w_98, w_99, w_100, w_101, w_102, w_103, w_104, w_105, w_106, w_107, w_108, w_109, w_110, w_111, w_112, w_113, w_114, w_115, w_116, w_117, w_118, w_119, w_120, w_121, w_122, w_123, w_124, w_125, w_126, w_127, w_128, w_129, w_130, w_131, w_132, w_133, w_134, w_135, w_136, w_137, w_138, w_139, w_140, w_141, w_142, w_143, w_144, w_145, w_146, w_147, w_148, w_149, w_150, w_151, w_152, w_153, w_154, w_155, w_156, w_157, w_158, w_159, w_160, w_161, w_162, w_163, w_164, w_165, w_166, w_167, w_168, w_169, w_170, w_171, w_172, w_173, w_174, w_175, w_176, w_177, w_178, w_179, w_180, w_181, w_182, w_183, w_184, w_185, w_186, w_187, w_188, w_189, w_190, w_191, w_192, w_193, w_194, w_195, w_196, w_197, w_198, w_199, w_200, w_201, w_202, w_203, w_204, w_205, w_206, w_207, w_208, ↓reduceIte, Bool.not_true, Bool.not_false, Bool.false_eq_true, Bool.true_eq_false, if_true, if_false, List.map_cons, List.map_nil, List.length_cons, List.length_nil, List.cons_append, List.nil_append, List.replicate, Nat.reduceAdd, Nat.reduceSub, and_self, eL, hd, -w_141, -List.length_cons])]
    have fin : ∀ x y : Sl, ∃ r, ((mSet 3 (mSh (mOp addD (mVar 3) (mOp mulE (mC (.int 6553)) (mOp fdivD (mVar 1) (mCB (arg1 lenD) (mCons (mVar 0) (mNil)))))))) [.sh (.scr (z :: zs)), .sh (.int k), .sh (.int m), .sh (.int cell), x, y]).bnd (sqB (mSeq (mSet 3 (mSh (mOp modD (mOp addD (mOp mulE (mOp modD (mVar 3) (mC (.int 2147483563))) (mC (.int 69069))) (mOp mulE (mC (.int 104723)) (mOp addD (mVar 1) (mC (.int 1))))) (mC (.int 2147483563)))))
  (mSeq (mSet 3 (mSh (mOp modD (mOp addD (mOp mulE (mVar 3) (mVar 3)) (mOp fdivD (mVar 3) (mC (.int 3)))) (mC (.int 2147483399)))))
  (mRet (mOp modD (mOp fdivD (mOp modD (mOp addD (mOp mulE (mVar 3) (mVar 3)) (mOp fdivD (mVar 3) (mC (.int 7)))) (mC (.int 2147483647))) (mC (.int 11))) (mVar 2)))))) = okR (.rt (.int r)) ∧ 0 ≤ r ∧ r < m := fun x y => by
      rw [show (mSet 3 (mSh (mOp addD (mVar 3) (mOp mulE (mC (.int 6553)) (mOp fdivD (mVar 1) (mCB (arg1 lenD) (mCons (mVar 0) (mNil)))))))) [.sh (.scr (z :: zs)), .sh (.int k), .sh (.int m), .sh (.int cell), x, y] = okR (.nx [.sh (.scr (z :: zs)), .sh (.int k), .sh (.int m), .sh (.int (cell + 6553 * (k / (L : Nat)))), x, y]) by simp only [w_0, w_1, w_2, w_3, w_4, w_5, w_6, w_7, w_8, w_9, w_10, w_11, w_12, w_13, w_14, w_15, w_16, w_17, w_18, w_19, w_20, w_21, w_22, w_23, w_24, w_25, w_26, w_27, w_28, w_29, w_30, w_31, w_32, w_33, w_34, w_35, w_36, w_37, w_38, w_39, w_40, w_41, w_42, w_43, w_44, w_45, w_46, w_47, w_48, w_49, w_50, w_51, w_52, w_53, w_54, w_55, w_56, w_57, w_58, w_59, w_60, w_61, w_62, w_63, w_64, w_65, w_66, w_67, w_68, w_69, w_70, w_71, w_72, w_73, w_74, w_75, w_76, w_77, w_78, w_79, w_80, w_81, w_82, w_83, w_84, w_85, w_86, w_87, w_88, w_89, w_90, w_91, w_92, w_93, w_94, w_95, w_96, w_97, w_98, w_99, w_100, w_101, w_102, w_103, w_104, w_105, w_106, w_107, w_108, w_109, w_110, w_111, w_112, w_113, w_114, w_115, w_116, w_117, w_118, w_119, w_120, w_121, w_122, w_123, w_124, w_125, w_126, w_127, w_128, w_129, w_130, w_131, w_132, w_133, w_134, w_135, w_136, w_137, w_138, w_139, w_140, w_141, w_142, w_143, w_144, w_145, w_146, w_147, w_148, w_149, w_150, w_151, w_152, w_153, w_154, w_155, w_156, w_157, w_158, w_159, w_160, w_161, w_162, w_163, w_164, w_165, w_166, w_167, w_168, w_169, w_170, w_171, w_172, w_173, w_174, w_175, w_176, w_177, w_178, w_179, w_180, w_181, w_182, w_183, w_184, w_185, w_186, w_187, w_188, w_189, w_190, w_191, w_192, w_193, w_194, w_195, w_196, w_197, w_198, w_199, w_200, w_201, w_202, w_203, w_204, w_205, w_206, w_207, w_208, ↓reduceIte, Bool.not_true, Bool.not_false, Bool.false_eq_true, Bool.true_eq_false, if_true, if_false, List.map_cons, List.map_nil, List.length_cons, List.length_nil, List.cons_append, List.nil_append, List.replicate, Nat.reduceAdd, Nat.reduceSub, and_self, eL, hd, m65, -w_141, -List.length_cons]]
      exact drawn_end hm
    by_cases c1 : (1000000000000000000 : Int) ≤ cell
    · by_cases c2 : k / (L : Int) < 60
      · obtain ⟨t', r', hw⟩ := drawn_while (sc := .sh (.scr (z :: zs))) (k := .sh (.int k)) (m := .sh (.int m)) (cell := .sh (.int cell)) 200 (k / (L : Int)) (cell / 1000000000000000000) hq (by omega)
        rw [w_89, w_86]
        rw [show (mAndB (mBl (mOp geD (mVar 3) (mOp powD (mC (.int 10)) (mC (.int 18))))) (mBl (mOp ltD (mVar 4) (mC (.int 60))))) [.sh (.scr (z :: zs)), .sh (.int k), .sh (.int m), .sh (.int cell), .sh (.int (k / (L : Nat))), .un] = okR true by simp only [w_0, w_1, w_2, w_3, w_4, w_5, w_6, w_7, w_8, w_9, w_10, w_11, w_12, w_13, w_14, w_15, w_16, w_17, w_18, w_19, w_20, w_21, w_22, w_23, w_24, w_25, w_26, w_27, w_28, w_29, w_30, w_31, w_32, w_33, w_34, w_35, w_36, w_37, w_38, w_39, w_40, w_41, w_42, w_43, w_44, w_45, w_46, w_47, w_48, w_49, w_50, w_51, w_52, w_53, w_54, w_55, w_56, w_57, w_58, w_59, w_60, w_61, w_62, w_63, w_64, w_65, w_66, w_67, w_68, w_69, w_70, w_71, w_72, w_73, w_74, w_75, w_76, w_77, w_78, w_79, w_80, w_81, w_82, w_83, w_84, w_85, w_86, w_87, w_88, w_89, w_90, w_91, w_92, w_93, w_94, w_95, w_96, w_97, w_98, w_99, w_100, w_101, w_102, w_103, w_104, w_105, w_106, w_107, w_108, w_109, w_110, w_111, w_112, w_113, w_114, w_115, w_116, w_117, w_118, w_119, w_120, w_121, w_122, w_123, w_124, w_125, w_126, w_127, w_128, w_129, w_130, w_131, w_132, w_133, w_134, w_135, w_136, w_137, w_138, w_139, w_140, w_141, w_142, w_143, w_144, w_145, w_146, w_147, w_148, w_149, w_150, w_151, w_152, w_153, w_154, w_155, w_156, w_157, w_158, w_159, w_160, w_161, w_162, w_163, w_164, w_165, w_166, w_167, w_168, w_169, w_170, w_171, w_172, w_173, w_174, w_175, w_176, w_177, w_178, w_179, w_180, w_181, w_182, w_183, w_184, w_185, w_186, w_187, w_188, w_189, w_190, w_191, w_192, w_193, w_194, w_195, w_196, w_197, w_198, w_199, w_200, w_201, w_202, w_203, w_204, w_205, w_206, w_207, w_208, ↓reduceIte, Bool.not_true, Bool.not_false, Bool.false_eq_true, Bool.true_eq_false, if_true, if_false, List.map_cons, List.map_nil, List.length_cons, List.length_nil, List.cons_append, List.nil_append, List.replicate, Nat.reduceAdd, Nat.reduceSub, and_self, p18, c1, c2, decide_true]]
        rw [bnd_okR, w_84]
        rw [seq_step (st' := [.sh (.scr (z :: zs)), .sh (.int k), .sh (.int m), .sh (.int cell), .sh (.int (k / (L : Nat))), .sh (.int (cell / 1000000000000000000))]) (by simp only [w_0, w_1, w_2, w_3, w_4, w_5, w_6, w_7, w_8, w_9, w_10, w_11, w_12, w_13, w_14, w_15, w_16, w_17, w_18, w_19, w_20, w_21, w_22, w_23, w_24, w_25, w_26, w_27, w_28, w_29, w_30, w_31, w_32, w_33, w_34, w_35, w_36, w_37, w_38, w_39, w_40, w_41, w_42, w_43, w_44, w_45, w_46, w_47, w_48, w_49, w_50, w_51, w_52, w_53, w_54, w_55, w_56, w_57, w_58, w_59, w_60, w_61, w_62, w_63, w_64, w_65, w_66, w_67, w_68, w_69, w_70, w_71, w_72, w_73, w_74, w_75, w_76, w_77, w_78, w_79, w_80, w_81, w_82, w_83, w_84, w_85, w_86, w_87, w_88, w_89, w_90, w_91, w_92, w_93, w_94, w_95, w_96, w_97, w_98, w_99, w_100, w_101, w_102, w_103, w_104, w_105, w_106, w_107, w_108, w_109, w_110, w_111, w_112, w_113, w_114, w_115, w_116, w_117, w_118, w_119, w_120, w_121, w_122, w_123, w_124, w_125, w_126, w_127, w_128, w_129, w_130, w_131, w_132, w_133, w_134, w_135, w_136, w_137, w_138, w_139, w_140, w_141, w_142, w_143, w_144, w_145, w_146, w_147, w_148, w_149, w_150, w_151, w_152, w_153, w_154, w_155, w_156, w_157, w_158, w_159, w_160, w_161, w_162, w_163, w_164, w_165, w_166, w_167, w_168, w_169, w_170, w_171, w_172, w_173, w_174, w_175, w_176, w_177, w_178, w_179, w_180, w_181, w_182, w_183, w_184, w_185, w_186, w_187, w_188, w_189, w_190, w_191, w_192, w_193, w_194, w_195, w_196, w_197, w_198, w_199, w_200, w_201, w_202, w_203, w_204, w_205, w_206, w_207, w_208, ↓reduceIte, Bool.not_true, Bool.not_false, Bool.false_eq_true, Bool.true_eq_false, if_true, if_false, List.map_cons, List.map_nil, List.length_cons, List.length_nil, List.cons_append, List.nil_append, List.replicate, Nat.reduceAdd, Nat.reduceSub, and_self, p18, w_159 d18])]
        rw [seq_step (by rw [w_106]; exact hw)]
        by_cases c3 : 0 < r'
        · refine ⟨r' % 1000000 % m, ?_, Int.emod_nonneg _ (by omega), Int.emod_lt_of_pos _ hm⟩
          simp only [w_0, w_1, w_2, w_3, w_4, w_5, w_6, w_7, w_8, w_9, w_10, w_11, w_12, w_13, w_14, w_15, w_16, w_17, w_18, w_19, w_20, w_21, w_22, w_23, w_24, w_25, w_26, w_27, w_28, w_29, w_30, w_31, w_32, w_33, w_34, w_35, w_36, w_37, w_38, w_39, w_40, w_41, w_42, w_43, w_44, w_45, w_46, w_47, w_48, w_49, w_50, w_51, w_52, w_53, w_54, w_55, w_56, w_57, w_58, w_59, w_60, w_61, w_62, w_63, w_64, w_65, w_66, w_67, w_68, w_69, w_70, w_71, w_72, w_73, w_74, w_75, w_76, w_77, w_78, w_79, w_80, w_81, w_82, w_83, w_84, w_85, w_86, w_87, w_88, w_89, w_90, w_91, w_92, w_93, w_94, w_95, w_96, w_97, w_98, w_99, w_100, w_101, w_102, w_103, w_104, w_105, w_106, w_107, w_108, w_109, w_110, w_111, w_112, w_113, w_114, w_115, w_116, w_117, w_118, w_119, w_120, w_121, w_122, w_123, w_124, w_125, w_126, w_127, w_128, w_129, w_130, w_131, w_132, w_133, w_134, w_135, w_136, w_137, w_138, w_139, w_140, w_141, w_142, w_143, w_144, w_145, w_146, w_147, w_148, w_149, w_150, w_151, w_152, w_153, w_154, w_155, w_156, w_157, w_158, w_159, w_160, w_161, w_162, w_163, w_164, w_165, w_166, w_167, w_168, w_169, w_170, w_171, w_172, w_173, w_174, w_175, w_176, w_177, w_178, w_179, w_180, w_181, w_182, w_183, w_184, w_185, w_186, w_187, w_188, w_189, w_190, w_191, w_192, w_193, w_194, w_195, w_196, w_197, w_198, w_199, w_200, w_201, w_202, w_203, w_204, w_205, w_206, w_207, w_208, ↓reduceIte, Bool.not_true, Bool.not_false, Bool.false_eq_true, Bool.true_eq_false, if_true, if_false, List.map_cons, List.map_nil, List.length_cons, List.length_nil, List.cons_append, List.nil_append, List.replicate, Nat.reduceAdd, Nat.reduceSub, and_self, c3, decide_true, w_160 hp6, w_160 hm]
        · rw [show (mIfS (mBl (mOp gtD (mVar 5) (mC (.int 0)))) (mRet (mOp modD (mOp modD (mVar 5) (mC (.int 1000000))) (mVar 2))) mNext) [.sh (.scr (z :: zs)), .sh (.int k), .sh (.int m), .sh (.int cell), .sh (.int t'), .sh (.int r')] = okR (.nx [.sh (.scr (z :: zs)), .sh (.int k), .sh (.int m), .sh (.int cell), .sh (.int t'), .sh (.int r')]) by simp only [w_0, w_1, w_2, w_3, w_4, w_5, w_6, w_7, w_8, w_9, w_10, w_11, w_12, w_13, w_14, w_15, w_16, w_17, w_18, w_19, w_20, w_21, w_22, w_23, w_24, w_25, w_26, w_27, w_28, w_29, w_30, w_31, w_32, w_33, w_34, w_35, w_36, w_37, w_38, w_39, w_40, w_41, w_42, w_43, w_44, w_45, w_46, w_47, w_48, w_49, w_50, w_51, w_52, w_53, w_54, w_55, w_56, w_57, w_58, w_59, w_60, w_61, w_62, w_63, w_64, w_65, w_66, w_67, w_68, w_69, w_70, w_71, w_72, w_73, w_74, w_75, w_76, w_77, w_78, w_79, w_80, w_81, w_82, w_83, w_84, w_85, w_86, w_87, w_88, w_89, w_90, w_91, w_92, w_93, w_94, w_95, w_96, w_97, w_98, w_99, w_100, w_101, w_102, w_103, w_104, w_105, w_106, w_107, w_108, w_109, w_110, w_111, w_112, w_113, w_114, w_115, w_116, w_117, w_118, w_119, w_120, w_121, w_122, w_123, w_124, w_125, w_126, w_127, w_128, w_129, w_130, w_131, w_132, w_133, w_134, w_135, w_136, w_137, w_138, w_139, w_140, w_141, w_142, w_143, w_144, w_145, w_146, w_147, w_148, w_149, w_150, w_151, w_152, w_153, w_154, w_155, w_156, w_157, w_158, w_159, w_160, w_161, w_162, w_163, w_164, w_165, w_166, w_167, w_168, w_169, w_170, w_171, w_172, w_173, w_174, w_175, w_176, w_177, w_178, w_179, w_180, w_181, w_182, w_183, w_184, w_185, w_186, w_187, w_188, w_189, w_190, w_191, w_192, w_193, w_194, w_195, w_196, w_197, w_198, w_199, w_200, w_201, w_202, w_203, w_204, w_205, w_206, w_207, w_208, ↓reduceIte, Bool.not_true, Bool.not_false, Bool.false_eq_true, Bool.true_eq_false, if_true, if_false, List.map_cons, List.map_nil, List.length_cons, List.length_nil, List.cons_append, List.nil_append, List.replicate, Nat.reduceAdd, Nat.reduceSub, and_self, c3, decide_false]]
          rw [bnd_okR, w_87]
          exact fin _ _
      · rw [seq_step (st' := [.sh (.scr (z :: zs)), .sh (.int k), .sh (.int m), .sh (.int cell), .sh (.int (k / (L : Nat))), .un]) (by simp only [w_0, w_1, w_2, w_3, w_4, w_5, w_6, w_7, w_8, w_9, w_10, w_11, w_12, w_13, w_14, w_15, w_16, w_17, w_18, w_19, w_20, w_21, w_22, w_23, w_24, w_25, w_26, w_27, w_28, w_29, w_30, w_31, w_32, w_33, w_34, w_35, w_36, w_37, w_38, w_39, w_40, w_41, w_42, w_43, w_44, w_45, w_46, w_47, w_48, w_49, w_50, w_51, w_52, w_53, w_54, w_55, w_56, w_57, w_58, w_59, w_60, w_61, w_62, w_63, w_64, w_65, w_66, w_67, w_68, w_69, w_70, w_71, w_72, w_73, w_74, w_75, w_76, w_77, w_78, w_79, w_80, w_81, w_82, w_83, w_84, w_85, w_86, w_87, w_88, w_89, w_90, w_91, w_92, w_93, w_94, w_95, w_96, w_97, w_98, w_99, w_100, w_101, w_102, w_103, w_104, w_105, w_106, w_107, w_108, w_109, w_110, w_111, w_112, w_113, w_114, w_115, w_116, w_117, w_118, w_119, w_120, w_121, w_122, w_123, w_124, w_125, w_126, w_127, w_128, w_129, w_130, w_131, w_132, w_133, w_134, w_135, w_136, w_137, w_138, w_139, w_140, w_141, w_142, w_143, w_144, w_145, w_146, w_147, w_148, w_149, w_150, w_151, w_152, w_153, w_154, w_155, w_156, w_157, w_158, w_159, w_160, w_161, w_162, w_163, w_164, w_165, w_166, w_167, w_168, w_169, w_170, w_171, w_172, w_173, w_174, w_175, w_176, w_177, w_178, w_179, w_180, w_181, w_182, w_183, w_184, w_185, w_186, w_187, w_188, w_189, w_190, w_191, w_192, w_193, w_194, w_195, w_196, w_197, w_198, w_199, w_200, w_201, w_202, w_203, w_204, w_205, w_206, w_207, w_208, ↓reduceIte, Bool.not_true, Bool.not_false, Bool.false_eq_true, Bool.true_eq_false, if_true, if_false, List.map_cons, List.map_nil, List.length_cons, List.length_nil, List.cons_append, List.nil_append, List.replicate, Nat.reduceAdd, Nat.reduceSub, and_self, p18, c1, c2, decide_true, decide_false])]
        exact fin _ _
    · rw [seq_step (st' := [.sh (.scr (z :: zs)), .sh (.int k), .sh (.int m), .sh (.int cell), .sh (.int (k / (L : Nat))), .un]) (by simp only [w_0, w_1, w_2, w_3, w_4, w_5, w_6, w_7, w_8, w_9, w_10, w_11, w_12, w_13, w_14, w_15, w_16, w_17, w_18, w_19, w_20, w_21, w_22, w_23, w_24, w_25, w_26, w_27, w_28, w_29, w_30, w_31, w_32, w_33, w_34, w_35, w_36, w_37, w_38, w_39, w_40, w_41, w_42, w_43, w_44, w_45, w_46, w_47, w_48, w_49, w_50, w_51, w_52, w_53, w_54, w_55, w_56, w_57, w_58, w_59, w_60, w_61, w_62, w_63, w_64, w_65, w_66, w_67, w_68, w_69, w_70, w_71, w_72, w_73, w_74, w_75, w_76, w_77, w_78, w_79, w_80, w_81, w_82, w_83, w_84, w_85, w_86, w_87, w_88, w_89, w_90, w_91, w_92, w_93, w_94, w_95, w_96, w_97, w_98, w_99, w_100, w_101, w_102, w_103, w_104, w_105, w_106, w_107, w_108, w_109, w_110, w_111, w_112, w_113, w_114, w_115, w_116, w_117, w_118, w_119, w_120, w_121, w_122, w_123, w_124, w_125, w_126, w_127, w_128, w_129, w_130, w_131, w_132, w_133, w_134, w_135, w_136, w_137, w_138, w_139, w_140, w_141, w_142, w_143, w_144, w_145, w_146, w_147, w_148, w_149, w_150, w_151, w_152, w_153, w_154, w_155, w_156, w_157, w_158, w_159, w_160, w_161, w_162, w_163, w_164, w_165, w_166, w_167, w_168, w_169, w_170, w_171, w_172, w_173, w_174, w_175, w_176, w_177, w_178, w_179, w_180, w_181, w_182, w_183, w_184, w_185, w_186, w_187, w_188, w_189, w_190, w_191, w_192, w_193, w_194, w_195, w_196, w_197, w_198, w_199, w_200, w_201, w_202, w_203, w_204, w_205, w_206, w_207, w_208, ↓reduceIte, Bool.not_true, Bool.not_false, Bool.false_eq_true, Bool.true_eq_false, if_true, if_false, List.map_cons, List.map_nil, List.length_cons, List.length_nil, List.cons_append, List.nil_append, List.replicate, Nat.reduceAdd, Nat.reduceSub, and_self, p18, c1, decide_false])]
      exact fin _ _
/-! _law_keypad -/
abbrev BL : List Nat := [98, 97, 99, 100, 101, 102, 103, 104]
structure LInv (i : Nat) (kp : Pad) : Prop where
  pm : kp.flatten.Perm (BL.take i)
  ne : ∀ k ∈ kp, 1 ≤ k.length
  n4 : kp.length ≤ 4
  n1 : 1 ≤ i → 1 ≤ kp.length
theorem perm_set {c : Nat} {k k' : List Nat} (hk : k'.Perm (c :: k)) : ∀ {kp : Pad} {p : Nat}, kp[p]? = some k → (kp.set p k').flatten.Perm (c :: kp.flatten)
  | [], p, h => by simp at h
  | a :: r, 0, h => by
    have e : a = k := by simpa using h
    subst e
    rw [List.set_cons_zero, List.flatten_cons, List.flatten_cons]
    exact (hk.append_right r.flatten)
  | a :: r, p + 1, h => by
    rw [List.set_cons_succ, List.flatten_cons, List.flatten_cons]
    have ih := perm_set hk (kp := r) (p := p) (by simpa using h)
    exact (ih.append_left a).trans List.perm_middle
theorem LInv.step {i c : Nat} {kp : Pad} (h : LInv i kp) (hc : BL[i]? = some c) : BL.take (i + 1) = BL.take i ++ [c] := by
  rw [List.take_add_one, hc]; rfl
theorem LInv.put {i c p : Nat} {kp : Pad} {k k' : List Nat} (h : LInv i kp) (hc : BL[i]? = some c) (hp : kp[p]? = some k) (hk : k'.Perm (c :: k)) : LInv (i + 1) (kp.set p k') := by
  refine ⟨?_, fun x hx => ?_, by rw [List.length_set]; exact h.n4, fun _ => ?_⟩
  · rw [h.step hc]
    exact (perm_set hk hp).trans ((h.pm.cons c).trans (List.perm_append_singleton c _).symm)
  · rcases List.mem_or_eq_of_mem_set hx with hx | rfl
    · exact h.ne x hx
    · rw [hk.length_eq, List.length_cons]; omega
  · rw [List.length_set]
    have := (List.getElem?_eq_some_iff.mp hp).1
    omega
theorem LInv.app {i c : Nat} {kp : Pad} (h : LInv i kp) (hc : BL[i]? = some c) (hl : kp.length < 4) : LInv (i + 1) (kp ++ [[c]]) := by
  refine ⟨?_, fun x hx => ?_, by rw [List.length_append, List.length_cons, List.length_nil]; omega, fun _ => by rw [List.length_append, List.length_cons, List.length_nil]; omega⟩
  · rw [h.step hc, List.flatten_append]
    exact h.pm.append (by simp)
  · rcases List.mem_append.mp hx with hx | hx
    · exact h.ne x hx
    · rw [List.mem_singleton.mp hx]; simp
theorem BL_range : ∀ c ∈ BL, 97 ≤ c ∧ c ≤ 104 := by decide
theorem BL_nodup : BL.Nodup := by decide
theorem LInv.good {i : Nat} {kp : Pad} (h : LInv i kp) (hi : 1 ≤ i) : Good kp := by
  have hm : ∀ c ∈ kp.flatten, c ∈ BL := fun c hc => List.mem_of_mem_take (h.pm.mem_iff.mp hc)
  refine ⟨h.n1 hi, by have := h.n4; omega, h.ne, fun c hc => ?_, ?_⟩
  · have := BL_range c (hm c hc); omega
  · exact h.pm.nodup_iff.mpr (BL_nodup.sublist (List.take_sublist i BL))
theorem law_keypad_ok (ns : List Int) (hns : ns.length ≤ 63) {a m : Int} (ha : 0 ≤ a) (hm : 2 ≤ m) (hm8 : m ≤ 8) : ∃ n kp, g__law_keypad [.scr ns, .int a, .int m] = okR (pD kp) ∧ LInv n kp ∧ 2 ≤ n ∧ n ≤ m := by
  obtain ⟨r, hr, hr0, hr1⟩ := drawn_ok ns hns (k := a) (m := m - 1) ha (by omega)
  have hrg : (-100000 ≤ 2 + r ∧ 2 + r ≤ 100000) := by omega
  have hn : ((2 + r).toNat : Int) = 2 + r := by omega
  have loop := forGo_inv (t := .one 4) (b := mSeq (mPar 5 6 (mSh (mOp getD (mC (.str [98, 97, 99, 100, 101, 102, 103, 104])) (mVar 4))) (mSh (mCall g__law_drawn (mCons (mVar 0) (mCons (mOp addD (mOp addD (mVar 1) (mC (.int 1))) (mVar 4)) (mCons (mC (.int 4)) (mNil)))))))
  (mIfS (mBl (mOp ltD (mVar 6) (mCB (arg1 lenD) (mCons (mVar 3) (mNil))))) (mSetItem 3 (mSh (mIf (mBl (mOp (eqD false) (mCall g__law_drawn (mCons (mVar 0) (mCons (mOp addD (mOp addD (mVar 1) (mC (.int 11))) (mVar 4)) (mCons (mC (.int 2)) (mNil))))) (mC (.int 0)))) (mOp addD (mOp getD (mVar 3) (mVar 6)) (mVar 5)) (mOp addD (mVar 5) (mOp getD (mVar 3) (mVar 6))))) (mVar 6)) (mAppend 3 (mSh (mVar 5)))))
    (I := fun i st => ∃ kp x y z, st = [.sh (.scr ns), .sh (.int a), .sh (.int m), .ow (.lst (kp.map .str)), x, y, z] ∧ LInv i kp) (rangeL 0 1 (2 + r).toNat) 0
    [.sh (.scr ns), .sh (.int a), .sh (.int m), .ow (.lst []), .un, .un, .un] ⟨[], .un, .un, .un, rfl, ⟨.refl _, by simp, by simp, by simp⟩⟩ ?_
  · obtain ⟨st', h1, kp, x, y, z, rfl, hI⟩ := loop
    rw [Nat.zero_add, rangeL_len] at hI
    refine ⟨_, kp, ?_, hI, by omega, by omega⟩
    unfold g__law_keypad m__law_keypad pD
    simp only [w_0, w_1, w_2, w_3, w_4, w_5, w_6, w_7, w_8, w_9, w_10, w_11, w_12, w_13, w_14, w_15, w_16, w_17, w_18, w_19, w_20, w_21, w_22, w_23, w_24, w_25, w_26, w_27, w_28, w_29, w_30, w_31, w_32, w_33, w_34, w_35, w_36, w_37, w_38, w_39, w_40, w_41, w_42, w_43, w_44, w_45, w_46, w_47, w_48, w_49, w_50, w_51, w_52, w_53, w_54, w_55, w_56, w_57, w_58, w_59, w_60, w_61, w_62, w_63, w_64, w_65, w_66, w_67, w_68, w_69, w_70, w_71, w_72, w_73, w_74, w_75, w_76, w_77, w_78, w_79, w_80, w_81, w_82, w_83, w_84, w_85, w_86, w_87, w_88, w_89, w_90, w_91, w_92, w_93, w_94, w_95, w_96, w_97, w_98, w_99, w_100, w_101, w_102, w_103, w_104, w_105, w_106, w_107, w_108, w_109, w_110, w_111, w_112, w_113, w_114, w_115, w_116, w_117, w_118, w_119, w_120, w_121, w_122, w_123, w_124, w_125, w_126, w_127, w_128, w_129, w_130, w_131, w_132, w_133, w_134, w_135, w_136, w_137, w_138, w_139, w_140, w_141, w_142, w_143, w_144, w_145, w_146, w_147, w_148, w_149, w_150, w_151, w_152, w_153, w_154, w_155, w_156, w_157, w_158, w_159, w_160, w_161, w_162, w_163, w_164, w_165, w_166, w_167, w_168, w_169, w_170, w_171, w_172, w_173, w_174, w_175, w_176, w_177, w_178, w_179, w_180, w_181, w_182, w_183, w_184, w_185, w_186, w_187, w_188, w_189, w_190, w_191, w_192, w_193, w_194, w_195, w_196, w_197, w_198, w_199, w_200, w_201, w_202, w_203, w_204, w_205, w_206, w_207, w_208, ↓reduceIte, Bool.not_true, Bool.not_false, Bool.false_eq_true, Bool.true_eq_false, if_true, if_false, List.map_cons, List.map_nil, List.length_cons, List.length_nil, List.cons_append, List.nil_append, List.replicate, Nat.reduceAdd, Nat.reduceSub, and_self, hr, hrg, h1, and_self]
  · intro i d st hd ⟨kp, x, y, z, e, hI⟩
    subst e
    rw [Nat.zero_add] at hI ⊢
    have hi : i < (2 + r).toNat := by
      have := (List.getElem?_eq_some_iff.mp hd).1
      rwa [rangeL_len] at this
    rw [rangeL_get hi] at hd
    have hd' : d = .int (i : Int) := by
      rw [← Option.some.inj hd]; congr 1; omega
    subst hd'
    have hi8 : i < 8 := by omega
    obtain ⟨c, hc⟩ : ∃ c, BL[i]? = some c := ⟨BL[i], List.getElem?_eq_getElem hi8⟩
    have hat : atI [98, 97, 99, 100, 101, 102, 103, 104] ((i : Nat) : Int) = some c := atI_of hc rfl
    obtain ⟨p, hp, hp0, hp1⟩ := drawn_ok ns hns (k := a + 1 + i) (m := 4) (by omega) (by decide)
    obtain ⟨f, hf, hf0, hf1⟩ := drawn_ok ns hns (k := a + 11 + i) (m := 2) (by omega) (by decide)
    refine ⟨[.sh (.scr ns), .sh (.int a), .sh (.int m), .ow (.lst (kp.map .str)), x, y, z].set 4 (.sh (.int (i : Int))), ?_⟩
    have s1 : ∀ n : MS, (mSeq (mPar 5 6 (mSh (mOp getD (mC (.str [98, 97, 99, 100, 101, 102, 103, 104])) (mVar 4))) (mSh (mCall g__law_drawn (mCons (mVar 0) (mCons (mOp addD (mOp addD (mVar 1) (mC (.int 1))) (mVar 4)) (mCons (mC (.int 4)) (mNil))))))) n) ([.sh (.scr ns), .sh (.int a), .sh (.int m), .ow (.lst (kp.map .str)), x, y, z].set 4 (.sh (.int (i : Int))))
        = n [.sh (.scr ns), .sh (.int a), .sh (.int m), .ow (.lst (kp.map .str)), .sh (.int (i : Int)), .sh (.str [c]), .sh (.int p)] := fun n => seq_step (by simp only [w_0, w_1, w_2, w_3, w_4, w_5, w_6, w_7, w_8, w_9, w_10, w_11, w_12, w_13, w_14, w_15, w_16, w_17, w_18, w_19, w_20, w_21, w_22, w_23, w_24, w_25, w_26, w_27, w_28, w_29, w_30, w_31, w_32, w_33, w_34, w_35, w_36, w_37, w_38, w_39, w_40, w_41, w_42, w_43, w_44, w_45, w_46, w_47, w_48, w_49, w_50, w_51, w_52, w_53, w_54, w_55, w_56, w_57, w_58, w_59, w_60, w_61, w_62, w_63, w_64, w_65, w_66, w_67, w_68, w_69, w_70, w_71, w_72, w_73, w_74, w_75, w_76, w_77, w_78, w_79, w_80, w_81, w_82, w_83, w_84, w_85, w_86, w_87, w_88, w_89, w_90, w_91, w_92, w_93, w_94, w_95, w_96, w_97, w_98, w_99, w_100, w_101, w_102, w_103, w_104, w_105, w_106, w_107, w_108, w_109, w_110, w_111, w_112, w_113, w_114, w_115, w_116, w_117, w_118, w_119, w_120, w_121, w_122, w_123, w_124, w_125, w_126, w_127, w_128, w_129, w_130, w_131, w_132, w_133, w_134, w_135, w_136, w_137, w_138, w_139, w_140, w_141, w_142, w_143, w_144, w_145, w_146, w_147, w_148, w_149, w_150, w_151, w_152, w_153, w_154, w_155, w_156, w_157, w_158, w_159, w_160, w_161, w_162, w_163, w_164, w_165, w_166, w_167, w_168, w_169, w_170, w_171, w_172, w_173, w_174, w_175, w_176, w_177, w_178, w_179, w_180, w_181, w_182, w_183, w_184, w_185, w_186, w_187, w_188, w_189, w_190, w_191, w_192, w_193, w_194, w_195, w_196, w_197, w_198, w_199, w_200, w_201, w_202, w_203, w_204, w_205, w_206, w_207, w_208, ↓reduceIte, Bool.not_true, Bool.not_false, Bool.false_eq_true, Bool.true_eq_false, if_true, if_false, List.map_cons, List.map_nil, List.length_cons, List.length_nil, List.cons_append, List.nil_append, List.replicate, Nat.reduceAdd, Nat.reduceSub, and_self, hat, hp, Nat.reduceLeDiff, Option.map])
    by_cases cp : p < (kp.length : Int)
    · obtain ⟨q, hq⟩ : ∃ q : Nat, p = q := ⟨p.toNat, by omega⟩
      subst hq
      have hql : q < kp.length := by omega
      have hk : kp[q]? = some kp[q] := List.getElem?_eq_getElem hql
      have hkl : (kp.map D.str)[q]? = some (.str kp[q]) := by rw [List.getElem?_map, hk]; rfl
      have hka : atI (kp.map D.str) ((q : Nat) : Int) = some (.str kp[q]) := atI_of hkl rfl
      have hix : ixN (kp.map D.str).length ((q : Nat) : Int) = some q := by
        unfold ixN; rw [if_pos (by omega), if_pos (by rw [List.length_map]; omega)]; rfl
      have hlen : kp[q].length + 1 ≤ 100000 := by
        have h1 := len_key (List.getElem_mem hql)
        have h2 := hI.pm.length_eq
        rw [List.length_take] at h2
        omega
      by_cases cf : f = 0
      · refine ⟨_, rfl, ?_, kp.set q (kp[q] ++ [c]), .sh (.int (i : Int)), .sh (.str [c]), .sh (.int (q : Nat)), rfl, hI.put hc hk (List.perm_append_singleton c _)⟩
        rw [s1]
        simp only [w_0, w_1, w_2, w_3, w_4, w_5, w_6, w_7, w_8, w_9, w_10, w_11, w_12, w_13, w_14, w_15, w_16, w_17, w_18, w_19, w_20, w_21, w_22, w_23, w_24, w_25, w_26, w_27, w_28, w_29, w_30, w_31, w_32, w_33, w_34, w_35, w_36, w_37, w_38, w_39, w_40, w_41, w_42, w_43, w_44, w_45, w_46, w_47, w_48, w_49, w_50, w_51, w_52, w_53, w_54, w_55, w_56, w_57, w_58, w_59, w_60, w_61, w_62, w_63, w_64, w_65, w_66, w_67, w_68, w_69, w_70, w_71, w_72, w_73, w_74, w_75, w_76, w_77, w_78, w_79, w_80, w_81, w_82, w_83, w_84, w_85, w_86, w_87, w_88, w_89, w_90, w_91, w_92, w_93, w_94, w_95, w_96, w_97, w_98, w_99, w_100, w_101, w_102, w_103, w_104, w_105, w_106, w_107, w_108, w_109, w_110, w_111, w_112, w_113, w_114, w_115, w_116, w_117, w_118, w_119, w_120, w_121, w_122, w_123, w_124, w_125, w_126, w_127, w_128, w_129, w_130, w_131, w_132, w_133, w_134, w_135, w_136, w_137, w_138, w_139, w_140, w_141, w_142, w_143, w_144, w_145, w_146, w_147, w_148, w_149, w_150, w_151, w_152, w_153, w_154, w_155, w_156, w_157, w_158, w_159, w_160, w_161, w_162, w_163, w_164, w_165, w_166, w_167, w_168, w_169, w_170, w_171, w_172, w_173, w_174, w_175, w_176, w_177, w_178, w_179, w_180, w_181, w_182, w_183, w_184, w_185, w_186, w_187, w_188, w_189, w_190, w_191, w_192, w_193, w_194, w_195, w_196, w_197, w_198, w_199, w_200, w_201, w_202, w_203, w_204, w_205, w_206, w_207, w_208, ↓reduceIte, Bool.not_true, Bool.not_false, Bool.false_eq_true, Bool.true_eq_false, if_true, if_false, List.map_cons, List.map_nil, List.length_cons, List.length_nil, List.cons_append, List.nil_append, List.replicate, Nat.reduceAdd, Nat.reduceSub, and_self, w_139, List.length_map, cp, decide_true]
        rw [ap_setItem (ds := kp.map .str) _ _ rfl]
        simp only [w_0, w_1, w_2, w_3, w_4, w_5, w_6, w_7, w_8, w_9, w_10, w_11, w_12, w_13, w_14, w_15, w_16, w_17, w_18, w_19, w_20, w_21, w_22, w_23, w_24, w_25, w_26, w_27, w_28, w_29, w_30, w_31, w_32, w_33, w_34, w_35, w_36, w_37, w_38, w_39, w_40, w_41, w_42, w_43, w_44, w_45, w_46, w_47, w_48, w_49, w_50, w_51, w_52, w_53, w_54, w_55, w_56, w_57, w_58, w_59, w_60, w_61, w_62, w_63, w_64, w_65, w_66, w_67, w_68, w_69, w_70, w_71, w_72, w_73, w_74, w_75, w_76, w_77, w_78, w_79, w_80, w_81, w_82, w_83, w_84, w_85, w_86, w_87, w_88, w_89, w_90, w_91, w_92, w_93, w_94, w_95, w_96, w_97, w_98, w_99, w_100, w_101, w_102, w_103, w_104, w_105, w_106, w_107, w_108, w_109, w_110, w_111, w_112, w_113, w_114, w_115, w_116, w_117, w_118, w_119, w_120, w_121, w_122, w_123, w_124, w_125, w_126, w_127, w_128, w_129, w_130, w_131, w_132, w_133, w_134, w_135, w_136, w_137, w_138, w_139, w_140, w_141, w_142, w_143, w_144, w_145, w_146, w_147, w_148, w_149, w_150, w_151, w_152, w_153, w_154, w_155, w_156, w_157, w_158, w_159, w_160, w_161, w_162, w_163, w_164, w_165, w_166, w_167, w_168, w_169, w_170, w_171, w_172, w_173, w_174, w_175, w_176, w_177, w_178, w_179, w_180, w_181, w_182, w_183, w_184, w_185, w_186, w_187, w_188, w_189, w_190, w_191, w_192, w_193, w_194, w_195, w_196, w_197, w_198, w_199, w_200, w_201, w_202, w_203, w_204, w_205, w_206, w_207, w_208, ↓reduceIte, Bool.not_true, Bool.not_false, Bool.false_eq_true, Bool.true_eq_false, if_true, if_false, List.map_cons, List.map_nil, List.length_cons, List.length_nil, List.cons_append, List.nil_append, List.replicate, Nat.reduceAdd, Nat.reduceSub, and_self, hf, cf, beq_self_eq_true, hka, hlen, w_122, siB_i _ (j := q) hix, List.map_set]
      · refine ⟨_, rfl, ?_, kp.set q (c :: kp[q]), .sh (.int (i : Int)), .sh (.str [c]), .sh (.int (q : Nat)), rfl, hI.put hc hk (.refl _)⟩
        have cf' : (f == 0) = false := by simpa using cf
        rw [s1]
        simp only [w_0, w_1, w_2, w_3, w_4, w_5, w_6, w_7, w_8, w_9, w_10, w_11, w_12, w_13, w_14, w_15, w_16, w_17, w_18, w_19, w_20, w_21, w_22, w_23, w_24, w_25, w_26, w_27, w_28, w_29, w_30, w_31, w_32, w_33, w_34, w_35, w_36, w_37, w_38, w_39, w_40, w_41, w_42, w_43, w_44, w_45, w_46, w_47, w_48, w_49, w_50, w_51, w_52, w_53, w_54, w_55, w_56, w_57, w_58, w_59, w_60, w_61, w_62, w_63, w_64, w_65, w_66, w_67, w_68, w_69, w_70, w_71, w_72, w_73, w_74, w_75, w_76, w_77, w_78, w_79, w_80, w_81, w_82, w_83, w_84, w_85, w_86, w_87, w_88, w_89, w_90, w_91, w_92, w_93, w_94, w_95, w_96, w_97, w_98, w_99, w_100, w_101, w_102, w_103, w_104, w_105, w_106, w_107, w_108, w_109, w_110, w_111, w_112, w_113, w_114, w_115, w_116, w_117, w_118, w_119, w_120, w_121, w_122, w_123, w_124, w_125, w_126, w_127, w_128, w_129, w_130, w_131, w_132, w_133, w_134, w_135, w_136, w_137, w_138, w_139, w_140, w_141, w_142, w_143, w_144, w_145, w_146, w_147, w_148, w_149, w_150, w_151, w_152, w_153, w_154, w_155, w_156, w_157, w_158, w_159, w_160, w_161, w_162, w_163, w_164, w_165, w_166, w_167, w_168, w_169, w_170, w_171, w_172, w_173, w_174, w_175, w_176, w_177, w_178, w_179, w_180, w_181, w_182, w_183, w_184, w_185, w_186, w_187, w_188, w_189, w_190, w_191, w_192, w_193, w_194, w_195, w_196, w_197, w_198, w_199, w_200, w_201, w_202, w_203, w_204, w_205, w_206, w_207, w_208, ↓reduceIte, Bool.not_true, Bool.not_false, Bool.false_eq_true, Bool.true_eq_false, if_true, if_false, List.map_cons, List.map_nil, List.length_cons, List.length_nil, List.cons_append, List.nil_append, List.replicate, Nat.reduceAdd, Nat.reduceSub, and_self, w_139, List.length_map, cp, decide_true]
        rw [ap_setItem (ds := kp.map .str) _ _ rfl]
        simp only [w_0, w_1, w_2, w_3, w_4, w_5, w_6, w_7, w_8, w_9, w_10, w_11, w_12, w_13, w_14, w_15, w_16, w_17, w_18, w_19, w_20, w_21, w_22, w_23, w_24, w_25, w_26, w_27, w_28, w_29, w_30, w_31, w_32, w_33, w_34, w_35, w_36, w_37, w_38, w_39, w_40, w_41, w_42, w_43, w_44, w_45, w_46, w_47, w_48, w_49, w_50, w_51, w_52, w_53, w_54, w_55, w_56, w_57, w_58, w_59, w_60, w_61, w_62, w_63, w_64, w_65, w_66, w_67, w_68, w_69, w_70, w_71, w_72, w_73, w_74, w_75, w_76, w_77, w_78, w_79, w_80, w_81, w_82, w_83, w_84, w_85, w_86, w_87, w_88, w_89, w_90, w_91, w_92, w_93, w_94, w_95, w_96, w_97, w_98, w_99, w_100, w_101, w_102, w_103, w_104, w_105, w_106, w_107, w_108, w_109, w_110, w_111, w_112, w_113, w_114, w_115, w_116, w_117, w_118, w_119, w_120, w_121, w_122, w_123, w_124, w_125, w_126, w_127, w_128, w_129, w_130, w_131, w_132, w_133, w_134, w_135, w_136, w_137, w_138, w_139, w_140, w_141, w_142, w_143, w_144, w_145, w_146, w_147, w_148, w_149, w_150, w_151, w_152, w_153, w_154, w_155, w_156, w_157, w_158, w_159, w_160, w_161, w_162, w_163, w_164, w_165, w_166, w_167, w_168, w_169, w_170, w_171, w_172, w_173, w_174, w_175, w_176, w_177, w_178, w_179, w_180, w_181, w_182, w_183, w_184, w_185, w_186, w_187, w_188, w_189, w_190, w_191, w_192, w_193, w_194, w_195, w_196, w_197, w_198, w_199, w_200, w_201, w_202, w_203, w_204, w_205, w_206, w_207, w_208, ↓reduceIte, Bool.not_true, Bool.not_false, Bool.false_eq_true, Bool.true_eq_false, if_true, if_false, List.map_cons, List.map_nil, List.length_cons, List.length_nil, List.cons_append, List.nil_append, List.replicate, Nat.reduceAdd, Nat.reduceSub, and_self, hf, cf', hka, (show 1 + kp[q].length ≤ 100000 by omega), w_122, siB_i _ (j := q) hix, List.map_set]
    · refine ⟨_, rfl, ?_, kp ++ [[c]], .sh (.int (i : Int)), .sh (.str [c]), .sh (.int p), rfl, hI.app hc (by omega)⟩
      have hl : (kp.map D.str).length < 100000 := by rw [List.length_map]; have := hI.n4; omega
      rw [s1]
      simp only [w_0, w_1, w_2, w_3, w_4, w_5, w_6, w_7, w_8, w_9, w_10, w_11, w_12, w_13, w_14, w_15, w_16, w_17, w_18, w_19, w_20, w_21, w_22, w_23, w_24, w_25, w_26, w_27, w_28, w_29, w_30, w_31, w_32, w_33, w_34, w_35, w_36, w_37, w_38, w_39, w_40, w_41, w_42, w_43, w_44, w_45, w_46, w_47, w_48, w_49, w_50, w_51, w_52, w_53, w_54, w_55, w_56, w_57, w_58, w_59, w_60, w_61, w_62, w_63, w_64, w_65, w_66, w_67, w_68, w_69, w_70, w_71, w_72, w_73, w_74, w_75, w_76, w_77, w_78, w_79, w_80, w_81, w_82, w_83, w_84, w_85, w_86, w_87, w_88, w_89, w_90, w_91, w_92, w_93, w_94, w_95, w_96, w_97, w_98, w_99, w_100, w_101, w_102, w_103, w_104, w_105, w_106, w_107, w_108, w_109, w_110, w_111, w_112, w_113, w_114, w_115, w_116, w_117, w_118, w_119, w_120, w_121, w_122, w_123, w_124, w_125, w_126, w_127, w_128, w_129, w_130, w_131, w_132, w_133, w_134, w_135, w_136, w_137, w_138, w_139, w_140, w_141, w_142, w_143, w_144, w_145, w_146, w_147, w_148, w_149, w_150, w_151, w_152, w_153, w_154, w_155, w_156, w_157, w_158, w_159, w_160, w_161, w_162, w_163, w_164, w_165, w_166, w_167, w_168, w_169, w_170, w_171, w_172, w_173, w_174, w_175, w_176, w_177, w_178, w_179, w_180, w_181, w_182, w_183, w_184, w_185, w_186, w_187, w_188, w_189, w_190, w_191, w_192, w_193, w_194, w_195, w_196, w_197, w_198, w_199, w_200, w_201, w_202, w_203, w_204, w_205, w_206, w_207, w_208, ↓reduceIte, Bool.not_true, Bool.not_false, Bool.false_eq_true, Bool.true_eq_false, if_true, if_false, List.map_cons, List.map_nil, List.length_cons, List.length_nil, List.cons_append, List.nil_append, List.replicate, Nat.reduceAdd, Nat.reduceSub, and_self, w_139, List.length_map, cp, decide_false]
      rw [ap_append (ds := kp.map .str) _ _ rfl]
      simp only [w_0, w_1, w_2, w_3, w_4, w_5, w_6, w_7, w_8, w_9, w_10, w_11, w_12, w_13, w_14, w_15, w_16, w_17, w_18, w_19, w_20, w_21, w_22, w_23, w_24, w_25, w_26, w_27, w_28, w_29, w_30, w_31, w_32, w_33, w_34, w_35, w_36, w_37, w_38, w_39, w_40, w_41, w_42, w_43, w_44, w_45, w_46, w_47, w_48, w_49, w_50, w_51, w_52, w_53, w_54, w_55, w_56, w_57, w_58, w_59, w_60, w_61, w_62, w_63, w_64, w_65, w_66, w_67, w_68, w_69, w_70, w_71, w_72, w_73, w_74, w_75, w_76, w_77, w_78, w_79, w_80, w_81, w_82, w_83, w_84, w_85, w_86, w_87, w_88, w_89, w_90, w_91, w_92, w_93, w_94, w_95, w_96, w_97, w_98, w_99, w_100, w_101, w_102, w_103, w_104, w_105, w_106, w_107, w_108, w_109, w_110, w_111, w_112, w_113, w_114, w_115, w_116, w_117, w_118, w_119, w_120, w_121, w_122, w_123, w_124, w_125, w_126, w_127, w_128, w_129, w_130, w_131, w_132, w_133, w_134, w_135, w_136, w_137, w_138, w_139, w_140, w_141, w_142, w_143, w_144, w_145, w_146, w_147, w_148, w_149, w_150, w_151, w_152, w_153, w_154, w_155, w_156, w_157, w_158, w_159, w_160, w_161, w_162, w_163, w_164, w_165, w_166, w_167, w_168, w_169, w_170, w_171, w_172, w_173, w_174, w_175, w_176, w_177, w_178, w_179, w_180, w_181, w_182, w_183, w_184, w_185, w_186, w_187, w_188, w_189, w_190, w_191, w_192, w_193, w_194, w_195, w_196, w_197, w_198, w_199, w_200, w_201, w_202, w_203, w_204, w_205, w_206, w_207, w_208, ↓reduceIte, Bool.not_true, Bool.not_false, Bool.false_eq_true, Bool.true_eq_false, if_true, if_false, List.map_cons, List.map_nil, List.length_cons, List.length_nil, List.cons_append, List.nil_append, List.replicate, Nat.reduceAdd, Nat.reduceSub, and_self, w_120, hl, List.map_append]
/-! find_pauses, pauses -/
def pairL (t : List Nat) : List (Nat × Nat) := t.zip (t.drop 1)
def pauseN (t : List Nat) : Nat := ((pairL t).filter fun p => p.1 == p.2).length
theorem zipL_str (a b : List Nat) : zipL (a.map fun c => .str [c]) (b.map fun c => .str [c]) = (a.zip b).map fun p => .tup [.str [p.1], .str [p.2]] := by
  unfold zipL
  rw [List.zipWith_map, List.zip, List.map_zipWith]
theorem cut1 (t : List Nat) : cutL t (some 1) none = t.drop 1 := by
  unfold cutL
  rw [show HT.sIx t.length 0 (some 1) = min 1 t.length from HT.sIx_nat t.length 0 1, HT.sIx_none]
  cases t with
  | nil => rfl
  | cons x r =>
    have e : min 1 (x :: r).length = 1 := by rw [List.length_cons]; omega
    rw [e, List.take_of_length_le (by rw [List.length_drop]; omega)]
theorem e_cut_s {l : List Nat} {lo hi : Option Int} (h : l.length ≤ 100000) : cutD (.str l) lo hi = some (.str (cutL l lo hi)) := if_pos h
theorem e_zip_s {a b : List Nat} (h : a.length ≤ 100000) : zipD (.str a) (.str b) = some (zipL (a.map fun c => .str [c]) (b.map fun c => .str [c])) := if_pos h
theorem find_pauses_s {kp : Pad} (g : Good kp) {w : List Nat} (hl : w.length ≤ 1000) (hw : ∀ c ∈ w, c ∈ kp.flatten) : g_find_pauses [pD kp, .str w] = okR (.int (pauseN (codeL kp w) : Nat)) := by
  have hc : (codeL kp w).length = w.length := by unfold codeL; rw [List.length_map]
  have e2 : g_find_code [.tup (kp.map .str), .str w] = okR (.str (codeL kp w)) := find_code_s g hl hw
  unfold g_find_pauses m_find_pauses pD
  generalize codeL kp w = t at hc e2 ⊢
  have ht : t.length ≤ 100000 := by omega
  have lc : lcGo (.two 3 4) (mBl (mOp (eqD false) (mVar 3) (mVar 4))) (mC (.int 1)) [.sh (.tup (kp.map .str)), .sh (.str w), .sh (.str t), .un, .un] ((t.zip (t.drop 1)).map fun p => .tup [.str [p.1], .str [p.2]]) = okR (((pairL t).filter fun p => p.1 == p.2).map fun _ => .int 1) := by
    exact lcM _ fun p hp => ⟨_, rfl, by simp only [w_0, w_1, w_2, w_3, w_4, w_5, w_6, w_7, w_8, w_9, w_10, w_11, w_12, w_13, w_14, w_15, w_16, w_17, w_18, w_19, w_20, w_21, w_22, w_23, w_24, w_25, w_26, w_27, w_28, w_29, w_30, w_31, w_32, w_33, w_34, w_35, w_36, w_37, w_38, w_39, w_40, w_41, w_42, w_43, w_44, w_45, w_46, w_47, w_48, w_49, w_50, w_51, w_52, w_53, w_54, w_55, w_56, w_57, w_58, w_59, w_60, w_61, w_62, w_63, w_64, w_65, w_66, w_67, w_68, w_69, w_70, w_71, w_72, w_73, w_74, w_75, w_76, w_77, w_78, w_79, w_80, w_81, w_82, w_83, w_84, w_85, w_86, w_87, w_88, w_89, w_90, w_91, w_92, w_93, w_94, w_95, w_96, w_97, w_98, w_99, w_100, w_101, w_102, w_103, w_104, w_105, w_106, w_107, w_108, w_109, w_110, w_111, w_112, w_113, w_114, w_115, w_116, w_117, w_118, w_119, w_120, w_121, w_122, w_123, w_124, w_125, w_126, w_127, w_128, w_129, w_130, w_131, w_132, w_133, w_134, w_135, w_136, w_137, w_138, w_139, w_140, w_141, w_142, w_143, w_144, w_145, w_146, w_147, w_148, w_149, w_150, w_151, w_152, w_153, w_154, w_155, w_156, w_157, w_158, w_159, w_160, w_161, w_162, w_163, w_164, w_165, w_166, w_167, w_168, w_169, w_170, w_171, w_172, w_173, w_174, w_175, w_176, w_177, w_178, w_179, w_180, w_181, w_182, w_183, w_184, w_185, w_186, w_187, w_188, w_189, w_190, w_191, w_192, w_193, w_194, w_195, w_196, w_197, w_198, w_199, w_200, w_201, w_202, w_203, w_204, w_205, w_206, w_207, w_208, ↓reduceIte, Bool.not_true, Bool.not_false, Bool.false_eq_true, Bool.true_eq_false, if_true, if_false, List.map_cons, List.map_nil, List.length_cons, List.length_nil, List.cons_append, List.nil_append, List.replicate, Nat.reduceAdd, Nat.reduceSub, and_self, beq1], fun _ => by simp only [w_0, w_1, w_2, w_3, w_4, w_5, w_6, w_7, w_8, w_9, w_10, w_11, w_12, w_13, w_14, w_15, w_16, w_17, w_18, w_19, w_20, w_21, w_22, w_23, w_24, w_25, w_26, w_27, w_28, w_29, w_30, w_31, w_32, w_33, w_34, w_35, w_36, w_37, w_38, w_39, w_40, w_41, w_42, w_43, w_44, w_45, w_46, w_47, w_48, w_49, w_50, w_51, w_52, w_53, w_54, w_55, w_56, w_57, w_58, w_59, w_60, w_61, w_62, w_63, w_64, w_65, w_66, w_67, w_68, w_69, w_70, w_71, w_72, w_73, w_74, w_75, w_76, w_77, w_78, w_79, w_80, w_81, w_82, w_83, w_84, w_85, w_86, w_87, w_88, w_89, w_90, w_91, w_92, w_93, w_94, w_95, w_96, w_97, w_98, w_99, w_100, w_101, w_102, w_103, w_104, w_105, w_106, w_107, w_108, w_109, w_110, w_111, w_112, w_113, w_114, w_115, w_116, w_117, w_118, w_119, w_120, w_121, w_122, w_123, w_124, w_125, w_126, w_127, w_128, w_129, w_130, w_131, w_132, w_133, w_134, w_135, w_136, w_137, w_138, w_139, w_140, w_141, w_142, w_143, w_144, w_145, w_146, w_147, w_148, w_149, w_150, w_151, w_152, w_153, w_154, w_155, w_156, w_157, w_158, w_159, w_160, w_161, w_162, w_163, w_164, w_165, w_166, w_167, w_168, w_169, w_170, w_171, w_172, w_173, w_174, w_175, w_176, w_177, w_178, w_179, w_180, w_181, w_182, w_183, w_184, w_185, w_186, w_187, w_188, w_189, w_190, w_191, w_192, w_193, w_194, w_195, w_196, w_197, w_198, w_199, w_200, w_201, w_202, w_203, w_204, w_205, w_206, w_207, w_208, ↓reduceIte, Bool.not_true, Bool.not_false, Bool.false_eq_true, Bool.true_eq_false, if_true, if_false, List.map_cons, List.map_nil, List.length_cons, List.length_nil, List.cons_append, List.nil_append, List.replicate, Nat.reduceAdd, Nat.reduceSub, and_self]⟩
  simp only [w_0, w_1, w_2, w_3, w_4, w_5, w_6, w_7, w_8, w_9, w_10, w_11, w_12, w_13, w_14, w_15, w_16, w_17, w_18, w_19, w_20, w_21, w_22, w_23, w_24, w_25, w_26, w_27, w_28, w_29, w_30, w_31, w_32, w_33, w_34, w_35, w_36, w_37, w_38, w_39, w_40, w_41, w_42, w_43, w_44, w_45, w_46, w_47, w_48, w_49, w_50, w_51, w_52, w_53, w_54, w_55, w_56, w_57, w_58, w_59, w_60, w_61, w_62, w_63, w_64, w_65, w_66, w_67, w_68, w_69, w_70, w_71, w_72, w_73, w_74, w_75, w_76, w_77, w_78, w_79, w_80, w_81, w_82, w_83, w_84, w_85, w_86, w_87, w_88, w_89, w_90, w_91, w_92, w_93, w_94, w_95, w_96, w_97, w_98, w_99, w_100, w_101, w_102, w_103, w_104, w_105, w_106, w_107, w_108, w_109, w_110, w_111, w_112, w_113, w_114, w_115, w_116, w_117, w_118, w_119, w_120, w_121, w_122, w_123, w_124, w_125, w_126, w_127, w_128, w_129, w_130, w_131, w_132, w_133, w_134, w_135, w_136, w_137, w_138, w_139, w_140, w_141, w_142, w_143, w_144, w_145, w_146, w_147, w_148, w_149, w_150, w_151, w_152, w_153, w_154, w_155, w_156, w_157, w_158, w_159, w_160, w_161, w_162, w_163, w_164, w_165, w_166, w_167, w_168, w_169, w_170, w_171, w_172, w_173, w_174, w_175, w_176, w_177, w_178, w_179, w_180, w_181, w_182, w_183, w_184, w_185, w_186, w_187, w_188, w_189, w_190, w_191, w_192, w_193, w_194, w_195, w_196, w_197, w_198, w_199, w_200, w_201, w_202, w_203, w_204, w_205, w_206, w_207, w_208, ↓reduceIte, Bool.not_true, Bool.not_false, Bool.false_eq_true, Bool.true_eq_false, if_true, if_false, List.map_cons, List.map_nil, List.length_cons, List.length_nil, List.cons_append, List.nil_append, List.replicate, Nat.reduceAdd, Nat.reduceSub, and_self, e2, e_cut_s ht, cut1, e_zip_s ht, zipL_str, lc, List.length_map]
  rfl
theorem pauses_s {kp : Pad} (g : Good kp) {w : List Nat} (h : wordB kp w = true) : g_pauses [pD kp, .str w] = okR (.int (pauseN (codeL kp w) : Nat)) := by
  obtain ⟨h1, h2, h3⟩ := word_in h
  unfold g_pauses m_pauses
  simp only [w_0, w_1, w_2, w_3, w_4, w_5, w_6, w_7, w_8, w_9, w_10, w_11, w_12, w_13, w_14, w_15, w_16, w_17, w_18, w_19, w_20, w_21, w_22, w_23, w_24, w_25, w_26, w_27, w_28, w_29, w_30, w_31, w_32, w_33, w_34, w_35, w_36, w_37, w_38, w_39, w_40, w_41, w_42, w_43, w_44, w_45, w_46, w_47, w_48, w_49, w_50, w_51, w_52, w_53, w_54, w_55, w_56, w_57, w_58, w_59, w_60, w_61, w_62, w_63, w_64, w_65, w_66, w_67, w_68, w_69, w_70, w_71, w_72, w_73, w_74, w_75, w_76, w_77, w_78, w_79, w_80, w_81, w_82, w_83, w_84, w_85, w_86, w_87, w_88, w_89, w_90, w_91, w_92, w_93, w_94, w_95, w_96, w_97, w_98, w_99, w_100, w_101, w_102, w_103, w_104, w_105, w_106, w_107, w_108, w_109, w_110, w_111, w_112, w_113, w_114, w_115, w_116, w_117, w_118, w_119, w_120, w_121, w_122, w_123, w_124, w_125, w_126, w_127, w_128, w_129, w_130, w_131, w_132, w_133, w_134, w_135, w_136, w_137, w_138, w_139, w_140, w_141, w_142, w_143, w_144, w_145, w_146, w_147, w_148, w_149, w_150, w_151, w_152, w_153, w_154, w_155, w_156, w_157, w_158, w_159, w_160, w_161, w_162, w_163, w_164, w_165, w_166, w_167, w_168, w_169, w_170, w_171, w_172, w_173, w_174, w_175, w_176, w_177, w_178, w_179, w_180, w_181, w_182, w_183, w_184, w_185, w_186, w_187, w_188, w_189, w_190, w_191, w_192, w_193, w_194, w_195, w_196, w_197, w_198, w_199, w_200, w_201, w_202, w_203, w_204, w_205, w_206, w_207, w_208, ↓reduceIte, Bool.not_true, Bool.not_false, Bool.false_eq_true, Bool.true_eq_false, if_true, if_false, List.map_cons, List.map_nil, List.length_cons, List.length_nil, List.cons_append, List.nil_append, List.replicate, Nat.reduceAdd, Nat.reduceSub, and_self, check_word_ok g h, find_pauses_s g (by omega) h3]
theorem pair_range (t : List Nat) : pairL t = (List.range (t.length - 1)).map fun i => (t.getD i 0, t.getD (i + 1) 0) := by
  unfold pairL
  refine List.ext_getElem (by simp) fun i h1 h2 => ?_
  have h3 : i < t.length - 1 := by simpa using h2
  rw [List.getElem_zip, List.getElem_map, List.getElem_range, List.getElem_drop, List.getD_eq_getElem?_getD, List.getD_eq_getElem?_getD, List.getElem?_eq_getElem (by omega), List.getElem?_eq_getElem (by omega)]
  simp [Nat.add_comm]
theorem pauseN_range (t : List Nat) : pauseN t = ((List.range (t.length - 1)).filter fun i => t.getD (i + 1) 0 == t.getD i 0).length := by
  unfold pauseN
  rw [pair_range, List.filter_map, List.length_map]
  congr 1
  refine List.filter_congr fun i _ => ?_
  show (t.getD i 0 == t.getD (i + 1) 0) = (t.getD (i + 1) 0 == t.getD i 0)
  rw [Bool.eq_iff_iff, beq_iff_eq, beq_iff_eq]
  exact eq_comm
/-! _law_code -/
theorem e_str {i : Nat} (h : i ≤ 9) : strD (.int (i : Nat)) = some (.str [48 + i]) := by
  show (if (0 : Int) ≤ (i : Int) ∧ (i : Int) ≤ 9 then some (D.str [48 + ((i : Nat) : Int).toNat]) else none) = _
  rw [if_pos (by omega)]
  rfl
theorem law_code_s {kp : Pad} (g : Good kp) {w : List Nat} (hl : w.length ≤ 1000) (hw : ∀ c ∈ w, c ∈ kp.flatten) : g__law_code [pD kp, .str w] = okR (.str (codeL kp w)) := by
  have loop := forGo_inv (t := .one 3) (b := mSet 2 (mSh (mOp addD (mVar 2) (mMt "str" joinD (mC (.str [])) (mCons (mLc (mEnum (mCons (mVar 0) (mNil))) (.two 4 5) (mBl (mOp (inD false) (mVar 3) (mVar 5))) (mCB (arg1 strD) (mCons (mVar 4) (mNil))) [4, 5]) (mNil))))))
    (I := fun i st => ∃ x, st = [.sh (.tup (kp.map .str)), .sh (.str w), .sh (.str (codeL kp (w.take i))), x, .un, .un]) (w.map fun c => .str [c]) 0
    [.sh (.tup (kp.map .str)), .sh (.str w), .sh (.str []), .un, .un, .un] ⟨.un, rfl⟩ ?_
  · obtain ⟨st', h1, x, rfl⟩ := loop
    rw [Nat.zero_add, List.length_map, List.take_length] at h1
    unfold g__law_code m__law_code pD
    simp only [w_0, w_1, w_2, w_3, w_4, w_5, w_6, w_7, w_8, w_9, w_10, w_11, w_12, w_13, w_14, w_15, w_16, w_17, w_18, w_19, w_20, w_21, w_22, w_23, w_24, w_25, w_26, w_27, w_28, w_29, w_30, w_31, w_32, w_33, w_34, w_35, w_36, w_37, w_38, w_39, w_40, w_41, w_42, w_43, w_44, w_45, w_46, w_47, w_48, w_49, w_50, w_51, w_52, w_53, w_54, w_55, w_56, w_57, w_58, w_59, w_60, w_61, w_62, w_63, w_64, w_65, w_66, w_67, w_68, w_69, w_70, w_71, w_72, w_73, w_74, w_75, w_76, w_77, w_78, w_79, w_80, w_81, w_82, w_83, w_84, w_85, w_86, w_87, w_88, w_89, w_90, w_91, w_92, w_93, w_94, w_95, w_96, w_97, w_98, w_99, w_100, w_101, w_102, w_103, w_104, w_105, w_106, w_107, w_108, w_109, w_110, w_111, w_112, w_113, w_114, w_115, w_116, w_117, w_118, w_119, w_120, w_121, w_122, w_123, w_124, w_125, w_126, w_127, w_128, w_129, w_130, w_131, w_132, w_133, w_134, w_135, w_136, w_137, w_138, w_139, w_140, w_141, w_142, w_143, w_144, w_145, w_146, w_147, w_148, w_149, w_150, w_151, w_152, w_153, w_154, w_155, w_156, w_157, w_158, w_159, w_160, w_161, w_162, w_163, w_164, w_165, w_166, w_167, w_168, w_169, w_170, w_171, w_172, w_173, w_174, w_175, w_176, w_177, w_178, w_179, w_180, w_181, w_182, w_183, w_184, w_185, w_186, w_187, w_188, w_189, w_190, w_191, w_192, w_193, w_194, w_195, w_196, w_197, w_198, w_199, w_200, w_201, w_202, w_203, w_204, w_205, w_206, w_207, w_208, ↓reduceIte, Bool.not_true, Bool.not_false, Bool.false_eq_true, Bool.true_eq_false, if_true, if_false, List.map_cons, List.map_nil, List.length_cons, List.length_nil, List.cons_append, List.nil_append, List.replicate, Nat.reduceAdd, Nat.reduceSub, and_self, (show w.length ≤ 100000 by omega), h1]
  · intro i d st hd ⟨x, e⟩
    subst e
    rw [Nat.zero_add]
    rw [List.getElem?_map] at hd
    obtain ⟨c, hc, rfl⟩ := Option.map_eq_some_iff.mp hd
    have hcm := hw c (List.mem_of_getElem? hc)
    have hk := kIx_lt hcm
    have hk2 := g.n2
    have lc : lcGo (.two 4 5) (mBl (mOp (inD false) (mVar 3) (mVar 5))) (mCB (arg1 strD) (mCons (mVar 4) (mNil))) [.sh (.tup (kp.map .str)), .sh (.str w), .sh (.str (codeL kp (w.take i))), .sh (.str [c]), .un, .un] (enumL (kp.map .str)) = okR (([[48 + kIx kp c]] : List (List Nat)).map .str) := by
      rw [enumL_map, lcM (p := fun p => decide (c ∈ p.1)) (h := fun p => .str [48 + p.2]) _ fun p hp => ⟨_, rfl, by simp only [w_0, w_1, w_2, w_3, w_4, w_5, w_6, w_7, w_8, w_9, w_10, w_11, w_12, w_13, w_14, w_15, w_16, w_17, w_18, w_19, w_20, w_21, w_22, w_23, w_24, w_25, w_26, w_27, w_28, w_29, w_30, w_31, w_32, w_33, w_34, w_35, w_36, w_37, w_38, w_39, w_40, w_41, w_42, w_43, w_44, w_45, w_46, w_47, w_48, w_49, w_50, w_51, w_52, w_53, w_54, w_55, w_56, w_57, w_58, w_59, w_60, w_61, w_62, w_63, w_64, w_65, w_66, w_67, w_68, w_69, w_70, w_71, w_72, w_73, w_74, w_75, w_76, w_77, w_78, w_79, w_80, w_81, w_82, w_83, w_84, w_85, w_86, w_87, w_88, w_89, w_90, w_91, w_92, w_93, w_94, w_95, w_96, w_97, w_98, w_99, w_100, w_101, w_102, w_103, w_104, w_105, w_106, w_107, w_108, w_109, w_110, w_111, w_112, w_113, w_114, w_115, w_116, w_117, w_118, w_119, w_120, w_121, w_122, w_123, w_124, w_125, w_126, w_127, w_128, w_129, w_130, w_131, w_132, w_133, w_134, w_135, w_136, w_137, w_138, w_139, w_140, w_141, w_142, w_143, w_144, w_145, w_146, w_147, w_148, w_149, w_150, w_151, w_152, w_153, w_154, w_155, w_156, w_157, w_158, w_159, w_160, w_161, w_162, w_163, w_164, w_165, w_166, w_167, w_168, w_169, w_170, w_171, w_172, w_173, w_174, w_175, w_176, w_177, w_178, w_179, w_180, w_181, w_182, w_183, w_184, w_185, w_186, w_187, w_188, w_189, w_190, w_191, w_192, w_193, w_194, w_195, w_196, w_197, w_198, w_199, w_200, w_201, w_202, w_203, w_204, w_205, w_206, w_207, w_208, ↓reduceIte, Bool.not_true, Bool.not_false, Bool.false_eq_true, Bool.true_eq_false, if_true, if_false, List.map_cons, List.map_nil, List.length_cons, List.length_nil, List.cons_append, List.nil_append, List.replicate, Nat.reduceAdd, Nat.reduceSub, and_self], fun _ => ?_⟩]
      · have := congrArg (List.map fun n : Nat => D.str [48 + n]) (filter_kIx g.nd hcm)
        rw [List.map_map] at this
        exact congrArg okR this
      · have := (List.mem_zipIdx hp).2.1
        simp only [w_0, w_1, w_2, w_3, w_4, w_5, w_6, w_7, w_8, w_9, w_10, w_11, w_12, w_13, w_14, w_15, w_16, w_17, w_18, w_19, w_20, w_21, w_22, w_23, w_24, w_25, w_26, w_27, w_28, w_29, w_30, w_31, w_32, w_33, w_34, w_35, w_36, w_37, w_38, w_39, w_40, w_41, w_42, w_43, w_44, w_45, w_46, w_47, w_48, w_49, w_50, w_51, w_52, w_53, w_54, w_55, w_56, w_57, w_58, w_59, w_60, w_61, w_62, w_63, w_64, w_65, w_66, w_67, w_68, w_69, w_70, w_71, w_72, w_73, w_74, w_75, w_76, w_77, w_78, w_79, w_80, w_81, w_82, w_83, w_84, w_85, w_86, w_87, w_88, w_89, w_90, w_91, w_92, w_93, w_94, w_95, w_96, w_97, w_98, w_99, w_100, w_101, w_102, w_103, w_104, w_105, w_106, w_107, w_108, w_109, w_110, w_111, w_112, w_113, w_114, w_115, w_116, w_117, w_118, w_119, w_120, w_121, w_122, w_123, w_124, w_125, w_126, w_127, w_128, w_129, w_130, w_131, w_132, w_133, w_134, w_135, w_136, w_137, w_138, w_139, w_140, w_141, w_142, w_143, w_144, w_145, w_146, w_147, w_148, w_149, w_150, w_151, w_152, w_153, w_154, w_155, w_156, w_157, w_158, w_159, w_160, w_161, w_162, w_163, w_164, w_165, w_166, w_167, w_168, w_169, w_170, w_171, w_172, w_173, w_174, w_175, w_176, w_177, w_178, w_179, w_180, w_181, w_182, w_183, w_184, w_185, w_186, w_187, w_188, w_189, w_190, w_191, w_192, w_193, w_194, w_195, w_196, w_197, w_198, w_199, w_200, w_201, w_202, w_203, w_204, w_205, w_206, w_207, w_208, ↓reduceIte, Bool.not_true, Bool.not_false, Bool.false_eq_true, Bool.true_eq_false, if_true, if_false, List.map_cons, List.map_nil, List.length_cons, List.length_nil, List.cons_append, List.nil_append, List.replicate, Nat.reduceAdd, Nat.reduceSub, and_self, e_str (show p.2 ≤ 9 by omega)]
    have ht : (codeL kp (w.take i)).length + 1 ≤ 100000 := by unfold codeL; rw [List.length_map, List.length_take]; omega
    have et : codeL kp (w.take (i + 1)) = codeL kp (w.take i) ++ [48 + kIx kp c] := by
      unfold codeL
      rw [List.take_add_one, hc, List.map_append]
      rfl
    refine ⟨_, _, rfl, ?_, .sh (.str [c]), rfl⟩
    simp only [w_0, w_1, w_2, w_3, w_4, w_5, w_6, w_7, w_8, w_9, w_10, w_11, w_12, w_13, w_14, w_15, w_16, w_17, w_18, w_19, w_20, w_21, w_22, w_23, w_24, w_25, w_26, w_27, w_28, w_29, w_30, w_31, w_32, w_33, w_34, w_35, w_36, w_37, w_38, w_39, w_40, w_41, w_42, w_43, w_44, w_45, w_46, w_47, w_48, w_49, w_50, w_51, w_52, w_53, w_54, w_55, w_56, w_57, w_58, w_59, w_60, w_61, w_62, w_63, w_64, w_65, w_66, w_67, w_68, w_69, w_70, w_71, w_72, w_73, w_74, w_75, w_76, w_77, w_78, w_79, w_80, w_81, w_82, w_83, w_84, w_85, w_86, w_87, w_88, w_89, w_90, w_91, w_92, w_93, w_94, w_95, w_96, w_97, w_98, w_99, w_100, w_101, w_102, w_103, w_104, w_105, w_106, w_107, w_108, w_109, w_110, w_111, w_112, w_113, w_114, w_115, w_116, w_117, w_118, w_119, w_120, w_121, w_122, w_123, w_124, w_125, w_126, w_127, w_128, w_129, w_130, w_131, w_132, w_133, w_134, w_135, w_136, w_137, w_138, w_139, w_140, w_141, w_142, w_143, w_144, w_145, w_146, w_147, w_148, w_149, w_150, w_151, w_152, w_153, w_154, w_155, w_156, w_157, w_158, w_159, w_160, w_161, w_162, w_163, w_164, w_165, w_166, w_167, w_168, w_169, w_170, w_171, w_172, w_173, w_174, w_175, w_176, w_177, w_178, w_179, w_180, w_181, w_182, w_183, w_184, w_185, w_186, w_187, w_188, w_189, w_190, w_191, w_192, w_193, w_194, w_195, w_196, w_197, w_198, w_199, w_200, w_201, w_202, w_203, w_204, w_205, w_206, w_207, w_208, ↓reduceIte, Bool.not_true, Bool.not_false, Bool.false_eq_true, Bool.true_eq_false, if_true, if_false, List.map_cons, List.map_nil, List.length_cons, List.length_nil, List.cons_append, List.nil_append, List.replicate, Nat.reduceAdd, Nat.reduceSub, and_self, Option.map, lc, w_195 (l := [[48 + kIx kp c]]) (by simp), et, -List.map_cons]
    simp only [w_0, w_1, w_2, w_3, w_4, w_5, w_6, w_7, w_8, w_9, w_10, w_11, w_12, w_13, w_14, w_15, w_16, w_17, w_18, w_19, w_20, w_21, w_22, w_23, w_24, w_25, w_26, w_27, w_28, w_29, w_30, w_31, w_32, w_33, w_34, w_35, w_36, w_37, w_38, w_39, w_40, w_41, w_42, w_43, w_44, w_45, w_46, w_47, w_48, w_49, w_50, w_51, w_52, w_53, w_54, w_55, w_56, w_57, w_58, w_59, w_60, w_61, w_62, w_63, w_64, w_65, w_66, w_67, w_68, w_69, w_70, w_71, w_72, w_73, w_74, w_75, w_76, w_77, w_78, w_79, w_80, w_81, w_82, w_83, w_84, w_85, w_86, w_87, w_88, w_89, w_90, w_91, w_92, w_93, w_94, w_95, w_96, w_97, w_98, w_99, w_100, w_101, w_102, w_103, w_104, w_105, w_106, w_107, w_108, w_109, w_110, w_111, w_112, w_113, w_114, w_115, w_116, w_117, w_118, w_119, w_120, w_121, w_122, w_123, w_124, w_125, w_126, w_127, w_128, w_129, w_130, w_131, w_132, w_133, w_134, w_135, w_136, w_137, w_138, w_139, w_140, w_141, w_142, w_143, w_144, w_145, w_146, w_147, w_148, w_149, w_150, w_151, w_152, w_153, w_154, w_155, w_156, w_157, w_158, w_159, w_160, w_161, w_162, w_163, w_164, w_165, w_166, w_167, w_168, w_169, w_170, w_171, w_172, w_173, w_174, w_175, w_176, w_177, w_178, w_179, w_180, w_181, w_182, w_183, w_184, w_185, w_186, w_187, w_188, w_189, w_190, w_191, w_192, w_193, w_194, w_195, w_196, w_197, w_198, w_199, w_200, w_201, w_202, w_203, w_204, w_205, w_206, w_207, w_208, ↓reduceIte, Bool.not_true, Bool.not_false, Bool.false_eq_true, Bool.true_eq_false, if_true, if_false, List.map_cons, List.map_nil, List.length_cons, List.length_nil, List.cons_append, List.nil_append, List.replicate, Nat.reduceAdd, Nat.reduceSub, and_self, List.flatten_cons, List.flatten_nil, List.append_nil, ht, et]
/-! _law_badpad, _law_badword, _law_error -/
abbrev badP : List D := [.non, .tup [], .lst [.str [97]], .tup [.str []], .tup [.str [97, 97]], .tup [.str [97], .str [97]], .tup [.str [65]], .tup [.str [97, 49]], .tup [.str [97], .int 7], .str [97, 98], .tup (signsD [97, 98, 99, 100, 101, 102, 103, 104, 105, 106, 107])]
theorem badP_no : ∀ d ∈ badP, g_is_keypad [d] = okR (.bl false) := by
  intro d hd
  simp only [List.mem_cons, List.not_mem_nil, or_false] at hd
  rcases hd with rfl | rfl | rfl | rfl | rfl | rfl | rfl | rfl | rfl | rfl | rfl <;> kernel_rfl
theorem badpad_ok (ns : List Int) (hns : ns.length ≤ 63) {a : Int} (ha : 0 ≤ a) : ∃ d, g__law_badpad [.scr ns, .int a] = okR d ∧ g_is_keypad [d] = okR (.bl false) := by
  obtain ⟨r, hr, h0, h1⟩ := drawn_ok ns hns (k := a) (m := 11) ha (by decide)
  obtain ⟨d, hd, hd2⟩ := atI_lt (l := badP) (i := r) h0 h1
  refine ⟨d, ?_, badP_no d (List.mem_of_getElem? hd2)⟩
  unfold g__law_badpad m__law_badpad
  simp only [w_0, w_1, w_2, w_3, w_4, w_5, w_6, w_7, w_8, w_9, w_10, w_11, w_12, w_13, w_14, w_15, w_16, w_17, w_18, w_19, w_20, w_21, w_22, w_23, w_24, w_25, w_26, w_27, w_28, w_29, w_30, w_31, w_32, w_33, w_34, w_35, w_36, w_37, w_38, w_39, w_40, w_41, w_42, w_43, w_44, w_45, w_46, w_47, w_48, w_49, w_50, w_51, w_52, w_53, w_54, w_55, w_56, w_57, w_58, w_59, w_60, w_61, w_62, w_63, w_64, w_65, w_66, w_67, w_68, w_69, w_70, w_71, w_72, w_73, w_74, w_75, w_76, w_77, w_78, w_79, w_80, w_81, w_82, w_83, w_84, w_85, w_86, w_87, w_88, w_89, w_90, w_91, w_92, w_93, w_94, w_95, w_96, w_97, w_98, w_99, w_100, w_101, w_102, w_103, w_104, w_105, w_106, w_107, w_108, w_109, w_110, w_111, w_112, w_113, w_114, w_115, w_116, w_117, w_118, w_119, w_120, w_121, w_122, w_123, w_124, w_125, w_126, w_127, w_128, w_129, w_130, w_131, w_132, w_133, w_134, w_135, w_136, w_137, w_138, w_139, w_140, w_141, w_142, w_143, w_144, w_145, w_146, w_147, w_148, w_149, w_150, w_151, w_152, w_153, w_154, w_155, w_156, w_157, w_158, w_159, w_160, w_161, w_162, w_163, w_164, w_165, w_166, w_167, w_168, w_169, w_170, w_171, w_172, w_173, w_174, w_175, w_176, w_177, w_178, w_179, w_180, w_181, w_182, w_183, w_184, w_185, w_186, w_187, w_188, w_189, w_190, w_191, w_192, w_193, w_194, w_195, w_196, w_197, w_198, w_199, w_200, w_201, w_202, w_203, w_204, w_205, w_206, w_207, w_208, ↓reduceIte, Bool.not_true, Bool.not_false, Bool.false_eq_true, Bool.true_eq_false, if_true, if_false, List.map_cons, List.map_nil, List.length_cons, List.length_nil, List.cons_append, List.nil_append, List.replicate, Nat.reduceAdd, Nat.reduceSub, and_self, hr, Nat.reduceLeDiff]
  rw [hd]
  rfl
abbrev badW : List D := [.non, .str [], .str [65], .str [97, 98, 97, 98, 97, 98, 97, 97, 98], .int 7, .tup [.str [97]], .str [122], .str [97, 32, 98]]
theorem badword_ok (ns : List Int) (hns : ns.length ≤ 63) {a : Int} (ha : 0 ≤ a) : ∃ d, g__law_badword [.scr ns, .int a] = okR d ∧ d ∈ badW := by
  obtain ⟨r, hr, h0, h1⟩ := drawn_ok ns hns (k := a) (m := 8) ha (by decide)
  obtain ⟨d, hd, hd2⟩ := atI_lt (l := badW) (i := r) h0 h1
  refine ⟨d, ?_, List.mem_of_getElem? hd2⟩
  unfold g__law_badword m__law_badword
  simp only [w_0, w_1, w_2, w_3, w_4, w_5, w_6, w_7, w_8, w_9, w_10, w_11, w_12, w_13, w_14, w_15, w_16, w_17, w_18, w_19, w_20, w_21, w_22, w_23, w_24, w_25, w_26, w_27, w_28, w_29, w_30, w_31, w_32, w_33, w_34, w_35, w_36, w_37, w_38, w_39, w_40, w_41, w_42, w_43, w_44, w_45, w_46, w_47, w_48, w_49, w_50, w_51, w_52, w_53, w_54, w_55, w_56, w_57, w_58, w_59, w_60, w_61, w_62, w_63, w_64, w_65, w_66, w_67, w_68, w_69, w_70, w_71, w_72, w_73, w_74, w_75, w_76, w_77, w_78, w_79, w_80, w_81, w_82, w_83, w_84, w_85, w_86, w_87, w_88, w_89, w_90, w_91, w_92, w_93, w_94, w_95, w_96, w_97, w_98, w_99, w_100, w_101, w_102, w_103, w_104, w_105, w_106, w_107, w_108, w_109, w_110, w_111, w_112, w_113, w_114, w_115, w_116, w_117, w_118, w_119, w_120, w_121, w_122, w_123, w_124, w_125, w_126, w_127, w_128, w_129, w_130, w_131, w_132, w_133, w_134, w_135, w_136, w_137, w_138, w_139, w_140, w_141, w_142, w_143, w_144, w_145, w_146, w_147, w_148, w_149, w_150, w_151, w_152, w_153, w_154, w_155, w_156, w_157, w_158, w_159, w_160, w_161, w_162, w_163, w_164, w_165, w_166, w_167, w_168, w_169, w_170, w_171, w_172, w_173, w_174, w_175, w_176, w_177, w_178, w_179, w_180, w_181, w_182, w_183, w_184, w_185, w_186, w_187, w_188, w_189, w_190, w_191, w_192, w_193, w_194, w_195, w_196, w_197, w_198, w_199, w_200, w_201, w_202, w_203, w_204, w_205, w_206, w_207, w_208, ↓reduceIte, Bool.not_true, Bool.not_false, Bool.false_eq_true, Bool.true_eq_false, if_true, if_false, List.map_cons, List.map_nil, List.length_cons, List.length_nil, List.cons_append, List.nil_append, List.replicate, Nat.reduceAdd, Nat.reduceSub, and_self, hr]
  rw [hd]
  rfl
/-- what the errors' classes are told as -/
def told : Cl → Int
  | .invalidKeypad => 0
  | .invalidLetter => 1
  | _ => 2
abbrev Cs3 : List Cl := [.invalidKeypad, .invalidLetter, .invalidWord]
abbrev tb5 : Tb := [("is_word", 2, g_is_word), ("key_of", 2, g_key_of), ("code", 2, g_code), ("presses", 2, g_presses), ("pauses", 2, g_pauses)]
abbrev fs5 : List D := [.fn "is_word", .fn "key_of", .fn "code", .fn "presses", .fn "pauses"]
theorem law_error_of {way : Int} {one two : D} {x : PySem.Str} {f : List D → Rs D} {c : Cl} (hw : atI fs5 way = some (.fn x)) (ht : tbGet tb5 x = some (2, f)) (hf : f [one, two] = some (.error c)) (hc : c ∈ Cs3) : g__law_error [.int way, one, two] = okR (.int (told c)) := by
  unfold g__law_error m__law_error
  have hsu : (mRet (mMt "list" (m1 lindexD) (mLst (mCons (mCB (isED [.invalidKeypad, .invalidLetter, .invalidWord]) (mCons (mVar 3) (mCons (mC (.cls .invalidKeypad)) (mNil)))) (mCons (mCB (isED [.invalidKeypad, .invalidLetter, .invalidWord]) (mCons (mVar 3) (mCons (mC (.cls .invalidLetter)) (mNil)))) (mCons (mCB (isED [.invalidKeypad, .invalidLetter, .invalidWord]) (mCons (mVar 3) (mCons (mC (.cls .invalidWord)) (mNil)))) (mNil))))) (mCons (mC (.bl true)) (mNil)))) (suiteS 4 3 c) = okR (.rt (.int (told c))) := by
    simp only [List.mem_cons, List.not_mem_nil, or_false] at hc
    rcases hc with rfl | rfl | rfl <;> rfl
  have e1 : (mDrop (mCallV tb5 (mOp getD (mLst (mCons (mC (.fn "is_word")) (mCons (mC (.fn "key_of")) (mCons (mC (.fn "code")) (mCons (mC (.fn "presses")) (mCons (mC (.fn "pauses")) (mNil))))))) (mVar 0)) (mCons (mVar 1) (mCons (mVar 2) (mNil))))) [.sh (.int way), .sh one, .sh two, .un] = some (.error c) := by
    simp only [w_0, w_1, w_2, w_3, w_4, w_5, w_6, w_7, w_8, w_9, w_10, w_11, w_12, w_13, w_14, w_15, w_16, w_17, w_18, w_19, w_20, w_21, w_22, w_23, w_24, w_25, w_26, w_27, w_28, w_29, w_30, w_31, w_32, w_33, w_34, w_35, w_36, w_37, w_38, w_39, w_40, w_41, w_42, w_43, w_44, w_45, w_46, w_47, w_48, w_49, w_50, w_51, w_52, w_53, w_54, w_55, w_56, w_57, w_58, w_59, w_60, w_61, w_62, w_63, w_64, w_65, w_66, w_67, w_68, w_69, w_70, w_71, w_72, w_73, w_74, w_75, w_76, w_77, w_78, w_79, w_80, w_81, w_82, w_83, w_84, w_85, w_86, w_87, w_88, w_89, w_90, w_91, w_92, w_93, w_94, w_95, w_96, w_97, w_98, w_99, w_100, w_101, w_102, w_103, w_104, w_105, w_106, w_107, w_108, w_109, w_110, w_111, w_112, w_113, w_114, w_115, w_116, w_117, w_118, w_119, w_120, w_121, w_122, w_123, w_124, w_125, w_126, w_127, w_128, w_129, w_130, w_131, w_132, w_133, w_134, w_135, w_136, w_137, w_138, w_139, w_140, w_141, w_142, w_143, w_144, w_145, w_146, w_147, w_148, w_149, w_150, w_151, w_152, w_153, w_154, w_155, w_156, w_157, w_158, w_159, w_160, w_161, w_162, w_163, w_164, w_165, w_166, w_167, w_168, w_169, w_170, w_171, w_172, w_173, w_174, w_175, w_176, w_177, w_178, w_179, w_180, w_181, w_182, w_183, w_184, w_185, w_186, w_187, w_188, w_189, w_190, w_191, w_192, w_193, w_194, w_195, w_196, w_197, w_198, w_199, w_200, w_201, w_202, w_203, w_204, w_205, w_206, w_207, w_208, ↓reduceIte, Bool.not_true, Bool.not_false, Bool.false_eq_true, Bool.true_eq_false, if_true, if_false, List.map_cons, List.map_nil, List.length_cons, List.length_nil, List.cons_append, List.nil_append, List.replicate, Nat.reduceAdd, Nat.reduceSub, and_self, hw, cvB_fn ht, hf]
  rw [w_113, w_89, w_199, w_127]
  show Rs.bnd (Rs.bnd (tryB _ ((mDrop (mCallV tb5 _ _)) [.sh (.int way), .sh one, .sh two, .un])) _) _ = _
  rw [e1, w_124, suK_in hc hsu rfl]
  rfl
theorem tb_0 : tbGet tb5 "is_word" = some (2, g_is_word) := by rfl
theorem tb_1 : tbGet tb5 "key_of" = some (2, g_key_of) := by rfl
theorem tb_2 : tbGet tb5 "code" = some (2, g_code) := by rfl
theorem tb_3 : tbGet tb5 "presses" = some (2, g_presses) := by rfl
theorem tb_4 : tbGet tb5 "pauses" = some (2, g_pauses) := by rfl
theorem err_0 {one two : D} {c : Cl} (hf : g_is_word [one, two] = some (.error c)) (hc : c ∈ Cs3) : g__law_error [.int 0, one, two] = okR (.int (told c)) := law_error_of (atI_of (j := 0) rfl rfl) tb_0 hf hc
theorem err_1 {one two : D} {c : Cl} (hf : g_key_of [one, two] = some (.error c)) (hc : c ∈ Cs3) : g__law_error [.int 1, one, two] = okR (.int (told c)) := law_error_of (atI_of (j := 1) rfl rfl) tb_1 hf hc
/-- the three that look at a word -/
theorem err_3 {one two : D} {c : Cl} (hf : g_check_word [one, two] = some (.error c)) (hc : c ∈ Cs3) : ∀ i ∈ ([2, 3, 4] : List Int), g__law_error [.int i, one, two] = okR (.int (told c)) := by
  have h2 : g_code [one, two] = some (.error c) := by
    unfold g_code m_code
    simp only [w_0, w_1, w_2, w_3, w_4, w_5, w_6, w_7, w_8, w_9, w_10, w_11, w_12, w_13, w_14, w_15, w_16, w_17, w_18, w_19, w_20, w_21, w_22, w_23, w_24, w_25, w_26, w_27, w_28, w_29, w_30, w_31, w_32, w_33, w_34, w_35, w_36, w_37, w_38, w_39, w_40, w_41, w_42, w_43, w_44, w_45, w_46, w_47, w_48, w_49, w_50, w_51, w_52, w_53, w_54, w_55, w_56, w_57, w_58, w_59, w_60, w_61, w_62, w_63, w_64, w_65, w_66, w_67, w_68, w_69, w_70, w_71, w_72, w_73, w_74, w_75, w_76, w_77, w_78, w_79, w_80, w_81, w_82, w_83, w_84, w_85, w_86, w_87, w_88, w_89, w_90, w_91, w_92, w_93, w_94, w_95, w_96, w_97, w_98, w_99, w_100, w_101, w_102, w_103, w_104, w_105, w_106, w_107, w_108, w_109, w_110, w_111, w_112, w_113, w_114, w_115, w_116, w_117, w_118, w_119, w_120, w_121, w_122, w_123, w_124, w_125, w_126, w_127, w_128, w_129, w_130, w_131, w_132, w_133, w_134, w_135, w_136, w_137, w_138, w_139, w_140, w_141, w_142, w_143, w_144, w_145, w_146, w_147, w_148, w_149, w_150, w_151, w_152, w_153, w_154, w_155, w_156, w_157, w_158, w_159, w_160, w_161, w_162, w_163, w_164, w_165, w_166, w_167, w_168, w_169, w_170, w_171, w_172, w_173, w_174, w_175, w_176, w_177, w_178, w_179, w_180, w_181, w_182, w_183, w_184, w_185, w_186, w_187, w_188, w_189, w_190, w_191, w_192, w_193, w_194, w_195, w_196, w_197, w_198, w_199, w_200, w_201, w_202, w_203, w_204, w_205, w_206, w_207, w_208, ↓reduceIte, Bool.not_true, Bool.not_false, Bool.false_eq_true, Bool.true_eq_false, if_true, if_false, List.map_cons, List.map_nil, List.length_cons, List.length_nil, List.cons_append, List.nil_append, List.replicate, Nat.reduceAdd, Nat.reduceSub, and_self, hf]
  have h3 : g_presses [one, two] = some (.error c) := by
    unfold g_presses m_presses
    simp only [w_0, w_1, w_2, w_3, w_4, w_5, w_6, w_7, w_8, w_9, w_10, w_11, w_12, w_13, w_14, w_15, w_16, w_17, w_18, w_19, w_20, w_21, w_22, w_23, w_24, w_25, w_26, w_27, w_28, w_29, w_30, w_31, w_32, w_33, w_34, w_35, w_36, w_37, w_38, w_39, w_40, w_41, w_42, w_43, w_44, w_45, w_46, w_47, w_48, w_49, w_50, w_51, w_52, w_53, w_54, w_55, w_56, w_57, w_58, w_59, w_60, w_61, w_62, w_63, w_64, w_65, w_66, w_67, w_68, w_69, w_70, w_71, w_72, w_73, w_74, w_75, w_76, w_77, w_78, w_79, w_80, w_81, w_82, w_83, w_84, w_85, w_86, w_87, w_88, w_89, w_90, w_91, w_92, w_93, w_94, w_95, w_96, w_97, w_98, w_99, w_100, w_101, w_102, w_103, w_104, w_105, w_106, w_107, w_108, w_109, w_110, w_111, w_112, w_113, w_114, w_115, w_116, w_117, w_118, w_119, w_120, w_121, w_122, w_123, w_124, w_125, w_126, w_127, w_128, w_129, w_130, w_131, w_132, w_133, w_134, w_135, w_136, w_137, w_138, w_139, w_140, w_141, w_142, w_143, w_144, w_145, w_146, w_147, w_148, w_149, w_150, w_151, w_152, w_153, w_154, w_155, w_156, w_157, w_158, w_159, w_160, w_161, w_162, w_163, w_164, w_165, w_166, w_167, w_168, w_169, w_170, w_171, w_172, w_173, w_174, w_175, w_176, w_177, w_178, w_179, w_180, w_181, w_182, w_183, w_184, w_185, w_186, w_187, w_188, w_189, w_190, w_191, w_192, w_193, w_194, w_195, w_196, w_197, w_198, w_199, w_200, w_201, w_202, w_203, w_204, w_205, w_206, w_207, w_208, ↓reduceIte, Bool.not_true, Bool.not_false, Bool.false_eq_true, Bool.true_eq_false, if_true, if_false, List.map_cons, List.map_nil, List.length_cons, List.length_nil, List.cons_append, List.nil_append, List.replicate, Nat.reduceAdd, Nat.reduceSub, and_self, hf]
  have h4 : g_pauses [one, two] = some (.error c) := by
    unfold g_pauses m_pauses
    simp only [w_0, w_1, w_2, w_3, w_4, w_5, w_6, w_7, w_8, w_9, w_10, w_11, w_12, w_13, w_14, w_15, w_16, w_17, w_18, w_19, w_20, w_21, w_22, w_23, w_24, w_25, w_26, w_27, w_28, w_29, w_30, w_31, w_32, w_33, w_34, w_35, w_36, w_37, w_38, w_39, w_40, w_41, w_42, w_43, w_44, w_45, w_46, w_47, w_48, w_49, w_50, w_51, w_52, w_53, w_54, w_55, w_56, w_57, w_58, w_59, w_60, w_61, w_62, w_63, w_64, w_65, w_66, w_67, w_68, w_69, w_70, w_71, w_72, w_73, w_74, w_75, w_76, w_77, w_78, w_79, w_80, w_81, w_82, w_83, w_84, w_85, w_86, w_87, w_88, w_89, w_90, w_91, w_92, w_93, w_94, w_95, w_96, w_97, w_98, w_99, w_100, w_101, w_102, w_103, w_104, w_105, w_106, w_107, w_108, w_109, w_110, w_111, w_112, w_113, w_114, w_115, w_116, w_117, w_118, w_119, w_120, w_121, w_122, w_123, w_124, w_125, w_126, w_127, w_128, w_129, w_130, w_131, w_132, w_133, w_134, w_135, w_136, w_137, w_138, w_139, w_140, w_141, w_142, w_143, w_144, w_145, w_146, w_147, w_148, w_149, w_150, w_151, w_152, w_153, w_154, w_155, w_156, w_157, w_158, w_159, w_160, w_161, w_162, w_163, w_164, w_165, w_166, w_167, w_168, w_169, w_170, w_171, w_172, w_173, w_174, w_175, w_176, w_177, w_178, w_179, w_180, w_181, w_182, w_183, w_184, w_185, w_186, w_187, w_188, w_189, w_190, w_191, w_192, w_193, w_194, w_195, w_196, w_197, w_198, w_199, w_200, w_201, w_202, w_203, w_204, w_205, w_206, w_207, w_208, ↓reduceIte, Bool.not_true, Bool.not_false, Bool.false_eq_true, Bool.true_eq_false, if_true, if_false, List.map_cons, List.map_nil, List.length_cons, List.length_nil, List.cons_append, List.nil_append, List.replicate, Nat.reduceAdd, Nat.reduceSub, and_self, hf]
  intro i hi
  simp only [List.mem_cons, List.not_mem_nil, or_false] at hi
  rcases hi with rfl | rfl | rfl
  · exact law_error_of (atI_of (j := 2) rfl rfl) tb_2 h2 hc
  · exact law_error_of (atI_of (j := 3) rfl rfl) tb_3 h3 hc
  · exact law_error_of (atI_of (j := 4) rfl rfl) tb_4 h4 hc
/-! the law -/
theorem bad_word {n : Nat} {kp : Pad} (hI : LInv n kp) (g : Good kp) : ∀ d ∈ badW, g_has_word [pD kp, d] = okR (.bl false) := by
  have hm : ∀ c, (c < 97 ∨ 104 < c) → decide (c ∈ kp.flatten) = false := fun c hc => decide_eq_false fun h => by
    have := BL_range c (List.mem_of_mem_take (hI.pm.mem_iff.mp h))
    omega
  intro d hd
  simp only [List.mem_cons, List.not_mem_nil, or_false] at hd
  rcases hd with rfl | rfl | rfl | rfl | rfl | rfl | rfl | rfl
  · exact has_word_n g w_144
  · rw [has_word_s g (by simp)]; rfl
  · rw [has_word_s g (by simp)]; unfold wordB; simp only [List.all_cons, hm 65 (by omega), Bool.false_and, Bool.and_false]
  · rw [has_word_s g (by simp)]; unfold wordB; simp only [List.length_cons, List.length_nil]; rfl
  · exact has_word_n g (w_146 _)
  · exact has_word_n g (w_147 _)
  · rw [has_word_s g (by simp)]; unfold wordB; simp only [List.all_cons, hm 122 (by omega), Bool.false_and, Bool.and_false]
  · rw [has_word_s g (by simp)]; unfold wordB; simp only [List.all_cons, hm 32 (by omega), Bool.false_and, Bool.and_false]
theorem bad_letter {n : Nat} {kp : Pad} (hI : LInv n kp) (g : Good kp) (h2 : 2 ≤ kp.flatten.length) : ∀ d ∈ ([.non, .str [], .str (kp.flatten.take 2), .str [122], .str [65], .int 7] : List D), g_is_string [d, .str kp.flatten, .int 1, .int 1] = okR (.bl false) := by
  have hm : ∀ c, (c < 97 ∨ 104 < c) → decide (c ∈ kp.flatten) = false := fun c hc => decide_eq_false fun h => by
    have := BL_range c (List.mem_of_mem_take (hI.pm.mem_iff.mp h))
    omega
  intro d hd
  simp only [List.mem_cons, List.not_mem_nil, or_false] at hd
  rcases hd with rfl | rfl | rfl | rfl | rfl | rfl
  · exact is_string_n w_144
  · rw [letter_s g (by simp)]; rfl
  · rw [letter_s g (by rw [List.length_take]; omega), decide_eq_false (by rw [List.length_take]; omega), Bool.false_and]
  · rw [letter_s g (by simp)]; simp only [List.all_cons, hm 122 (by omega), Bool.false_and, Bool.and_false]
  · rw [letter_s g (by simp)]; simp only [List.all_cons, hm 65 (by omega), Bool.false_and, Bool.and_false]
  · exact is_string_n (w_146 _)
theorem good_az : Good [LETT] := ⟨by decide, by decide, by decide, fun c hc => mem_LETT.mp (by simpa using hc), by decide⟩
abbrev pad10 : Pad := [[97], [98], [99], [100], [101], [102], [103], [104], [105], [106]]
theorem good_10 : Good pad10 := ⟨by decide, by decide, by decide, by decide, by decide⟩
section
variable {ns : List Int} {kp : Pad}
/-- the first loop -/
theorem loop1 (g : Good kp) : ∃ x y, forGo (.two 3 4) bd_law_3 (enumL (kp.map .str)) [.sh (.scr ns), .sh (.tup (kp.map .str)), .sh (.str kp.flatten), .un, .un, .un, .un, .un, .un, .un, .un, .un, .un, .un, .un, .un] = okR (.nx [.sh (.scr ns), .sh (.tup (kp.map .str)), .sh (.str kp.flatten), x, y, .un, .un, .un, .un, .un, .un, .un, .un, .un, .un, .un]) := by
  have loop := forGo_inv (t := .two 3 4) (b := bd_law_3) (I := fun _ st => ∃ x y, st = [.sh (.scr ns), .sh (.tup (kp.map .str)), .sh (.str kp.flatten), x, y, .un, .un, .un, .un, .un, .un, .un, .un, .un, .un, .un]) (enumL (kp.map .str)) 0 _ ⟨.un, .un, rfl⟩ ?_
  · obtain ⟨st', h1, x, y, rfl⟩ := loop
    exact ⟨x, y, h1⟩
  · intro i d st hd ⟨x, y, e⟩
    subst e
    rw [enumL_map, List.getElem?_map] at hd
    obtain ⟨⟨k, j⟩, hp, rfl⟩ := Option.map_eq_some_iff.mp hd
    have hk : kp[i]? = some k ∧ j = i := by
      rw [List.getElem?_zipIdx] at hp
      obtain ⟨k', h1, h2⟩ := Option.map_eq_some_iff.mp hp
      cases h2
      exact ⟨h1, by omega⟩
    obtain ⟨hk, rfl⟩ := hk
    have hkm := List.mem_of_getElem? hk
    have lc : lcGo (.one 10) ts_law_1 el_law_2 [.sh (.scr ns), .sh (.tup (kp.map .str)), .sh (.str kp.flatten), .sh (.int (j : Nat)), .sh (.str k), .un, .un, .un, .un, .un, .un, .un, .un, .un, .un, .un] (k.map fun c => .str [c]) = okR [] := by
      rw [lcM (p := fun _ => false) (h := fun c => .str [c]) k fun c hc => ⟨_, rfl, ?_, fun z => nomatch z⟩]
      · rw [List.filter_eq_nil_iff.mpr (fun _ _ => Bool.false_ne_true)]; rfl
      · have e1 : g_key_of [.tup (kp.map .str), .str [c]] = okR (.int (kIx kp c : Nat)) := key_of_s g (List.mem_flatten.mpr ⟨k, hkm, hc⟩)
        have e2 : kIx kp c = j := (kIx_uniq g.nd hk hc).symm
        unfold ts_law_1
        simp only [w_0, w_1, w_2, w_3, w_4, w_5, w_6, w_7, w_8, w_9, w_10, w_11, w_12, w_13, w_14, w_15, w_16, w_17, w_18, w_19, w_20, w_21, w_22, w_23, w_24, w_25, w_26, w_27, w_28, w_29, w_30, w_31, w_32, w_33, w_34, w_35, w_36, w_37, w_38, w_39, w_40, w_41, w_42, w_43, w_44, w_45, w_46, w_47, w_48, w_49, w_50, w_51, w_52, w_53, w_54, w_55, w_56, w_57, w_58, w_59, w_60, w_61, w_62, w_63, w_64, w_65, w_66, w_67, w_68, w_69, w_70, w_71, w_72, w_73, w_74, w_75, w_76, w_77, w_78, w_79, w_80, w_81, w_82, w_83, w_84, w_85, w_86, w_87, w_88, w_89, w_90, w_91, w_92, w_93, w_94, w_95, w_96, w_97, w_98, w_99, w_100, w_101, w_102, w_103, w_104, w_105, w_106, w_107, w_108, w_109, w_110, w_111, w_112, w_113, w_114, w_115, w_116, w_117, w_118, w_119, w_120, w_121, w_122, w_123, w_124, w_125, w_126, w_127, w_128, w_129, w_130, w_131, w_132, w_133, w_134, w_135, w_136, w_137, w_138, w_139, w_140, w_141, w_142, w_143, w_144, w_145, w_146, w_147, w_148, w_149, w_150, w_151, w_152, w_153, w_154, w_155, w_156, w_157, w_158, w_159, w_160, w_161, w_162, w_163, w_164, w_165, w_166, w_167, w_168, w_169, w_170, w_171, w_172, w_173, w_174, w_175, w_176, w_177, w_178, w_179, w_180, w_181, w_182, w_183, w_184, w_185, w_186, w_187, w_188, w_189, w_190, w_191, w_192, w_193, w_194, w_195, w_196, w_197, w_198, w_199, w_200, w_201, w_202, w_203, w_204, w_205, w_206, w_207, w_208, ↓reduceIte, Bool.not_true, Bool.not_false, Bool.false_eq_true, Bool.true_eq_false, if_true, if_false, List.map_cons, List.map_nil, List.length_cons, List.length_nil, List.cons_append, List.nil_append, List.replicate, Nat.reduceAdd, Nat.reduceSub, and_self, e1, e2, beq_self_eq_true]
    have hkl := g.klen hkm
    refine ⟨_, _, rfl, ?_, .sh (.int (j : Nat)), .sh (.str k), rfl⟩
    unfold bd_law_3
    simp only [w_0, w_1, w_2, w_3, w_4, w_5, w_6, w_7, w_8, w_9, w_10, w_11, w_12, w_13, w_14, w_15, w_16, w_17, w_18, w_19, w_20, w_21, w_22, w_23, w_24, w_25, w_26, w_27, w_28, w_29, w_30, w_31, w_32, w_33, w_34, w_35, w_36, w_37, w_38, w_39, w_40, w_41, w_42, w_43, w_44, w_45, w_46, w_47, w_48, w_49, w_50, w_51, w_52, w_53, w_54, w_55, w_56, w_57, w_58, w_59, w_60, w_61, w_62, w_63, w_64, w_65, w_66, w_67, w_68, w_69, w_70, w_71, w_72, w_73, w_74, w_75, w_76, w_77, w_78, w_79, w_80, w_81, w_82, w_83, w_84, w_85, w_86, w_87, w_88, w_89, w_90, w_91, w_92, w_93, w_94, w_95, w_96, w_97, w_98, w_99, w_100, w_101, w_102, w_103, w_104, w_105, w_106, w_107, w_108, w_109, w_110, w_111, w_112, w_113, w_114, w_115, w_116, w_117, w_118, w_119, w_120, w_121, w_122, w_123, w_124, w_125, w_126, w_127, w_128, w_129, w_130, w_131, w_132, w_133, w_134, w_135, w_136, w_137, w_138, w_139, w_140, w_141, w_142, w_143, w_144, w_145, w_146, w_147, w_148, w_149, w_150, w_151, w_152, w_153, w_154, w_155, w_156, w_157, w_158, w_159, w_160, w_161, w_162, w_163, w_164, w_165, w_166, w_167, w_168, w_169, w_170, w_171, w_172, w_173, w_174, w_175, w_176, w_177, w_178, w_179, w_180, w_181, w_182, w_183, w_184, w_185, w_186, w_187, w_188, w_189, w_190, w_191, w_192, w_193, w_194, w_195, w_196, w_197, w_198, w_199, w_200, w_201, w_202, w_203, w_204, w_205, w_206, w_207, w_208, ↓reduceIte, Bool.not_true, Bool.not_false, Bool.false_eq_true, Bool.true_eq_false, if_true, if_false, List.map_cons, List.map_nil, List.length_cons, List.length_nil, List.cons_append, List.nil_append, List.replicate, Nat.reduceAdd, Nat.reduceSub, and_self, (show k.length ≤ 100000 by omega), lc, (show eqD true (.lst []) (.lst []) = some (.bl false) from rfl)]
/-- a word of letters -/
theorem loop2 (hns : ns.length ≤ 63) {kk : Int} (hk : 0 ≤ kk) (g : Good kp) (hL : 1 ≤ kp.flatten.length) (n : Nat) (hn : n ≤ 8) {x y z8 z9 z10 : Sl} {z7 : Sl} : ∃ (w : List Nat) (u : Sl), w.length = n ∧ (∀ c ∈ w, c ∈ kp.flatten) ∧
    forGo (.one 7) bd_law_4 (rangeL 0 1 n) [.sh (.scr ns), .sh (.tup (kp.map .str)), .sh (.str kp.flatten), x, y, .sh (.int kk), .sh (.str []), z7, z8, z9, z10, .un, .un, .un, .un, .un] = okR (.nx [.sh (.scr ns), .sh (.tup (kp.map .str)), .sh (.str kp.flatten), x, y, .sh (.int kk), .sh (.str w), u, z8, z9, z10, .un, .un, .un, .un, .un]) := by
  have loop := forGo_inv (t := .one 7) (b := bd_law_4) (I := fun i st => ∃ (w : List Nat) (u : Sl), st = [.sh (.scr ns), .sh (.tup (kp.map .str)), .sh (.str kp.flatten), x, y, .sh (.int kk), .sh (.str w), u, z8, z9, z10, .un, .un, .un, .un, .un] ∧ (∀ c ∈ w, c ∈ kp.flatten) ∧ w.length = i) (rangeL 0 1 n) 0 _ ⟨[], z7, rfl, by simp, rfl⟩ ?_
  · obtain ⟨st', h1, w, u, rfl, hw, hwl⟩ := loop
    rw [Nat.zero_add, rangeL_len] at hwl
    exact ⟨w, u, hwl, hw, h1⟩
  · intro i d st hd ⟨w, u, e, hw, hwl⟩
    subst e
    have hi : i < n := by
      have := (List.getElem?_eq_some_iff.mp hd).1
      rwa [rangeL_len] at this
    rw [rangeL_get hi] at hd
    have hd' : d = .int (i : Int) := by
      rw [← Option.some.inj hd]; congr 1; omega
    subst hd'
    have hlen := g.len
    obtain ⟨r, hr, hr0, hr1⟩ := drawn_ok ns hns (k := 51 + 10 * kk + i) (m := (kp.flatten.length : Nat)) (by omega) (by omega)
    obtain ⟨c, hc1, hc2⟩ := atI_lt (l := kp.flatten) hr0 hr1
    have m10 : mulE (.int 10) (.int kk) = some (.int (10 * kk)) := w_162 (.inl (by decide))
    refine ⟨_, _, rfl, ?_, w ++ [c], .sh (.int (i : Int)), rfl, fun c' hc' => ?_, by rw [List.length_append, hwl]; simp⟩
    · unfold bd_law_4
      simp only [w_0, w_1, w_2, w_3, w_4, w_5, w_6, w_7, w_8, w_9, w_10, w_11, w_12, w_13, w_14, w_15, w_16, w_17, w_18, w_19, w_20, w_21, w_22, w_23, w_24, w_25, w_26, w_27, w_28, w_29, w_30, w_31, w_32, w_33, w_34, w_35, w_36, w_37, w_38, w_39, w_40, w_41, w_42, w_43, w_44, w_45, w_46, w_47, w_48, w_49, w_50, w_51, w_52, w_53, w_54, w_55, w_56, w_57, w_58, w_59, w_60, w_61, w_62, w_63, w_64, w_65, w_66, w_67, w_68, w_69, w_70, w_71, w_72, w_73, w_74, w_75, w_76, w_77, w_78, w_79, w_80, w_81, w_82, w_83, w_84, w_85, w_86, w_87, w_88, w_89, w_90, w_91, w_92, w_93, w_94, w_95, w_96, w_97, w_98, w_99, w_100, w_101, w_102, w_103, w_104, w_105, w_106, w_107, w_108, w_109, w_110, w_111, w_112, w_113, w_114, w_115, w_116, w_117, w_118, w_119, w_120, w_121, w_122, w_123, w_124, w_125, w_126, w_127, w_128, w_129, w_130, w_131, w_132, w_133, w_134, w_135, w_136, w_137, w_138, w_139, w_140, w_141, w_142, w_143, w_144, w_145, w_146, w_147, w_148, w_149, w_150, w_151, w_152, w_153, w_154, w_155, w_156, w_157, w_158, w_159, w_160, w_161, w_162, w_163, w_164, w_165, w_166, w_167, w_168, w_169, w_170, w_171, w_172, w_173, w_174, w_175, w_176, w_177, w_178, w_179, w_180, w_181, w_182, w_183, w_184, w_185, w_186, w_187, w_188, w_189, w_190, w_191, w_192, w_193, w_194, w_195, w_196, w_197, w_198, w_199, w_200, w_201, w_202, w_203, w_204, w_205, w_206, w_207, w_208, ↓reduceIte, Bool.not_true, Bool.not_false, Bool.false_eq_true, Bool.true_eq_false, if_true, if_false, List.map_cons, List.map_nil, List.length_cons, List.length_nil, List.cons_append, List.nil_append, List.replicate, Nat.reduceAdd, Nat.reduceSub, and_self, m10, (show kp.flatten.length ≤ 100000 by omega), hr, hc1, Option.map, (show w.length + 1 ≤ 100000 by omega)]
    · rcases List.mem_append.mp hc' with h | h
      · exact hw c' h
      · rw [List.mem_singleton.mp h]; exact List.mem_of_getElem? hc2
/-- the presses, letter by letter -/
theorem loop3 (g : Good kp) {w : List Nat} (hwl : w.length ≤ 8) (hw : ∀ c ∈ w, c ∈ kp.flatten) {x y kk u z8 z10 : Sl} : ∃ z : Sl,
    forGo (.one 10) bd_law_7 (w.map fun c => .str [c]) [.sh (.scr ns), .sh (.tup (kp.map .str)), .sh (.str kp.flatten), x, y, kk, .sh (.str w), u, z8, .sh (.int 0), z10, .un, .un, .un, .un, .un] = okR (.nx [.sh (.scr ns), .sh (.tup (kp.map .str)), .sh (.str kp.flatten), x, y, kk, .sh (.str w), u, z8, .sh (.int (pressL kp w).sum), z, .un, .un, .un, .un, .un]) := by
  have loop := forGo_inv (t := .one 10) (b := bd_law_7) (I := fun i st => ∃ z : Sl, st = [.sh (.scr ns), .sh (.tup (kp.map .str)), .sh (.str kp.flatten), x, y, kk, .sh (.str w), u, z8, .sh (.int (pressL kp (w.take i)).sum), z, .un, .un, .un, .un, .un]) (w.map fun c => .str [c]) 0 _ ⟨z10, rfl⟩ ?_
  · obtain ⟨st', h1, z, rfl⟩ := loop
    rw [Nat.zero_add, List.length_map, List.take_length] at h1
    exact ⟨z, h1⟩
  · intro i d st hd ⟨z, e⟩
    subst e
    rw [Nat.zero_add]
    rw [List.getElem?_map] at hd
    obtain ⟨c, hc, rfl⟩ := Option.map_eq_some_iff.mp hd
    have hcm := hw c (List.mem_of_getElem? hc)
    have lc : ∀ s3 : Sl, lcGo (.one 4) ts_law_5 el_law_6 [.sh (.scr ns), .sh (.tup (kp.map .str)), .sh (.str kp.flatten), x, .un, kk, .sh (.str w), u, z8, .sh (.int (pressL kp (w.take i)).sum), .sh (.str [c]), .un, .un, .un, .un, .un] (kp.map .str) = okR [.int (kPos kp c : Nat)] := fun _ => by
      have hs : ∀ k ∈ kp, c ∈ k → sindexD (.str k) (.str [c]) = some (.int (((k.findIdx? (fun z => z == c)).getD 0 : Nat) : Int)) := fun k _ hck => by
        obtain ⟨j, hj⟩ := sindex_in hck
        show nat? (k.findIdx? (fun z => z == c)) = _
        rw [hj]; rfl
      rw [lcM (p := fun k => decide (c ∈ k)) (h := fun k => .int (((k.findIdx? (fun z => z == c)).getD 0 : Nat) : Int)) kp fun k hk => ⟨_, rfl, by unfold ts_law_5; simp only [w_0, w_1, w_2, w_3, w_4, w_5, w_6, w_7, w_8, w_9, w_10, w_11, w_12, w_13, w_14, w_15, w_16, w_17, w_18, w_19, w_20, w_21, w_22, w_23, w_24, w_25, w_26, w_27, w_28, w_29, w_30, w_31, w_32, w_33, w_34, w_35, w_36, w_37, w_38, w_39, w_40, w_41, w_42, w_43, w_44, w_45, w_46, w_47, w_48, w_49, w_50, w_51, w_52, w_53, w_54, w_55, w_56, w_57, w_58, w_59, w_60, w_61, w_62, w_63, w_64, w_65, w_66, w_67, w_68, w_69, w_70, w_71, w_72, w_73, w_74, w_75, w_76, w_77, w_78, w_79, w_80, w_81, w_82, w_83, w_84, w_85, w_86, w_87, w_88, w_89, w_90, w_91, w_92, w_93, w_94, w_95, w_96, w_97, w_98, w_99, w_100, w_101, w_102, w_103, w_104, w_105, w_106, w_107, w_108, w_109, w_110, w_111, w_112, w_113, w_114, w_115, w_116, w_117, w_118, w_119, w_120, w_121, w_122, w_123, w_124, w_125, w_126, w_127, w_128, w_129, w_130, w_131, w_132, w_133, w_134, w_135, w_136, w_137, w_138, w_139, w_140, w_141, w_142, w_143, w_144, w_145, w_146, w_147, w_148, w_149, w_150, w_151, w_152, w_153, w_154, w_155, w_156, w_157, w_158, w_159, w_160, w_161, w_162, w_163, w_164, w_165, w_166, w_167, w_168, w_169, w_170, w_171, w_172, w_173, w_174, w_175, w_176, w_177, w_178, w_179, w_180, w_181, w_182, w_183, w_184, w_185, w_186, w_187, w_188, w_189, w_190, w_191, w_192, w_193, w_194, w_195, w_196, w_197, w_198, w_199, w_200, w_201, w_202, w_203, w_204, w_205, w_206, w_207, w_208, ↓reduceIte, Bool.not_true, Bool.not_false, Bool.false_eq_true, Bool.true_eq_false, if_true, if_false, List.map_cons, List.map_nil, List.length_cons, List.length_nil, List.cons_append, List.nil_append, List.replicate, Nat.reduceAdd, Nat.reduceSub, and_self], fun hck => ?_⟩]
      · congr 1
        have e1 := filter_kIx g.nd hcm
        obtain ⟨k, hk1, hk2⟩ := kIx_mem hcm
        have e3 : kp.filter (fun k => decide (c ∈ k)) = [k] := by
          have e4 : (kp.zipIdx.filter fun p => decide (c ∈ p.1)).map (fun p => p.1) = kp.filter (fun k => decide (c ∈ k)) := by
            have := List.filter_map (f := fun p : List Nat × Nat => p.1) (p := fun k => decide (c ∈ k)) (l := kp.zipIdx)
            rw [List.zipIdx_map_fst] at this
            exact this.symm
          have e5 : (kp.zipIdx.filter fun p => decide (c ∈ p.1)).length = 1 := by
            have := congrArg List.length e1
            rwa [List.length_map] at this
          obtain ⟨p, hp⟩ := List.length_eq_one_iff.mp e5
          rw [hp] at e1 e4
          have hpm : p ∈ kp.zipIdx.filter fun p => decide (c ∈ p.1) := by rw [hp]; simp
          have hpz := List.mem_zipIdx (List.mem_filter.mp hpm).1
          have hp2 : p.2 = kIx kp c := by simpa using e1
          have : p.1 = k := by
            rw [hpz.2.2]
            have := List.getElem?_eq_some_iff.mp hk1
            obtain ⟨_, h⟩ := this
            rw [← h]
            congr 1
          rw [← e4, List.map_cons, List.map_nil, this]
        rw [e3, List.map_cons, List.map_nil]
        unfold kPos
        rw [List.getD_eq_getElem?_getD, hk1]
        rfl
      · unfold el_law_6
        simp only [w_0, w_1, w_2, w_3, w_4, w_5, w_6, w_7, w_8, w_9, w_10, w_11, w_12, w_13, w_14, w_15, w_16, w_17, w_18, w_19, w_20, w_21, w_22, w_23, w_24, w_25, w_26, w_27, w_28, w_29, w_30, w_31, w_32, w_33, w_34, w_35, w_36, w_37, w_38, w_39, w_40, w_41, w_42, w_43, w_44, w_45, w_46, w_47, w_48, w_49, w_50, w_51, w_52, w_53, w_54, w_55, w_56, w_57, w_58, w_59, w_60, w_61, w_62, w_63, w_64, w_65, w_66, w_67, w_68, w_69, w_70, w_71, w_72, w_73, w_74, w_75, w_76, w_77, w_78, w_79, w_80, w_81, w_82, w_83, w_84, w_85, w_86, w_87, w_88, w_89, w_90, w_91, w_92, w_93, w_94, w_95, w_96, w_97, w_98, w_99, w_100, w_101, w_102, w_103, w_104, w_105, w_106, w_107, w_108, w_109, w_110, w_111, w_112, w_113, w_114, w_115, w_116, w_117, w_118, w_119, w_120, w_121, w_122, w_123, w_124, w_125, w_126, w_127, w_128, w_129, w_130, w_131, w_132, w_133, w_134, w_135, w_136, w_137, w_138, w_139, w_140, w_141, w_142, w_143, w_144, w_145, w_146, w_147, w_148, w_149, w_150, w_151, w_152, w_153, w_154, w_155, w_156, w_157, w_158, w_159, w_160, w_161, w_162, w_163, w_164, w_165, w_166, w_167, w_168, w_169, w_170, w_171, w_172, w_173, w_174, w_175, w_176, w_177, w_178, w_179, w_180, w_181, w_182, w_183, w_184, w_185, w_186, w_187, w_188, w_189, w_190, w_191, w_192, w_193, w_194, w_195, w_196, w_197, w_198, w_199, w_200, w_201, w_202, w_203, w_204, w_205, w_206, w_207, w_208, ↓reduceIte, Bool.not_true, Bool.not_false, Bool.false_eq_true, Bool.true_eq_false, if_true, if_false, List.map_cons, List.map_nil, List.length_cons, List.length_nil, List.cons_append, List.nil_append, List.replicate, Nat.reduceAdd, Nat.reduceSub, and_self, hs k hk (by simpa using hck)]
    refine ⟨_, _, rfl, ?_, .sh (.str [c]), rfl⟩
    have et : (pressL kp (w.take (i + 1))).sum = (pressL kp (w.take i)).sum + 1 + (kPos kp c : Int) := by
      unfold pressL
      rw [List.take_add_one, hc, List.map_append, List.sum_append]
      show _ + (1 + (kPos kp c : Int) + 0) = _
      omega
    unfold bd_law_7
    simp only [w_0, w_1, w_2, w_3, w_4, w_5, w_6, w_7, w_8, w_9, w_10, w_11, w_12, w_13, w_14, w_15, w_16, w_17, w_18, w_19, w_20, w_21, w_22, w_23, w_24, w_25, w_26, w_27, w_28, w_29, w_30, w_31, w_32, w_33, w_34, w_35, w_36, w_37, w_38, w_39, w_40, w_41, w_42, w_43, w_44, w_45, w_46, w_47, w_48, w_49, w_50, w_51, w_52, w_53, w_54, w_55, w_56, w_57, w_58, w_59, w_60, w_61, w_62, w_63, w_64, w_65, w_66, w_67, w_68, w_69, w_70, w_71, w_72, w_73, w_74, w_75, w_76, w_77, w_78, w_79, w_80, w_81, w_82, w_83, w_84, w_85, w_86, w_87, w_88, w_89, w_90, w_91, w_92, w_93, w_94, w_95, w_96, w_97, w_98, w_99, w_100, w_101, w_102, w_103, w_104, w_105, w_106, w_107, w_108, w_109, w_110, w_111, w_112, w_113, w_114, w_115, w_116, w_117, w_118, w_119, w_120, w_121, w_122, w_123, w_124, w_125, w_126, w_127, w_128, w_129, w_130, w_131, w_132, w_133, w_134, w_135, w_136, w_137, w_138, w_139, w_140, w_141, w_142, w_143, w_144, w_145, w_146, w_147, w_148, w_149, w_150, w_151, w_152, w_153, w_154, w_155, w_156, w_157, w_158, w_159, w_160, w_161, w_162, w_163, w_164, w_165, w_166, w_167, w_168, w_169, w_170, w_171, w_172, w_173, w_174, w_175, w_176, w_177, w_178, w_179, w_180, w_181, w_182, w_183, w_184, w_185, w_186, w_187, w_188, w_189, w_190, w_191, w_192, w_193, w_194, w_195, w_196, w_197, w_198, w_199, w_200, w_201, w_202, w_203, w_204, w_205, w_206, w_207, w_208, ↓reduceIte, Bool.not_true, Bool.not_false, Bool.false_eq_true, Bool.true_eq_false, if_true, if_false, List.map_cons, List.map_nil, List.length_cons, List.length_nil, List.cons_append, List.nil_append, List.replicate, Nat.reduceAdd, Nat.reduceSub, and_self, lc .un, atI_of (l := [D.int (kPos kp c : Nat)]) (i := 0) (j := 0) rfl rfl, et]
/-- one drawn word -/
theorem loop4 (hns : ns.length ≤ 63) (g : Good kp) (hL : 1 ≤ kp.flatten.length) {x0 y0 : Sl} : ∃ x y z5 z6 z7 z8 z9 z10 : Sl, forGo (.one 5) bd_law_10 (rangeL 0 1 5) [.sh (.scr ns), .sh (.tup (kp.map .str)), .sh (.str kp.flatten), x0, y0, .un, .un, .un, .un, .un, .un, .un, .un, .un, .un, .un] = okR (.nx [.sh (.scr ns), .sh (.tup (kp.map .str)), .sh (.str kp.flatten), x, y, z5, z6, z7, z8, z9, z10, .un, .un, .un, .un, .un]) := by
  have loop := forGo_inv (t := .one 5) (b := bd_law_10) (I := fun i st => ∃ x y z5 z6 z7 z8 z9 z10 : Sl, st = [.sh (.scr ns), .sh (.tup (kp.map .str)), .sh (.str kp.flatten), x, y, z5, z6, z7, z8, z9, z10, .un, .un, .un, .un, .un]) (rangeL 0 1 5) 0 _ ⟨x0, y0, .un, .un, .un, .un, .un, .un, rfl⟩ ?_
  · obtain ⟨st', h1, x, y, z5, z6, z7, z8, z9, z10, rfl⟩ := loop
    exact ⟨x, y, z5, z6, z7, z8, z9, z10, h1⟩
  · intro i d st hd ⟨x, y, z5, z6, z7, z8, z9, z10, e⟩
    subst e
    have hi : i < 5 := by
      have := (List.getElem?_eq_some_iff.mp hd).1
      rwa [rangeL_len] at this
    rw [rangeL_get hi] at hd
    have hd' : d = .int (i : Int) := by
      rw [← Option.some.inj hd]; congr 1; omega
    subst hd'
    have m10 : mulE (.int 10) (.int (i : Int)) = some (.int (10 * (i : Int))) := w_162 (.inl (by decide))
    obtain ⟨r, hr, hr0, hr1⟩ := drawn_ok ns hns (k := 50 + 10 * (i : Int)) (m := 8) (by omega) (by decide)
    obtain ⟨w, u, hwl, hw, h2⟩ := loop2 (kp := kp) hns (kk := i) (by omega) g hL (1 + r).toNat (by omega) (x := x) (y := y) (z8 := z8) (z9 := z9) (z10 := z10) (z7 := z7)
    have hword : wordB kp w = true := by
      unfold wordB
      rw [decide_eq_true (by omega : 1 ≤ w.length), decide_eq_true (by omega : w.length ≤ 8)]
      simp only [Bool.true_and, List.all_eq_true, decide_eq_true_eq]
      exact hw
    obtain ⟨z, h3⟩ := loop3 (ns := ns) g (w := w) (by omega) hw (x := x) (y := y) (kk := .sh (.int (i : Int))) (u := u) (z8 := .sh (.str (codeL kp w))) (z10 := z10)
    have hrg : -100000 ≤ 1 + r ∧ 1 + r ≤ 100000 := by omega
    have ecode : g__law_code [.tup (kp.map .str), .str w] = okR (.str (codeL kp w)) := law_code_s g (by omega) hw
    have e_isw : g_is_word [.tup (kp.map .str), .str w] = okR (.bl true) := by
      have := is_word_of g (has_word_s g (w := w) (by omega))
      rw [hword] at this
      exact this
    have e_code : g_code [.tup (kp.map .str), .str w] = okR (.str (codeL kp w)) := code_s g hword
    have e_press : g_presses [.tup (kp.map .str), .str w] = okR (.int (pressL kp w).sum) := presses_s g hword
    have e_pause : g_pauses [.tup (kp.map .str), .str w] = okR (.int (pauseN (codeL kp w) : Nat)) := pauses_s g hword
    have hcl : (codeL kp w).length = w.length := by unfold codeL; rw [List.length_map]
    have lc : lcGo (.one 14) ts_law_8 el_law_9 [.sh (.scr ns), .sh (.tup (kp.map .str)), .sh (.str kp.flatten), x, y, .sh (.int (i : Int)), .sh (.str w), u, .sh (.str (codeL kp w)), .sh (.int (pressL kp w).sum), z, .un, .un, .un, .un, .un] (rangeL 1 1 ((w.length : Int) - 1).toNat) = okR (((List.range (w.length - 1)).filter fun i => (codeL kp w).getD (i + 1) 0 == (codeL kp w).getD i 0).map fun i => .int (1 + (i : Int) * 1)) := by
      unfold rangeL
      rw [show ((w.length : Int) - 1).toNat = w.length - 1 by omega]
      refine lcM _ fun j hj => ⟨_, rfl, ?_, fun _ => by unfold el_law_9; simp only [w_0, w_1, w_2, w_3, w_4, w_5, w_6, w_7, w_8, w_9, w_10, w_11, w_12, w_13, w_14, w_15, w_16, w_17, w_18, w_19, w_20, w_21, w_22, w_23, w_24, w_25, w_26, w_27, w_28, w_29, w_30, w_31, w_32, w_33, w_34, w_35, w_36, w_37, w_38, w_39, w_40, w_41, w_42, w_43, w_44, w_45, w_46, w_47, w_48, w_49, w_50, w_51, w_52, w_53, w_54, w_55, w_56, w_57, w_58, w_59, w_60, w_61, w_62, w_63, w_64, w_65, w_66, w_67, w_68, w_69, w_70, w_71, w_72, w_73, w_74, w_75, w_76, w_77, w_78, w_79, w_80, w_81, w_82, w_83, w_84, w_85, w_86, w_87, w_88, w_89, w_90, w_91, w_92, w_93, w_94, w_95, w_96, w_97, w_98, w_99, w_100, w_101, w_102, w_103, w_104, w_105, w_106, w_107, w_108, w_109, w_110, w_111, w_112, w_113, w_114, w_115, w_116, w_117, w_118, w_119, w_120, w_121, w_122, w_123, w_124, w_125, w_126, w_127, w_128, w_129, w_130, w_131, w_132, w_133, w_134, w_135, w_136, w_137, w_138, w_139, w_140, w_141, w_142, w_143, w_144, w_145, w_146, w_147, w_148, w_149, w_150, w_151, w_152, w_153, w_154, w_155, w_156, w_157, w_158, w_159, w_160, w_161, w_162, w_163, w_164, w_165, w_166, w_167, w_168, w_169, w_170, w_171, w_172, w_173, w_174, w_175, w_176, w_177, w_178, w_179, w_180, w_181, w_182, w_183, w_184, w_185, w_186, w_187, w_188, w_189, w_190, w_191, w_192, w_193, w_194, w_195, w_196, w_197, w_198, w_199, w_200, w_201, w_202, w_203, w_204, w_205, w_206, w_207, w_208, ↓reduceIte, Bool.not_true, Bool.not_false, Bool.false_eq_true, Bool.true_eq_false, if_true, if_false, List.map_cons, List.map_nil, List.length_cons, List.length_nil, List.cons_append, List.nil_append, List.replicate, Nat.reduceAdd, Nat.reduceSub, and_self]⟩
      have hj' : j < w.length - 1 := by simpa using hj
      have a1 : atI (codeL kp w) (1 + (j : Int) * 1) = some ((codeL kp w).getD (j + 1) 0) := atI_of (j := j + 1) (by rw [List.getD_eq_getElem?_getD, List.getElem?_eq_getElem (by omega)]; rfl) (by omega)
      have a2 : atI (codeL kp w) (1 + (j : Int) * 1 - 1) = some ((codeL kp w).getD j 0) := atI_of (j := j) (by rw [List.getD_eq_getElem?_getD, List.getElem?_eq_getElem (by omega)]; rfl) (by omega)
      unfold ts_law_8
      simp only [w_0, w_1, w_2, w_3, w_4, w_5, w_6, w_7, w_8, w_9, w_10, w_11, w_12, w_13, w_14, w_15, w_16, w_17, w_18, w_19, w_20, w_21, w_22, w_23, w_24, w_25, w_26, w_27, w_28, w_29, w_30, w_31, w_32, w_33, w_34, w_35, w_36, w_37, w_38, w_39, w_40, w_41, w_42, w_43, w_44, w_45, w_46, w_47, w_48, w_49, w_50, w_51, w_52, w_53, w_54, w_55, w_56, w_57, w_58, w_59, w_60, w_61, w_62, w_63, w_64, w_65, w_66, w_67, w_68, w_69, w_70, w_71, w_72, w_73, w_74, w_75, w_76, w_77, w_78, w_79, w_80, w_81, w_82, w_83, w_84, w_85, w_86, w_87, w_88, w_89, w_90, w_91, w_92, w_93, w_94, w_95, w_96, w_97, w_98, w_99, w_100, w_101, w_102, w_103, w_104, w_105, w_106, w_107, w_108, w_109, w_110, w_111, w_112, w_113, w_114, w_115, w_116, w_117, w_118, w_119, w_120, w_121, w_122, w_123, w_124, w_125, w_126, w_127, w_128, w_129, w_130, w_131, w_132, w_133, w_134, w_135, w_136, w_137, w_138, w_139, w_140, w_141, w_142, w_143, w_144, w_145, w_146, w_147, w_148, w_149, w_150, w_151, w_152, w_153, w_154, w_155, w_156, w_157, w_158, w_159, w_160, w_161, w_162, w_163, w_164, w_165, w_166, w_167, w_168, w_169, w_170, w_171, w_172, w_173, w_174, w_175, w_176, w_177, w_178, w_179, w_180, w_181, w_182, w_183, w_184, w_185, w_186, w_187, w_188, w_189, w_190, w_191, w_192, w_193, w_194, w_195, w_196, w_197, w_198, w_199, w_200, w_201, w_202, w_203, w_204, w_205, w_206, w_207, w_208, ↓reduceIte, Bool.not_true, Bool.not_false, Bool.false_eq_true, Bool.true_eq_false, if_true, if_false, List.map_cons, List.map_nil, List.length_cons, List.length_nil, List.cons_append, List.nil_append, List.replicate, Nat.reduceAdd, Nat.reduceSub, and_self, (show (codeL kp w).length ≤ 100000 by omega), a1, a2, Option.map, beq1]
    refine ⟨_, _, rfl, ?_, x, y, .sh (.int (i : Int)), .sh (.str w), u, .sh (.str (codeL kp w)), .sh (.int (pressL kp w).sum), z, rfl⟩
    unfold bd_law_10
    rw [seq_step (st' := [.sh (.scr ns), .sh (.tup (kp.map .str)), .sh (.str kp.flatten), x, y, .sh (.int (i : Int)), .sh (.str []), z7, z8, z9, z10, .un, .un, .un, .un, .un]) (by simp only [w_0, w_1, w_2, w_3, w_4, w_5, w_6, w_7, w_8, w_9, w_10, w_11, w_12, w_13, w_14, w_15, w_16, w_17, w_18, w_19, w_20, w_21, w_22, w_23, w_24, w_25, w_26, w_27, w_28, w_29, w_30, w_31, w_32, w_33, w_34, w_35, w_36, w_37, w_38, w_39, w_40, w_41, w_42, w_43, w_44, w_45, w_46, w_47, w_48, w_49, w_50, w_51, w_52, w_53, w_54, w_55, w_56, w_57, w_58, w_59, w_60, w_61, w_62, w_63, w_64, w_65, w_66, w_67, w_68, w_69, w_70, w_71, w_72, w_73, w_74, w_75, w_76, w_77, w_78, w_79, w_80, w_81, w_82, w_83, w_84, w_85, w_86, w_87, w_88, w_89, w_90, w_91, w_92, w_93, w_94, w_95, w_96, w_97, w_98, w_99, w_100, w_101, w_102, w_103, w_104, w_105, w_106, w_107, w_108, w_109, w_110, w_111, w_112, w_113, w_114, w_115, w_116, w_117, w_118, w_119, w_120, w_121, w_122, w_123, w_124, w_125, w_126, w_127, w_128, w_129, w_130, w_131, w_132, w_133, w_134, w_135, w_136, w_137, w_138, w_139, w_140, w_141, w_142, w_143, w_144, w_145, w_146, w_147, w_148, w_149, w_150, w_151, w_152, w_153, w_154, w_155, w_156, w_157, w_158, w_159, w_160, w_161, w_162, w_163, w_164, w_165, w_166, w_167, w_168, w_169, w_170, w_171, w_172, w_173, w_174, w_175, w_176, w_177, w_178, w_179, w_180, w_181, w_182, w_183, w_184, w_185, w_186, w_187, w_188, w_189, w_190, w_191, w_192, w_193, w_194, w_195, w_196, w_197, w_198, w_199, w_200, w_201, w_202, w_203, w_204, w_205, w_206, w_207, w_208, ↓reduceIte, Bool.not_true, Bool.not_false, Bool.false_eq_true, Bool.true_eq_false, if_true, if_false, List.map_cons, List.map_nil, List.length_cons, List.length_nil, List.cons_append, List.nil_append, List.replicate, Nat.reduceAdd, Nat.reduceSub, and_self])]
    rw [seq_step (st' := [.sh (.scr ns), .sh (.tup (kp.map .str)), .sh (.str kp.flatten), x, y, .sh (.int (i : Int)), .sh (.str w), u, z8, z9, z10, .un, .un, .un, .un, .un]) (by
      rw [w_105, show (mRange1 (mCons (mOp addD (mC (.int 1)) (mCall g__law_drawn (mCons (mVar 0) (mCons (mOp addD (mC (.int 50)) (mOp mulE (mC (.int 10)) (mVar 5))) (mCons (mC (.int 8)) (mNil)))))) (mNil))) (hidS [.sh (.scr ns), .sh (.tup (kp.map .str)), .sh (.str kp.flatten), x, y, .sh (.int (i : Int)), .sh (.str []), z7, z8, z9, z10, .un, .un, .un, .un, .un]) = okR (rangeL 0 1 (1 + r).toNat) from ?_]
      · exact h2
      · rw [w_72]
        simp only [hidS, List.map_cons, List.map_nil]
        simp only [w_0, w_1, w_2, w_3, w_4, w_5, w_6, w_7, w_8, w_9, w_10, w_11, w_12, w_13, w_14, w_15, w_16, w_17, w_18, w_19, w_20, w_21, w_22, w_23, w_24, w_25, w_26, w_27, w_28, w_29, w_30, w_31, w_32, w_33, w_34, w_35, w_36, w_37, w_38, w_39, w_40, w_41, w_42, w_43, w_44, w_45, w_46, w_47, w_48, w_49, w_50, w_51, w_52, w_53, w_54, w_55, w_56, w_57, w_58, w_59, w_60, w_61, w_62, w_63, w_64, w_65, w_66, w_67, w_68, w_69, w_70, w_71, w_72, w_73, w_74, w_75, w_76, w_77, w_78, w_79, w_80, w_81, w_82, w_83, w_84, w_85, w_86, w_87, w_88, w_89, w_90, w_91, w_92, w_93, w_94, w_95, w_96, w_97, w_98, w_99, w_100, w_101, w_102, w_103, w_104, w_105, w_106, w_107, w_108, w_109, w_110, w_111, w_112, w_113, w_114, w_115, w_116, w_117, w_118, w_119, w_120, w_121, w_122, w_123, w_124, w_125, w_126, w_127, w_128, w_129, w_130, w_131, w_132, w_133, w_134, w_135, w_136, w_137, w_138, w_139, w_140, w_141, w_142, w_143, w_144, w_145, w_146, w_147, w_148, w_149, w_150, w_151, w_152, w_153, w_154, w_155, w_156, w_157, w_158, w_159, w_160, w_161, w_162, w_163, w_164, w_165, w_166, w_167, w_168, w_169, w_170, w_171, w_172, w_173, w_174, w_175, w_176, w_177, w_178, w_179, w_180, w_181, w_182, w_183, w_184, w_185, w_186, w_187, w_188, w_189, w_190, w_191, w_192, w_193, w_194, w_195, w_196, w_197, w_198, w_199, w_200, w_201, w_202, w_203, w_204, w_205, w_206, w_207, w_208, ↓reduceIte, Bool.not_true, Bool.not_false, Bool.false_eq_true, Bool.true_eq_false, if_true, if_false, List.map_cons, List.map_nil, List.length_cons, List.length_nil, List.cons_append, List.nil_append, List.replicate, Nat.reduceAdd, Nat.reduceSub, and_self, m10, hr, hrg, and_self])]
    rw [seq_step (st' := [.sh (.scr ns), .sh (.tup (kp.map .str)), .sh (.str kp.flatten), x, y, .sh (.int (i : Int)), .sh (.str w), u, .sh (.str (codeL kp w)), .sh (.int 0), z10, .un, .un, .un, .un, .un]) (by
      rw [w_110, sh_any (d := .tup [.str (codeL kp w), .int 0]) (by simp only [w_0, w_1, w_2, w_3, w_4, w_5, w_6, w_7, w_8, w_9, w_10, w_11, w_12, w_13, w_14, w_15, w_16, w_17, w_18, w_19, w_20, w_21, w_22, w_23, w_24, w_25, w_26, w_27, w_28, w_29, w_30, w_31, w_32, w_33, w_34, w_35, w_36, w_37, w_38, w_39, w_40, w_41, w_42, w_43, w_44, w_45, w_46, w_47, w_48, w_49, w_50, w_51, w_52, w_53, w_54, w_55, w_56, w_57, w_58, w_59, w_60, w_61, w_62, w_63, w_64, w_65, w_66, w_67, w_68, w_69, w_70, w_71, w_72, w_73, w_74, w_75, w_76, w_77, w_78, w_79, w_80, w_81, w_82, w_83, w_84, w_85, w_86, w_87, w_88, w_89, w_90, w_91, w_92, w_93, w_94, w_95, w_96, w_97, w_98, w_99, w_100, w_101, w_102, w_103, w_104, w_105, w_106, w_107, w_108, w_109, w_110, w_111, w_112, w_113, w_114, w_115, w_116, w_117, w_118, w_119, w_120, w_121, w_122, w_123, w_124, w_125, w_126, w_127, w_128, w_129, w_130, w_131, w_132, w_133, w_134, w_135, w_136, w_137, w_138, w_139, w_140, w_141, w_142, w_143, w_144, w_145, w_146, w_147, w_148, w_149, w_150, w_151, w_152, w_153, w_154, w_155, w_156, w_157, w_158, w_159, w_160, w_161, w_162, w_163, w_164, w_165, w_166, w_167, w_168, w_169, w_170, w_171, w_172, w_173, w_174, w_175, w_176, w_177, w_178, w_179, w_180, w_181, w_182, w_183, w_184, w_185, w_186, w_187, w_188, w_189, w_190, w_191, w_192, w_193, w_194, w_195, w_196, w_197, w_198, w_199, w_200, w_201, w_202, w_203, w_204, w_205, w_206, w_207, w_208, ↓reduceIte, Bool.not_true, Bool.not_false, Bool.false_eq_true, Bool.true_eq_false, if_true, if_false, List.map_cons, List.map_nil, List.length_cons, List.length_nil, List.cons_append, List.nil_append, List.replicate, Nat.reduceAdd, Nat.reduceSub, and_self, ecode]) (by simp only [hidS, List.map_cons, List.map_nil]; simp only [w_0, w_1, w_2, w_3, w_4, w_5, w_6, w_7, w_8, w_9, w_10, w_11, w_12, w_13, w_14, w_15, w_16, w_17, w_18, w_19, w_20, w_21, w_22, w_23, w_24, w_25, w_26, w_27, w_28, w_29, w_30, w_31, w_32, w_33, w_34, w_35, w_36, w_37, w_38, w_39, w_40, w_41, w_42, w_43, w_44, w_45, w_46, w_47, w_48, w_49, w_50, w_51, w_52, w_53, w_54, w_55, w_56, w_57, w_58, w_59, w_60, w_61, w_62, w_63, w_64, w_65, w_66, w_67, w_68, w_69, w_70, w_71, w_72, w_73, w_74, w_75, w_76, w_77, w_78, w_79, w_80, w_81, w_82, w_83, w_84, w_85, w_86, w_87, w_88, w_89, w_90, w_91, w_92, w_93, w_94, w_95, w_96, w_97, w_98, w_99, w_100, w_101, w_102, w_103, w_104, w_105, w_106, w_107, w_108, w_109, w_110, w_111, w_112, w_113, w_114, w_115, w_116, w_117, w_118, w_119, w_120, w_121, w_122, w_123, w_124, w_125, w_126, w_127, w_128, w_129, w_130, w_131, w_132, w_133, w_134, w_135, w_136, w_137, w_138, w_139, w_140, w_141, w_142, w_143, w_144, w_145, w_146, w_147, w_148, w_149, w_150, w_151, w_152, w_153, w_154, w_155, w_156, w_157, w_158, w_159, w_160, w_161, w_162, w_163, w_164, w_165, w_166, w_167, w_168, w_169, w_170, w_171, w_172, w_173, w_174, w_175, w_176, w_177, w_178, w_179, w_180, w_181, w_182, w_183, w_184, w_185, w_186, w_187, w_188, w_189, w_190, w_191, w_192, w_193, w_194, w_195, w_196, w_197, w_198, w_199, w_200, w_201, w_202, w_203, w_204, w_205, w_206, w_207, w_208, ↓reduceIte, Bool.not_true, Bool.not_false, Bool.false_eq_true, Bool.true_eq_false, if_true, if_false, List.map_cons, List.map_nil, List.length_cons, List.length_nil, List.cons_append, List.nil_append, List.replicate, Nat.reduceAdd, Nat.reduceSub, and_self, ecode]), bnd_okR, upB_sh (w_132 ..)]
      rfl)]
    rw [seq_step (st' := [.sh (.scr ns), .sh (.tup (kp.map .str)), .sh (.str kp.flatten), x, y, .sh (.int (i : Int)), .sh (.str w), u, .sh (.str (codeL kp w)), .sh (.int (pressL kp w).sum), z, .un, .un, .un, .un, .un]) (by
      rw [w_105, show (mIter (mVar 6)) (hidS [.sh (.scr ns), .sh (.tup (kp.map .str)), .sh (.str kp.flatten), x, y, .sh (.int (i : Int)), .sh (.str w), u, .sh (.str (codeL kp w)), .sh (.int 0), z10, .un, .un, .un, .un, .un]) = okR (w.map fun c => .str [c]) from ?_]
      · exact h3
      · simp only [hidS, List.map_cons, List.map_nil]
        simp only [w_0, w_1, w_2, w_3, w_4, w_5, w_6, w_7, w_8, w_9, w_10, w_11, w_12, w_13, w_14, w_15, w_16, w_17, w_18, w_19, w_20, w_21, w_22, w_23, w_24, w_25, w_26, w_27, w_28, w_29, w_30, w_31, w_32, w_33, w_34, w_35, w_36, w_37, w_38, w_39, w_40, w_41, w_42, w_43, w_44, w_45, w_46, w_47, w_48, w_49, w_50, w_51, w_52, w_53, w_54, w_55, w_56, w_57, w_58, w_59, w_60, w_61, w_62, w_63, w_64, w_65, w_66, w_67, w_68, w_69, w_70, w_71, w_72, w_73, w_74, w_75, w_76, w_77, w_78, w_79, w_80, w_81, w_82, w_83, w_84, w_85, w_86, w_87, w_88, w_89, w_90, w_91, w_92, w_93, w_94, w_95, w_96, w_97, w_98, w_99, w_100, w_101, w_102, w_103, w_104, w_105, w_106, w_107, w_108, w_109, w_110, w_111, w_112, w_113, w_114, w_115, w_116, w_117, w_118, w_119, w_120, w_121, w_122, w_123, w_124, w_125, w_126, w_127, w_128, w_129, w_130, w_131, w_132, w_133, w_134, w_135, w_136, w_137, w_138, w_139, w_140, w_141, w_142, w_143, w_144, w_145, w_146, w_147, w_148, w_149, w_150, w_151, w_152, w_153, w_154, w_155, w_156, w_157, w_158, w_159, w_160, w_161, w_162, w_163, w_164, w_165, w_166, w_167, w_168, w_169, w_170, w_171, w_172, w_173, w_174, w_175, w_176, w_177, w_178, w_179, w_180, w_181, w_182, w_183, w_184, w_185, w_186, w_187, w_188, w_189, w_190, w_191, w_192, w_193, w_194, w_195, w_196, w_197, w_198, w_199, w_200, w_201, w_202, w_203, w_204, w_205, w_206, w_207, w_208, ↓reduceIte, Bool.not_true, Bool.not_false, Bool.false_eq_true, Bool.true_eq_false, if_true, if_false, List.map_cons, List.map_nil, List.length_cons, List.length_nil, List.cons_append, List.nil_append, List.replicate, Nat.reduceAdd, Nat.reduceSub, and_self, (show w.length ≤ 100000 by omega)])]
    rw [seq_step (st' := [.sh (.scr ns), .sh (.tup (kp.map .str)), .sh (.str kp.flatten), x, y, .sh (.int (i : Int)), .sh (.str w), u, .sh (.str (codeL kp w)), .sh (.int (pressL kp w).sum), z, .un, .un, .un, .un, .un]) (by
      simp only [w_0, w_1, w_2, w_3, w_4, w_5, w_6, w_7, w_8, w_9, w_10, w_11, w_12, w_13, w_14, w_15, w_16, w_17, w_18, w_19, w_20, w_21, w_22, w_23, w_24, w_25, w_26, w_27, w_28, w_29, w_30, w_31, w_32, w_33, w_34, w_35, w_36, w_37, w_38, w_39, w_40, w_41, w_42, w_43, w_44, w_45, w_46, w_47, w_48, w_49, w_50, w_51, w_52, w_53, w_54, w_55, w_56, w_57, w_58, w_59, w_60, w_61, w_62, w_63, w_64, w_65, w_66, w_67, w_68, w_69, w_70, w_71, w_72, w_73, w_74, w_75, w_76, w_77, w_78, w_79, w_80, w_81, w_82, w_83, w_84, w_85, w_86, w_87, w_88, w_89, w_90, w_91, w_92, w_93, w_94, w_95, w_96, w_97, w_98, w_99, w_100, w_101, w_102, w_103, w_104, w_105, w_106, w_107, w_108, w_109, w_110, w_111, w_112, w_113, w_114, w_115, w_116, w_117, w_118, w_119, w_120, w_121, w_122, w_123, w_124, w_125, w_126, w_127, w_128, w_129, w_130, w_131, w_132, w_133, w_134, w_135, w_136, w_137, w_138, w_139, w_140, w_141, w_142, w_143, w_144, w_145, w_146, w_147, w_148, w_149, w_150, w_151, w_152, w_153, w_154, w_155, w_156, w_157, w_158, w_159, w_160, w_161, w_162, w_163, w_164, w_165, w_166, w_167, w_168, w_169, w_170, w_171, w_172, w_173, w_174, w_175, w_176, w_177, w_178, w_179, w_180, w_181, w_182, w_183, w_184, w_185, w_186, w_187, w_188, w_189, w_190, w_191, w_192, w_193, w_194, w_195, w_196, w_197, w_198, w_199, w_200, w_201, w_202, w_203, w_204, w_205, w_206, w_207, w_208, ↓reduceIte, Bool.not_true, Bool.not_false, Bool.false_eq_true, Bool.true_eq_false, if_true, if_false, List.map_cons, List.map_nil, List.length_cons, List.length_nil, List.cons_append, List.nil_append, List.replicate, Nat.reduceAdd, Nat.reduceSub, and_self, e_isw, e_code, decide_true, beq_self_eq_true])]
    rw [seq_step (st' := [.sh (.scr ns), .sh (.tup (kp.map .str)), .sh (.str kp.flatten), x, y, .sh (.int (i : Int)), .sh (.str w), u, .sh (.str (codeL kp w)), .sh (.int (pressL kp w).sum), z, .un, .un, .un, .un, .un]) (by
      simp only [w_0, w_1, w_2, w_3, w_4, w_5, w_6, w_7, w_8, w_9, w_10, w_11, w_12, w_13, w_14, w_15, w_16, w_17, w_18, w_19, w_20, w_21, w_22, w_23, w_24, w_25, w_26, w_27, w_28, w_29, w_30, w_31, w_32, w_33, w_34, w_35, w_36, w_37, w_38, w_39, w_40, w_41, w_42, w_43, w_44, w_45, w_46, w_47, w_48, w_49, w_50, w_51, w_52, w_53, w_54, w_55, w_56, w_57, w_58, w_59, w_60, w_61, w_62, w_63, w_64, w_65, w_66, w_67, w_68, w_69, w_70, w_71, w_72, w_73, w_74, w_75, w_76, w_77, w_78, w_79, w_80, w_81, w_82, w_83, w_84, w_85, w_86, w_87, w_88, w_89, w_90, w_91, w_92, w_93, w_94, w_95, w_96, w_97, w_98, w_99, w_100, w_101, w_102, w_103, w_104, w_105, w_106, w_107, w_108, w_109, w_110, w_111, w_112, w_113, w_114, w_115, w_116, w_117, w_118, w_119, w_120, w_121, w_122, w_123, w_124, w_125, w_126, w_127, w_128, w_129, w_130, w_131, w_132, w_133, w_134, w_135, w_136, w_137, w_138, w_139, w_140, w_141, w_142, w_143, w_144, w_145, w_146, w_147, w_148, w_149, w_150, w_151, w_152, w_153, w_154, w_155, w_156, w_157, w_158, w_159, w_160, w_161, w_162, w_163, w_164, w_165, w_166, w_167, w_168, w_169, w_170, w_171, w_172, w_173, w_174, w_175, w_176, w_177, w_178, w_179, w_180, w_181, w_182, w_183, w_184, w_185, w_186, w_187, w_188, w_189, w_190, w_191, w_192, w_193, w_194, w_195, w_196, w_197, w_198, w_199, w_200, w_201, w_202, w_203, w_204, w_205, w_206, w_207, w_208, ↓reduceIte, Bool.not_true, Bool.not_false, Bool.false_eq_true, Bool.true_eq_false, if_true, if_false, List.map_cons, List.map_nil, List.length_cons, List.length_nil, List.cons_append, List.nil_append, List.replicate, Nat.reduceAdd, Nat.reduceSub, and_self, e_press, beq_self_eq_true])]
    have hp : (pauseN (codeL kp w) : Nat) = ((List.range (w.length - 1)).filter fun i => (codeL kp w).getD (i + 1) 0 == (codeL kp w).getD i 0).length := by
      rw [pauseN_range, hcl]
    simp only [w_0, w_1, w_2, w_3, w_4, w_5, w_6, w_7, w_8, w_9, w_10, w_11, w_12, w_13, w_14, w_15, w_16, w_17, w_18, w_19, w_20, w_21, w_22, w_23, w_24, w_25, w_26, w_27, w_28, w_29, w_30, w_31, w_32, w_33, w_34, w_35, w_36, w_37, w_38, w_39, w_40, w_41, w_42, w_43, w_44, w_45, w_46, w_47, w_48, w_49, w_50, w_51, w_52, w_53, w_54, w_55, w_56, w_57, w_58, w_59, w_60, w_61, w_62, w_63, w_64, w_65, w_66, w_67, w_68, w_69, w_70, w_71, w_72, w_73, w_74, w_75, w_76, w_77, w_78, w_79, w_80, w_81, w_82, w_83, w_84, w_85, w_86, w_87, w_88, w_89, w_90, w_91, w_92, w_93, w_94, w_95, w_96, w_97, w_98, w_99, w_100, w_101, w_102, w_103, w_104, w_105, w_106, w_107, w_108, w_109, w_110, w_111, w_112, w_113, w_114, w_115, w_116, w_117, w_118, w_119, w_120, w_121, w_122, w_123, w_124, w_125, w_126, w_127, w_128, w_129, w_130, w_131, w_132, w_133, w_134, w_135, w_136, w_137, w_138, w_139, w_140, w_141, w_142, w_143, w_144, w_145, w_146, w_147, w_148, w_149, w_150, w_151, w_152, w_153, w_154, w_155, w_156, w_157, w_158, w_159, w_160, w_161, w_162, w_163, w_164, w_165, w_166, w_167, w_168, w_169, w_170, w_171, w_172, w_173, w_174, w_175, w_176, w_177, w_178, w_179, w_180, w_181, w_182, w_183, w_184, w_185, w_186, w_187, w_188, w_189, w_190, w_191, w_192, w_193, w_194, w_195, w_196, w_197, w_198, w_199, w_200, w_201, w_202, w_203, w_204, w_205, w_206, w_207, w_208, ↓reduceIte, Bool.not_true, Bool.not_false, Bool.false_eq_true, Bool.true_eq_false, if_true, if_false, List.map_cons, List.map_nil, List.length_cons, List.length_nil, List.cons_append, List.nil_append, List.replicate, Nat.reduceAdd, Nat.reduceSub, and_self, e_pause, (show w.length ≤ 100000 by omega), (show (-100000 ≤ (1 : Int) ∧ (1 : Int) ≤ 100000) ∧ (-100000 ≤ (w.length : Int) ∧ (w.length : Int) ≤ 100000) by omega), and_self, lc, List.length_map, hp, beq_self_eq_true]
end
theorem law_true (ns : List Int) (hns : ns.length ≤ 63) : g_law [.scr ns] = okR (.bl true) := by
  obtain ⟨n, kp, hkp, hI, hn2, hn8⟩ := law_keypad_ok ns hns (a := 10) (m := 8) (by decide) (by decide) (by decide)
  have g := hI.good (by omega)
  have hlen : kp.flatten.length = n := by
    rw [hI.pm.length_eq, List.length_take]
    have : BL.length = 8 := rfl
    omega
  have hlen2 := g.len
  have h26 : (kp.flatten.length ≤ 100000) := by omega
  obtain ⟨odd, hodd, hodd2⟩ := badpad_ok ns hns (a := 1) (by decide)
  obtain ⟨bad, hbad, hbad2⟩ := badword_ok ns hns (a := 2) (by decide)
  obtain ⟨r, hr, hr0, hr1⟩ := drawn_ok ns hns (k := 3) (m := 6) (by decide) (by decide)
  obtain ⟨lt, hlt, hlt2⟩ := atI_lt (l := ([.non, .str [], .str (kp.flatten.take 2), .str [122], .str [65], .int 7] : List D)) (i := r) hr0 hr1
  have hltb := bad_letter hI g (by omega) lt (List.mem_of_getElem? hlt2)
  have hhw := bad_word hI g bad hbad2
  obtain ⟨x, y, hl1⟩ := loop1 (ns := ns) g
  obtain ⟨x', y', z5, z6, z7, z8, z9, z10, hl4⟩ := loop4 (kp := kp) hns g (by omega) (x0 := x) (y0 := y)
  have hkp' : g__law_keypad [.scr ns, .int 10, .int 8] = okR (.tup (kp.map .str)) := hkp
  have ek : g_is_keypad [.tup (kp.map .str)] = okR (.bl true) := is_keypad_good g
  have eaz : g_is_keypad [.tup [.str LETT]] = okR (.bl true) := is_keypad_good good_az
  have e10 : g_is_keypad [.tup (signsD [97, 98, 99, 100, 101, 102, 103, 104, 105, 106])] = okR (.bl true) := is_keypad_good good_10
  obtain ⟨c0, hc0, hc0m⟩ := atI_lt (l := kp.flatten) (i := 0) (by decide) (by omega)
  have e8 : g_is_word [.tup (kp.map .str), .str (List.replicate 8 [c0]).flatten] = okR (.bl true) := by
    have := is_word_of g (has_word_s g (w := (List.replicate 8 [c0]).flatten) (by simp))
    rw [show wordB kp (List.replicate 8 [c0]).flatten = true from ?_] at this
    · exact this
    · have hm : decide (c0 ∈ kp.flatten) = true := decide_eq_true (List.mem_of_getElem? hc0m)
      unfold wordB
      simp only [List.replicate, List.flatten_cons, List.flatten_nil, List.cons_append, List.nil_append, List.all_cons, List.all_nil, hm, Bool.and_true, List.length_cons, List.length_nil]
      rfl
  have e8' : g_is_word [.tup (kp.map .str), .str ([[c0], [c0], [c0], [c0], [c0], [c0], [c0], [c0]] : List (List Nat)).flatten] = okR (.bl true) := e8
  have eo0 : g__law_error [.int 0, odd, bad] = okR (.int 0) := err_0 (is_word_pad hodd2) (by decide)
  have eo1 : g__law_error [.int 1, odd, lt] = okR (.int 0) := err_1 (key_of_pad hodd2) (by decide)
  have eo3 := err_3 (two := bad) (check_word_pad hodd2) (by decide)
  have ek1 : g__law_error [.int 1, .tup (kp.map .str), lt] = okR (.int 1) := err_1 (key_of_bad g hltb) (by decide)
  have ek3 := err_3 (check_word_bad g hhw) (by decide)
  have eisw : g_is_word [.tup (kp.map .str), bad] = okR (.bl false) := is_word_of g hhw
  have cut2 : cutL kp.flatten none (some 2) = kp.flatten.take 2 := by
    unfold cutL
    rw [HT.sIx_none, show HT.sIx kp.flatten.length kp.flatten.length (some 2) = min 2 kp.flatten.length from HT.sIx_nat _ _ 2, List.drop_zero, Nat.sub_zero, show min 2 kp.flatten.length = 2 by omega]
  refine run_ret ?_
  show m_law [.sh (.scr ns), .un, .un, .un, .un, .un, .un, .un, .un, .un, .un, .un, .un, .un, .un, .un] = _
  unfold m_law
  rw [seq_step (st' := [.sh (.scr ns), .sh (.tup (kp.map .str)), .un, .un, .un, .un, .un, .un, .un, .un, .un, .un, .un, .un, .un, .un]) (by simp only [w_0, w_1, w_2, w_3, w_4, w_5, w_6, w_7, w_8, w_9, w_10, w_11, w_12, w_13, w_14, w_15, w_16, w_17, w_18, w_19, w_20, w_21, w_22, w_23, w_24, w_25, w_26, w_27, w_28, w_29, w_30, w_31, w_32, w_33, w_34, w_35, w_36, w_37, w_38, w_39, w_40, w_41, w_42, w_43, w_44, w_45, w_46, w_47, w_48, w_49, w_50, w_51, w_52, w_53, w_54, w_55, w_56, w_57, w_58, w_59, w_60, w_61, w_62, w_63, w_64, w_65, w_66, w_67, w_68, w_69, w_70, w_71, w_72, w_73, w_74, w_75, w_76, w_77, w_78, w_79, w_80, w_81, w_82, w_83, w_84, w_85, w_86, w_87, w_88, w_89, w_90, w_91, w_92, w_93, w_94, w_95, w_96, w_97, w_98, w_99, w_100, w_101, w_102, w_103, w_104, w_105, w_106, w_107, w_108, w_109, w_110, w_111, w_112, w_113, w_114, w_115, w_116, w_117, w_118, w_119, w_120, w_121, w_122, w_123, w_124, w_125, w_126, w_127, w_128, w_129, w_130, w_131, w_132, w_133, w_134, w_135, w_136, w_137, w_138, w_139, w_140, w_141, w_142, w_143, w_144, w_145, w_146, w_147, w_148, w_149, w_150, w_151, w_152, w_153, w_154, w_155, w_156, w_157, w_158, w_159, w_160, w_161, w_162, w_163, w_164, w_165, w_166, w_167, w_168, w_169, w_170, w_171, w_172, w_173, w_174, w_175, w_176, w_177, w_178, w_179, w_180, w_181, w_182, w_183, w_184, w_185, w_186, w_187, w_188, w_189, w_190, w_191, w_192, w_193, w_194, w_195, w_196, w_197, w_198, w_199, w_200, w_201, w_202, w_203, w_204, w_205, w_206, w_207, w_208, ↓reduceIte, Bool.not_true, Bool.not_false, Bool.false_eq_true, Bool.true_eq_false, if_true, if_false, List.map_cons, List.map_nil, List.length_cons, List.length_nil, List.cons_append, List.nil_append, List.replicate, Nat.reduceAdd, Nat.reduceSub, and_self, hkp', imm_strs])]
  rw [seq_step (st' := [.sh (.scr ns), .sh (.tup (kp.map .str)), .sh (.str kp.flatten), .un, .un, .un, .un, .un, .un, .un, .un, .un, .un, .un, .un, .un]) (by simp only [w_0, w_1, w_2, w_3, w_4, w_5, w_6, w_7, w_8, w_9, w_10, w_11, w_12, w_13, w_14, w_15, w_16, w_17, w_18, w_19, w_20, w_21, w_22, w_23, w_24, w_25, w_26, w_27, w_28, w_29, w_30, w_31, w_32, w_33, w_34, w_35, w_36, w_37, w_38, w_39, w_40, w_41, w_42, w_43, w_44, w_45, w_46, w_47, w_48, w_49, w_50, w_51, w_52, w_53, w_54, w_55, w_56, w_57, w_58, w_59, w_60, w_61, w_62, w_63, w_64, w_65, w_66, w_67, w_68, w_69, w_70, w_71, w_72, w_73, w_74, w_75, w_76, w_77, w_78, w_79, w_80, w_81, w_82, w_83, w_84, w_85, w_86, w_87, w_88, w_89, w_90, w_91, w_92, w_93, w_94, w_95, w_96, w_97, w_98, w_99, w_100, w_101, w_102, w_103, w_104, w_105, w_106, w_107, w_108, w_109, w_110, w_111, w_112, w_113, w_114, w_115, w_116, w_117, w_118, w_119, w_120, w_121, w_122, w_123, w_124, w_125, w_126, w_127, w_128, w_129, w_130, w_131, w_132, w_133, w_134, w_135, w_136, w_137, w_138, w_139, w_140, w_141, w_142, w_143, w_144, w_145, w_146, w_147, w_148, w_149, w_150, w_151, w_152, w_153, w_154, w_155, w_156, w_157, w_158, w_159, w_160, w_161, w_162, w_163, w_164, w_165, w_166, w_167, w_168, w_169, w_170, w_171, w_172, w_173, w_174, w_175, w_176, w_177, w_178, w_179, w_180, w_181, w_182, w_183, w_184, w_185, w_186, w_187, w_188, w_189, w_190, w_191, w_192, w_193, w_194, w_195, w_196, w_197, w_198, w_199, w_200, w_201, w_202, w_203, w_204, w_205, w_206, w_207, w_208, ↓reduceIte, Bool.not_true, Bool.not_false, Bool.false_eq_true, Bool.true_eq_false, if_true, if_false, List.map_cons, List.map_nil, List.length_cons, List.length_nil, List.cons_append, List.nil_append, List.replicate, Nat.reduceAdd, Nat.reduceSub, and_self, w_194 (l := kp) h26])]
  rw [seq_step (st' := [.sh (.scr ns), .sh (.tup (kp.map .str)), .sh (.str kp.flatten), .un, .un, .un, .un, .un, .un, .un, .un, .un, .un, .un, .un, .un]) (by simp only [w_0, w_1, w_2, w_3, w_4, w_5, w_6, w_7, w_8, w_9, w_10, w_11, w_12, w_13, w_14, w_15, w_16, w_17, w_18, w_19, w_20, w_21, w_22, w_23, w_24, w_25, w_26, w_27, w_28, w_29, w_30, w_31, w_32, w_33, w_34, w_35, w_36, w_37, w_38, w_39, w_40, w_41, w_42, w_43, w_44, w_45, w_46, w_47, w_48, w_49, w_50, w_51, w_52, w_53, w_54, w_55, w_56, w_57, w_58, w_59, w_60, w_61, w_62, w_63, w_64, w_65, w_66, w_67, w_68, w_69, w_70, w_71, w_72, w_73, w_74, w_75, w_76, w_77, w_78, w_79, w_80, w_81, w_82, w_83, w_84, w_85, w_86, w_87, w_88, w_89, w_90, w_91, w_92, w_93, w_94, w_95, w_96, w_97, w_98, w_99, w_100, w_101, w_102, w_103, w_104, w_105, w_106, w_107, w_108, w_109, w_110, w_111, w_112, w_113, w_114, w_115, w_116, w_117, w_118, w_119, w_120, w_121, w_122, w_123, w_124, w_125, w_126, w_127, w_128, w_129, w_130, w_131, w_132, w_133, w_134, w_135, w_136, w_137, w_138, w_139, w_140, w_141, w_142, w_143, w_144, w_145, w_146, w_147, w_148, w_149, w_150, w_151, w_152, w_153, w_154, w_155, w_156, w_157, w_158, w_159, w_160, w_161, w_162, w_163, w_164, w_165, w_166, w_167, w_168, w_169, w_170, w_171, w_172, w_173, w_174, w_175, w_176, w_177, w_178, w_179, w_180, w_181, w_182, w_183, w_184, w_185, w_186, w_187, w_188, w_189, w_190, w_191, w_192, w_193, w_194, w_195, w_196, w_197, w_198, w_199, w_200, w_201, w_202, w_203, w_204, w_205, w_206, w_207, w_208, ↓reduceIte, Bool.not_true, Bool.not_false, Bool.false_eq_true, Bool.true_eq_false, if_true, if_false, List.map_cons, List.map_nil, List.length_cons, List.length_nil, List.cons_append, List.nil_append, List.replicate, Nat.reduceAdd, Nat.reduceSub, and_self, ek, eaz, decide_true])]
  rw [seq_step (st' := [.sh (.scr ns), .sh (.tup (kp.map .str)), .sh (.str kp.flatten), .un, .un, .un, .un, .un, .un, .un, .un, .un, .un, .un, .un, .un]) (by
    simp only [w_0, w_1, w_2, w_3, w_4, w_5, w_6, w_7, w_8, w_9, w_10, w_11, w_12, w_13, w_14, w_15, w_16, w_17, w_18, w_19, w_20, w_21, w_22, w_23, w_24, w_25, w_26, w_27, w_28, w_29, w_30, w_31, w_32, w_33, w_34, w_35, w_36, w_37, w_38, w_39, w_40, w_41, w_42, w_43, w_44, w_45, w_46, w_47, w_48, w_49, w_50, w_51, w_52, w_53, w_54, w_55, w_56, w_57, w_58, w_59, w_60, w_61, w_62, w_63, w_64, w_65, w_66, w_67, w_68, w_69, w_70, w_71, w_72, w_73, w_74, w_75, w_76, w_77, w_78, w_79, w_80, w_81, w_82, w_83, w_84, w_85, w_86, w_87, w_88, w_89, w_90, w_91, w_92, w_93, w_94, w_95, w_96, w_97, w_98, w_99, w_100, w_101, w_102, w_103, w_104, w_105, w_106, w_107, w_108, w_109, w_110, w_111, w_112, w_113, w_114, w_115, w_116, w_117, w_118, w_119, w_120, w_121, w_122, w_123, w_124, w_125, w_126, w_127, w_128, w_129, w_130, w_131, w_132, w_133, w_134, w_135, w_136, w_137, w_138, w_139, w_140, w_141, w_142, w_143, w_144, w_145, w_146, w_147, w_148, w_149, w_150, w_151, w_152, w_153, w_154, w_155, w_156, w_157, w_158, w_159, w_160, w_161, w_162, w_163, w_164, w_165, w_166, w_167, w_168, w_169, w_170, w_171, w_172, w_173, w_174, w_175, w_176, w_177, w_178, w_179, w_180, w_181, w_182, w_183, w_184, w_185, w_186, w_187, w_188, w_189, w_190, w_191, w_192, w_193, w_194, w_195, w_196, w_197, w_198, w_199, w_200, w_201, w_202, w_203, w_204, w_205, w_206, w_207, w_208, ↓reduceIte, Bool.not_true, Bool.not_false, Bool.false_eq_true, Bool.true_eq_false, if_true, if_false, List.map_cons, List.map_nil, List.length_cons, List.length_nil, List.cons_append, List.nil_append, List.replicate, Nat.reduceAdd, Nat.reduceSub, and_self, e10, Nat.reduceLeDiff, h26, hc0, Option.map, w_163 (l := [c0]) (k := 8) (by simp), (show Int.toNat 8 = 8 from rfl), e8', decide_true])]
  rw [seq_step (st' := [.sh (.scr ns), .sh (.tup (kp.map .str)), .sh (.str kp.flatten), x, y, .un, .un, .un, .un, .un, .un, .un, .un, .un, .un, .un]) (by simp only [w_0, w_1, w_2, w_3, w_4, w_5, w_6, w_7, w_8, w_9, w_10, w_11, w_12, w_13, w_14, w_15, w_16, w_17, w_18, w_19, w_20, w_21, w_22, w_23, w_24, w_25, w_26, w_27, w_28, w_29, w_30, w_31, w_32, w_33, w_34, w_35, w_36, w_37, w_38, w_39, w_40, w_41, w_42, w_43, w_44, w_45, w_46, w_47, w_48, w_49, w_50, w_51, w_52, w_53, w_54, w_55, w_56, w_57, w_58, w_59, w_60, w_61, w_62, w_63, w_64, w_65, w_66, w_67, w_68, w_69, w_70, w_71, w_72, w_73, w_74, w_75, w_76, w_77, w_78, w_79, w_80, w_81, w_82, w_83, w_84, w_85, w_86, w_87, w_88, w_89, w_90, w_91, w_92, w_93, w_94, w_95, w_96, w_97, w_98, w_99, w_100, w_101, w_102, w_103, w_104, w_105, w_106, w_107, w_108, w_109, w_110, w_111, w_112, w_113, w_114, w_115, w_116, w_117, w_118, w_119, w_120, w_121, w_122, w_123, w_124, w_125, w_126, w_127, w_128, w_129, w_130, w_131, w_132, w_133, w_134, w_135, w_136, w_137, w_138, w_139, w_140, w_141, w_142, w_143, w_144, w_145, w_146, w_147, w_148, w_149, w_150, w_151, w_152, w_153, w_154, w_155, w_156, w_157, w_158, w_159, w_160, w_161, w_162, w_163, w_164, w_165, w_166, w_167, w_168, w_169, w_170, w_171, w_172, w_173, w_174, w_175, w_176, w_177, w_178, w_179, w_180, w_181, w_182, w_183, w_184, w_185, w_186, w_187, w_188, w_189, w_190, w_191, w_192, w_193, w_194, w_195, w_196, w_197, w_198, w_199, w_200, w_201, w_202, w_203, w_204, w_205, w_206, w_207, w_208, ↓reduceIte, Bool.not_true, Bool.not_false, Bool.false_eq_true, Bool.true_eq_false, if_true, if_false, List.map_cons, List.map_nil, List.length_cons, List.length_nil, List.cons_append, List.nil_append, List.replicate, Nat.reduceAdd, Nat.reduceSub, and_self, Option.map, hl1])]
  rw [seq_step (st' := [.sh (.scr ns), .sh (.tup (kp.map .str)), .sh (.str kp.flatten), x', y', z5, z6, z7, z8, z9, z10, .un, .un, .un, .un, .un]) (by
    rw [w_105, show (mRange1 (mCons (mC (.int 5)) mNil)) (hidS [.sh (.scr ns), .sh (.tup (kp.map .str)), .sh (.str kp.flatten), x, y, .un, .un, .un, .un, .un, .un, .un, .un, .un, .un, .un]) = okR (rangeL 0 1 5) from rfl]
    exact hl4)]
  rw [seq_step (st' := [.sh (.scr ns), .sh (.tup (kp.map .str)), .sh (.str kp.flatten), x', y', z5, z6, z7, z8, z9, z10, .sh odd, .sh bad, .un, .un, .un]) (by
    rw [w_110, sh_any (d := .tup [odd, bad]) (by simp only [w_0, w_1, w_2, w_3, w_4, w_5, w_6, w_7, w_8, w_9, w_10, w_11, w_12, w_13, w_14, w_15, w_16, w_17, w_18, w_19, w_20, w_21, w_22, w_23, w_24, w_25, w_26, w_27, w_28, w_29, w_30, w_31, w_32, w_33, w_34, w_35, w_36, w_37, w_38, w_39, w_40, w_41, w_42, w_43, w_44, w_45, w_46, w_47, w_48, w_49, w_50, w_51, w_52, w_53, w_54, w_55, w_56, w_57, w_58, w_59, w_60, w_61, w_62, w_63, w_64, w_65, w_66, w_67, w_68, w_69, w_70, w_71, w_72, w_73, w_74, w_75, w_76, w_77, w_78, w_79, w_80, w_81, w_82, w_83, w_84, w_85, w_86, w_87, w_88, w_89, w_90, w_91, w_92, w_93, w_94, w_95, w_96, w_97, w_98, w_99, w_100, w_101, w_102, w_103, w_104, w_105, w_106, w_107, w_108, w_109, w_110, w_111, w_112, w_113, w_114, w_115, w_116, w_117, w_118, w_119, w_120, w_121, w_122, w_123, w_124, w_125, w_126, w_127, w_128, w_129, w_130, w_131, w_132, w_133, w_134, w_135, w_136, w_137, w_138, w_139, w_140, w_141, w_142, w_143, w_144, w_145, w_146, w_147, w_148, w_149, w_150, w_151, w_152, w_153, w_154, w_155, w_156, w_157, w_158, w_159, w_160, w_161, w_162, w_163, w_164, w_165, w_166, w_167, w_168, w_169, w_170, w_171, w_172, w_173, w_174, w_175, w_176, w_177, w_178, w_179, w_180, w_181, w_182, w_183, w_184, w_185, w_186, w_187, w_188, w_189, w_190, w_191, w_192, w_193, w_194, w_195, w_196, w_197, w_198, w_199, w_200, w_201, w_202, w_203, w_204, w_205, w_206, w_207, w_208, ↓reduceIte, Bool.not_true, Bool.not_false, Bool.false_eq_true, Bool.true_eq_false, if_true, if_false, List.map_cons, List.map_nil, List.length_cons, List.length_nil, List.cons_append, List.nil_append, List.replicate, Nat.reduceAdd, Nat.reduceSub, and_self, hodd, hbad]) (by simp only [hidS, List.map_cons, List.map_nil]; simp only [w_0, w_1, w_2, w_3, w_4, w_5, w_6, w_7, w_8, w_9, w_10, w_11, w_12, w_13, w_14, w_15, w_16, w_17, w_18, w_19, w_20, w_21, w_22, w_23, w_24, w_25, w_26, w_27, w_28, w_29, w_30, w_31, w_32, w_33, w_34, w_35, w_36, w_37, w_38, w_39, w_40, w_41, w_42, w_43, w_44, w_45, w_46, w_47, w_48, w_49, w_50, w_51, w_52, w_53, w_54, w_55, w_56, w_57, w_58, w_59, w_60, w_61, w_62, w_63, w_64, w_65, w_66, w_67, w_68, w_69, w_70, w_71, w_72, w_73, w_74, w_75, w_76, w_77, w_78, w_79, w_80, w_81, w_82, w_83, w_84, w_85, w_86, w_87, w_88, w_89, w_90, w_91, w_92, w_93, w_94, w_95, w_96, w_97, w_98, w_99, w_100, w_101, w_102, w_103, w_104, w_105, w_106, w_107, w_108, w_109, w_110, w_111, w_112, w_113, w_114, w_115, w_116, w_117, w_118, w_119, w_120, w_121, w_122, w_123, w_124, w_125, w_126, w_127, w_128, w_129, w_130, w_131, w_132, w_133, w_134, w_135, w_136, w_137, w_138, w_139, w_140, w_141, w_142, w_143, w_144, w_145, w_146, w_147, w_148, w_149, w_150, w_151, w_152, w_153, w_154, w_155, w_156, w_157, w_158, w_159, w_160, w_161, w_162, w_163, w_164, w_165, w_166, w_167, w_168, w_169, w_170, w_171, w_172, w_173, w_174, w_175, w_176, w_177, w_178, w_179, w_180, w_181, w_182, w_183, w_184, w_185, w_186, w_187, w_188, w_189, w_190, w_191, w_192, w_193, w_194, w_195, w_196, w_197, w_198, w_199, w_200, w_201, w_202, w_203, w_204, w_205, w_206, w_207, w_208, ↓reduceIte, Bool.not_true, Bool.not_false, Bool.false_eq_true, Bool.true_eq_false, if_true, if_false, List.map_cons, List.map_nil, List.length_cons, List.length_nil, List.cons_append, List.nil_append, List.replicate, Nat.reduceAdd, Nat.reduceSub, and_self, hodd, hbad]), bnd_okR, upB_sh (w_132 ..)]
    rfl)]
  rw [seq_step (st' := [.sh (.scr ns), .sh (.tup (kp.map .str)), .sh (.str kp.flatten), x', y', z5, z6, z7, z8, z9, .sh lt, .sh odd, .sh bad, .un, .un, .un]) (by
    rw [w_92, sh_any (d := lt) (by simp only [w_0, w_1, w_2, w_3, w_4, w_5, w_6, w_7, w_8, w_9, w_10, w_11, w_12, w_13, w_14, w_15, w_16, w_17, w_18, w_19, w_20, w_21, w_22, w_23, w_24, w_25, w_26, w_27, w_28, w_29, w_30, w_31, w_32, w_33, w_34, w_35, w_36, w_37, w_38, w_39, w_40, w_41, w_42, w_43, w_44, w_45, w_46, w_47, w_48, w_49, w_50, w_51, w_52, w_53, w_54, w_55, w_56, w_57, w_58, w_59, w_60, w_61, w_62, w_63, w_64, w_65, w_66, w_67, w_68, w_69, w_70, w_71, w_72, w_73, w_74, w_75, w_76, w_77, w_78, w_79, w_80, w_81, w_82, w_83, w_84, w_85, w_86, w_87, w_88, w_89, w_90, w_91, w_92, w_93, w_94, w_95, w_96, w_97, w_98, w_99, w_100, w_101, w_102, w_103, w_104, w_105, w_106, w_107, w_108, w_109, w_110, w_111, w_112, w_113, w_114, w_115, w_116, w_117, w_118, w_119, w_120, w_121, w_122, w_123, w_124, w_125, w_126, w_127, w_128, w_129, w_130, w_131, w_132, w_133, w_134, w_135, w_136, w_137, w_138, w_139, w_140, w_141, w_142, w_143, w_144, w_145, w_146, w_147, w_148, w_149, w_150, w_151, w_152, w_153, w_154, w_155, w_156, w_157, w_158, w_159, w_160, w_161, w_162, w_163, w_164, w_165, w_166, w_167, w_168, w_169, w_170, w_171, w_172, w_173, w_174, w_175, w_176, w_177, w_178, w_179, w_180, w_181, w_182, w_183, w_184, w_185, w_186, w_187, w_188, w_189, w_190, w_191, w_192, w_193, w_194, w_195, w_196, w_197, w_198, w_199, w_200, w_201, w_202, w_203, w_204, w_205, w_206, w_207, w_208, ↓reduceIte, Bool.not_true, Bool.not_false, Bool.false_eq_true, Bool.true_eq_false, if_true, if_false, List.map_cons, List.map_nil, List.length_cons, List.length_nil, List.cons_append, List.nil_append, List.replicate, Nat.reduceAdd, Nat.reduceSub, and_self, e_cut_s h26, cut2, hr, hlt]) (by simp only [hidS, List.map_cons, List.map_nil]; simp only [w_0, w_1, w_2, w_3, w_4, w_5, w_6, w_7, w_8, w_9, w_10, w_11, w_12, w_13, w_14, w_15, w_16, w_17, w_18, w_19, w_20, w_21, w_22, w_23, w_24, w_25, w_26, w_27, w_28, w_29, w_30, w_31, w_32, w_33, w_34, w_35, w_36, w_37, w_38, w_39, w_40, w_41, w_42, w_43, w_44, w_45, w_46, w_47, w_48, w_49, w_50, w_51, w_52, w_53, w_54, w_55, w_56, w_57, w_58, w_59, w_60, w_61, w_62, w_63, w_64, w_65, w_66, w_67, w_68, w_69, w_70, w_71, w_72, w_73, w_74, w_75, w_76, w_77, w_78, w_79, w_80, w_81, w_82, w_83, w_84, w_85, w_86, w_87, w_88, w_89, w_90, w_91, w_92, w_93, w_94, w_95, w_96, w_97, w_98, w_99, w_100, w_101, w_102, w_103, w_104, w_105, w_106, w_107, w_108, w_109, w_110, w_111, w_112, w_113, w_114, w_115, w_116, w_117, w_118, w_119, w_120, w_121, w_122, w_123, w_124, w_125, w_126, w_127, w_128, w_129, w_130, w_131, w_132, w_133, w_134, w_135, w_136, w_137, w_138, w_139, w_140, w_141, w_142, w_143, w_144, w_145, w_146, w_147, w_148, w_149, w_150, w_151, w_152, w_153, w_154, w_155, w_156, w_157, w_158, w_159, w_160, w_161, w_162, w_163, w_164, w_165, w_166, w_167, w_168, w_169, w_170, w_171, w_172, w_173, w_174, w_175, w_176, w_177, w_178, w_179, w_180, w_181, w_182, w_183, w_184, w_185, w_186, w_187, w_188, w_189, w_190, w_191, w_192, w_193, w_194, w_195, w_196, w_197, w_198, w_199, w_200, w_201, w_202, w_203, w_204, w_205, w_206, w_207, w_208, ↓reduceIte, Bool.not_true, Bool.not_false, Bool.false_eq_true, Bool.true_eq_false, if_true, if_false, List.map_cons, List.map_nil, List.length_cons, List.length_nil, List.cons_append, List.nil_append, List.replicate, Nat.reduceAdd, Nat.reduceSub, and_self, e_cut_s h26, cut2, hr, hlt])]
    rfl)]
  rw [seq_step (st' := [.sh (.scr ns), .sh (.tup (kp.map .str)), .sh (.str kp.flatten), x', y', z5, z6, z7, z8, z9, .sh lt, .sh odd, .sh bad, .un, .un, .un]) (by simp only [w_0, w_1, w_2, w_3, w_4, w_5, w_6, w_7, w_8, w_9, w_10, w_11, w_12, w_13, w_14, w_15, w_16, w_17, w_18, w_19, w_20, w_21, w_22, w_23, w_24, w_25, w_26, w_27, w_28, w_29, w_30, w_31, w_32, w_33, w_34, w_35, w_36, w_37, w_38, w_39, w_40, w_41, w_42, w_43, w_44, w_45, w_46, w_47, w_48, w_49, w_50, w_51, w_52, w_53, w_54, w_55, w_56, w_57, w_58, w_59, w_60, w_61, w_62, w_63, w_64, w_65, w_66, w_67, w_68, w_69, w_70, w_71, w_72, w_73, w_74, w_75, w_76, w_77, w_78, w_79, w_80, w_81, w_82, w_83, w_84, w_85, w_86, w_87, w_88, w_89, w_90, w_91, w_92, w_93, w_94, w_95, w_96, w_97, w_98, w_99, w_100, w_101, w_102, w_103, w_104, w_105, w_106, w_107, w_108, w_109, w_110, w_111, w_112, w_113, w_114, w_115, w_116, w_117, w_118, w_119, w_120, w_121, w_122, w_123, w_124, w_125, w_126, w_127, w_128, w_129, w_130, w_131, w_132, w_133, w_134, w_135, w_136, w_137, w_138, w_139, w_140, w_141, w_142, w_143, w_144, w_145, w_146, w_147, w_148, w_149, w_150, w_151, w_152, w_153, w_154, w_155, w_156, w_157, w_158, w_159, w_160, w_161, w_162, w_163, w_164, w_165, w_166, w_167, w_168, w_169, w_170, w_171, w_172, w_173, w_174, w_175, w_176, w_177, w_178, w_179, w_180, w_181, w_182, w_183, w_184, w_185, w_186, w_187, w_188, w_189, w_190, w_191, w_192, w_193, w_194, w_195, w_196, w_197, w_198, w_199, w_200, w_201, w_202, w_203, w_204, w_205, w_206, w_207, w_208, ↓reduceIte, Bool.not_true, Bool.not_false, Bool.false_eq_true, Bool.true_eq_false, if_true, if_false, List.map_cons, List.map_nil, List.length_cons, List.length_nil, List.cons_append, List.nil_append, List.replicate, Nat.reduceAdd, Nat.reduceSub, and_self, hodd2, eisw])]
  rw [seq_step (st' := [.sh (.scr ns), .sh (.tup (kp.map .str)), .sh (.str kp.flatten), x', y', z5, z6, z7, z8, z9, .sh lt, .sh odd, .sh bad, .sh (.lst [.int 0, .int 0]), .un, .un]) (by
    rw [w_92, sh_any (d := .lst [.int 0, .int 0]) (by simp only [w_0, w_1, w_2, w_3, w_4, w_5, w_6, w_7, w_8, w_9, w_10, w_11, w_12, w_13, w_14, w_15, w_16, w_17, w_18, w_19, w_20, w_21, w_22, w_23, w_24, w_25, w_26, w_27, w_28, w_29, w_30, w_31, w_32, w_33, w_34, w_35, w_36, w_37, w_38, w_39, w_40, w_41, w_42, w_43, w_44, w_45, w_46, w_47, w_48, w_49, w_50, w_51, w_52, w_53, w_54, w_55, w_56, w_57, w_58, w_59, w_60, w_61, w_62, w_63, w_64, w_65, w_66, w_67, w_68, w_69, w_70, w_71, w_72, w_73, w_74, w_75, w_76, w_77, w_78, w_79, w_80, w_81, w_82, w_83, w_84, w_85, w_86, w_87, w_88, w_89, w_90, w_91, w_92, w_93, w_94, w_95, w_96, w_97, w_98, w_99, w_100, w_101, w_102, w_103, w_104, w_105, w_106, w_107, w_108, w_109, w_110, w_111, w_112, w_113, w_114, w_115, w_116, w_117, w_118, w_119, w_120, w_121, w_122, w_123, w_124, w_125, w_126, w_127, w_128, w_129, w_130, w_131, w_132, w_133, w_134, w_135, w_136, w_137, w_138, w_139, w_140, w_141, w_142, w_143, w_144, w_145, w_146, w_147, w_148, w_149, w_150, w_151, w_152, w_153, w_154, w_155, w_156, w_157, w_158, w_159, w_160, w_161, w_162, w_163, w_164, w_165, w_166, w_167, w_168, w_169, w_170, w_171, w_172, w_173, w_174, w_175, w_176, w_177, w_178, w_179, w_180, w_181, w_182, w_183, w_184, w_185, w_186, w_187, w_188, w_189, w_190, w_191, w_192, w_193, w_194, w_195, w_196, w_197, w_198, w_199, w_200, w_201, w_202, w_203, w_204, w_205, w_206, w_207, w_208, ↓reduceIte, Bool.not_true, Bool.not_false, Bool.false_eq_true, Bool.true_eq_false, if_true, if_false, List.map_cons, List.map_nil, List.length_cons, List.length_nil, List.cons_append, List.nil_append, List.replicate, Nat.reduceAdd, Nat.reduceSub, and_self, eo0, eo1]) (by simp only [hidS, List.map_cons, List.map_nil]; simp only [w_0, w_1, w_2, w_3, w_4, w_5, w_6, w_7, w_8, w_9, w_10, w_11, w_12, w_13, w_14, w_15, w_16, w_17, w_18, w_19, w_20, w_21, w_22, w_23, w_24, w_25, w_26, w_27, w_28, w_29, w_30, w_31, w_32, w_33, w_34, w_35, w_36, w_37, w_38, w_39, w_40, w_41, w_42, w_43, w_44, w_45, w_46, w_47, w_48, w_49, w_50, w_51, w_52, w_53, w_54, w_55, w_56, w_57, w_58, w_59, w_60, w_61, w_62, w_63, w_64, w_65, w_66, w_67, w_68, w_69, w_70, w_71, w_72, w_73, w_74, w_75, w_76, w_77, w_78, w_79, w_80, w_81, w_82, w_83, w_84, w_85, w_86, w_87, w_88, w_89, w_90, w_91, w_92, w_93, w_94, w_95, w_96, w_97, w_98, w_99, w_100, w_101, w_102, w_103, w_104, w_105, w_106, w_107, w_108, w_109, w_110, w_111, w_112, w_113, w_114, w_115, w_116, w_117, w_118, w_119, w_120, w_121, w_122, w_123, w_124, w_125, w_126, w_127, w_128, w_129, w_130, w_131, w_132, w_133, w_134, w_135, w_136, w_137, w_138, w_139, w_140, w_141, w_142, w_143, w_144, w_145, w_146, w_147, w_148, w_149, w_150, w_151, w_152, w_153, w_154, w_155, w_156, w_157, w_158, w_159, w_160, w_161, w_162, w_163, w_164, w_165, w_166, w_167, w_168, w_169, w_170, w_171, w_172, w_173, w_174, w_175, w_176, w_177, w_178, w_179, w_180, w_181, w_182, w_183, w_184, w_185, w_186, w_187, w_188, w_189, w_190, w_191, w_192, w_193, w_194, w_195, w_196, w_197, w_198, w_199, w_200, w_201, w_202, w_203, w_204, w_205, w_206, w_207, w_208, ↓reduceIte, Bool.not_true, Bool.not_false, Bool.false_eq_true, Bool.true_eq_false, if_true, if_false, List.map_cons, List.map_nil, List.length_cons, List.length_nil, List.cons_append, List.nil_append, List.replicate, Nat.reduceAdd, Nat.reduceSub, and_self, eo0, eo1])]
    rfl)]
  have lc1 : ∀ x' y' z5 z6 z7 z8 z9 s13 : Sl, lcGo (.one 15) mYes el_law_11 [.sh (.scr ns), .sh (.tup (kp.map .str)), .sh (.str kp.flatten), x', y', z5, z6, z7, z8, z9, .sh lt, .sh odd, .sh bad, s13, .un, .un] [.int 2, .int 3, .int 4] = okR [.int 0, .int 0, .int 0] := fun x' y' z5 z6 z7 z8 z9 s13 =>
    lcA (f := D.int) (h := fun _ => .int 0) [2, 3, 4] fun i hi => ⟨_, rfl, by
      have := eo3 i hi
      unfold el_law_11
      simp only [w_0, w_1, w_2, w_3, w_4, w_5, w_6, w_7, w_8, w_9, w_10, w_11, w_12, w_13, w_14, w_15, w_16, w_17, w_18, w_19, w_20, w_21, w_22, w_23, w_24, w_25, w_26, w_27, w_28, w_29, w_30, w_31, w_32, w_33, w_34, w_35, w_36, w_37, w_38, w_39, w_40, w_41, w_42, w_43, w_44, w_45, w_46, w_47, w_48, w_49, w_50, w_51, w_52, w_53, w_54, w_55, w_56, w_57, w_58, w_59, w_60, w_61, w_62, w_63, w_64, w_65, w_66, w_67, w_68, w_69, w_70, w_71, w_72, w_73, w_74, w_75, w_76, w_77, w_78, w_79, w_80, w_81, w_82, w_83, w_84, w_85, w_86, w_87, w_88, w_89, w_90, w_91, w_92, w_93, w_94, w_95, w_96, w_97, w_98, w_99, w_100, w_101, w_102, w_103, w_104, w_105, w_106, w_107, w_108, w_109, w_110, w_111, w_112, w_113, w_114, w_115, w_116, w_117, w_118, w_119, w_120, w_121, w_122, w_123, w_124, w_125, w_126, w_127, w_128, w_129, w_130, w_131, w_132, w_133, w_134, w_135, w_136, w_137, w_138, w_139, w_140, w_141, w_142, w_143, w_144, w_145, w_146, w_147, w_148, w_149, w_150, w_151, w_152, w_153, w_154, w_155, w_156, w_157, w_158, w_159, w_160, w_161, w_162, w_163, w_164, w_165, w_166, w_167, w_168, w_169, w_170, w_171, w_172, w_173, w_174, w_175, w_176, w_177, w_178, w_179, w_180, w_181, w_182, w_183, w_184, w_185, w_186, w_187, w_188, w_189, w_190, w_191, w_192, w_193, w_194, w_195, w_196, w_197, w_198, w_199, w_200, w_201, w_202, w_203, w_204, w_205, w_206, w_207, w_208, ↓reduceIte, Bool.not_true, Bool.not_false, Bool.false_eq_true, Bool.true_eq_false, if_true, if_false, List.map_cons, List.map_nil, List.length_cons, List.length_nil, List.cons_append, List.nil_append, List.replicate, Nat.reduceAdd, Nat.reduceSub, and_self]
      exact this⟩
  have lc2 : ∀ x' y' z5 z6 z7 z8 z9 s13 : Sl, lcGo (.one 15) mYes el_law_12 [.sh (.scr ns), .sh (.tup (kp.map .str)), .sh (.str kp.flatten), x', y', z5, z6, z7, z8, z9, .sh lt, .sh odd, .sh bad, s13, .un, .un] [.int 2, .int 3, .int 4] = okR [.int 2, .int 2, .int 2] := fun x' y' z5 z6 z7 z8 z9 s13 =>
    lcA (f := D.int) (h := fun _ => .int 2) [2, 3, 4] fun i hi => ⟨_, rfl, by
      have := ek3 i hi
      unfold el_law_12
      simp only [w_0, w_1, w_2, w_3, w_4, w_5, w_6, w_7, w_8, w_9, w_10, w_11, w_12, w_13, w_14, w_15, w_16, w_17, w_18, w_19, w_20, w_21, w_22, w_23, w_24, w_25, w_26, w_27, w_28, w_29, w_30, w_31, w_32, w_33, w_34, w_35, w_36, w_37, w_38, w_39, w_40, w_41, w_42, w_43, w_44, w_45, w_46, w_47, w_48, w_49, w_50, w_51, w_52, w_53, w_54, w_55, w_56, w_57, w_58, w_59, w_60, w_61, w_62, w_63, w_64, w_65, w_66, w_67, w_68, w_69, w_70, w_71, w_72, w_73, w_74, w_75, w_76, w_77, w_78, w_79, w_80, w_81, w_82, w_83, w_84, w_85, w_86, w_87, w_88, w_89, w_90, w_91, w_92, w_93, w_94, w_95, w_96, w_97, w_98, w_99, w_100, w_101, w_102, w_103, w_104, w_105, w_106, w_107, w_108, w_109, w_110, w_111, w_112, w_113, w_114, w_115, w_116, w_117, w_118, w_119, w_120, w_121, w_122, w_123, w_124, w_125, w_126, w_127, w_128, w_129, w_130, w_131, w_132, w_133, w_134, w_135, w_136, w_137, w_138, w_139, w_140, w_141, w_142, w_143, w_144, w_145, w_146, w_147, w_148, w_149, w_150, w_151, w_152, w_153, w_154, w_155, w_156, w_157, w_158, w_159, w_160, w_161, w_162, w_163, w_164, w_165, w_166, w_167, w_168, w_169, w_170, w_171, w_172, w_173, w_174, w_175, w_176, w_177, w_178, w_179, w_180, w_181, w_182, w_183, w_184, w_185, w_186, w_187, w_188, w_189, w_190, w_191, w_192, w_193, w_194, w_195, w_196, w_197, w_198, w_199, w_200, w_201, w_202, w_203, w_204, w_205, w_206, w_207, w_208, ↓reduceIte, Bool.not_true, Bool.not_false, Bool.false_eq_true, Bool.true_eq_false, if_true, if_false, List.map_cons, List.map_nil, List.length_cons, List.length_nil, List.cons_append, List.nil_append, List.replicate, Nat.reduceAdd, Nat.reduceSub, and_self]
      exact this⟩
  rw [seq_step (st' := [.sh (.scr ns), .sh (.tup (kp.map .str)), .sh (.str kp.flatten), x', y', z5, z6, z7, z8, z9, .sh lt, .sh odd, .sh bad, .sh (.lst [.int 0, .int 0, .int 0, .int 0, .int 0]), .un, .un]) (by
    rw [w_92, sh_any (d := .lst [.int 0, .int 0, .int 0, .int 0, .int 0]) (by simp only [w_0, w_1, w_2, w_3, w_4, w_5, w_6, w_7, w_8, w_9, w_10, w_11, w_12, w_13, w_14, w_15, w_16, w_17, w_18, w_19, w_20, w_21, w_22, w_23, w_24, w_25, w_26, w_27, w_28, w_29, w_30, w_31, w_32, w_33, w_34, w_35, w_36, w_37, w_38, w_39, w_40, w_41, w_42, w_43, w_44, w_45, w_46, w_47, w_48, w_49, w_50, w_51, w_52, w_53, w_54, w_55, w_56, w_57, w_58, w_59, w_60, w_61, w_62, w_63, w_64, w_65, w_66, w_67, w_68, w_69, w_70, w_71, w_72, w_73, w_74, w_75, w_76, w_77, w_78, w_79, w_80, w_81, w_82, w_83, w_84, w_85, w_86, w_87, w_88, w_89, w_90, w_91, w_92, w_93, w_94, w_95, w_96, w_97, w_98, w_99, w_100, w_101, w_102, w_103, w_104, w_105, w_106, w_107, w_108, w_109, w_110, w_111, w_112, w_113, w_114, w_115, w_116, w_117, w_118, w_119, w_120, w_121, w_122, w_123, w_124, w_125, w_126, w_127, w_128, w_129, w_130, w_131, w_132, w_133, w_134, w_135, w_136, w_137, w_138, w_139, w_140, w_141, w_142, w_143, w_144, w_145, w_146, w_147, w_148, w_149, w_150, w_151, w_152, w_153, w_154, w_155, w_156, w_157, w_158, w_159, w_160, w_161, w_162, w_163, w_164, w_165, w_166, w_167, w_168, w_169, w_170, w_171, w_172, w_173, w_174, w_175, w_176, w_177, w_178, w_179, w_180, w_181, w_182, w_183, w_184, w_185, w_186, w_187, w_188, w_189, w_190, w_191, w_192, w_193, w_194, w_195, w_196, w_197, w_198, w_199, w_200, w_201, w_202, w_203, w_204, w_205, w_206, w_207, w_208, ↓reduceIte, Bool.not_true, Bool.not_false, Bool.false_eq_true, Bool.true_eq_false, if_true, if_false, List.map_cons, List.map_nil, List.length_cons, List.length_nil, List.cons_append, List.nil_append, List.replicate, Nat.reduceAdd, Nat.reduceSub, and_self, lc1, Nat.reduceLeDiff]) (by simp only [hidS, List.map_cons, List.map_nil]; simp only [w_0, w_1, w_2, w_3, w_4, w_5, w_6, w_7, w_8, w_9, w_10, w_11, w_12, w_13, w_14, w_15, w_16, w_17, w_18, w_19, w_20, w_21, w_22, w_23, w_24, w_25, w_26, w_27, w_28, w_29, w_30, w_31, w_32, w_33, w_34, w_35, w_36, w_37, w_38, w_39, w_40, w_41, w_42, w_43, w_44, w_45, w_46, w_47, w_48, w_49, w_50, w_51, w_52, w_53, w_54, w_55, w_56, w_57, w_58, w_59, w_60, w_61, w_62, w_63, w_64, w_65, w_66, w_67, w_68, w_69, w_70, w_71, w_72, w_73, w_74, w_75, w_76, w_77, w_78, w_79, w_80, w_81, w_82, w_83, w_84, w_85, w_86, w_87, w_88, w_89, w_90, w_91, w_92, w_93, w_94, w_95, w_96, w_97, w_98, w_99, w_100, w_101, w_102, w_103, w_104, w_105, w_106, w_107, w_108, w_109, w_110, w_111, w_112, w_113, w_114, w_115, w_116, w_117, w_118, w_119, w_120, w_121, w_122, w_123, w_124, w_125, w_126, w_127, w_128, w_129, w_130, w_131, w_132, w_133, w_134, w_135, w_136, w_137, w_138, w_139, w_140, w_141, w_142, w_143, w_144, w_145, w_146, w_147, w_148, w_149, w_150, w_151, w_152, w_153, w_154, w_155, w_156, w_157, w_158, w_159, w_160, w_161, w_162, w_163, w_164, w_165, w_166, w_167, w_168, w_169, w_170, w_171, w_172, w_173, w_174, w_175, w_176, w_177, w_178, w_179, w_180, w_181, w_182, w_183, w_184, w_185, w_186, w_187, w_188, w_189, w_190, w_191, w_192, w_193, w_194, w_195, w_196, w_197, w_198, w_199, w_200, w_201, w_202, w_203, w_204, w_205, w_206, w_207, w_208, ↓reduceIte, Bool.not_true, Bool.not_false, Bool.false_eq_true, Bool.true_eq_false, if_true, if_false, List.map_cons, List.map_nil, List.length_cons, List.length_nil, List.cons_append, List.nil_append, List.replicate, Nat.reduceAdd, Nat.reduceSub, and_self, lc1, Nat.reduceLeDiff])]
    rfl)]
  rw [seq_step (st' := [.sh (.scr ns), .sh (.tup (kp.map .str)), .sh (.str kp.flatten), x', y', z5, z6, z7, z8, z9, .sh lt, .sh odd, .sh bad, .sh (.lst [.int 0, .int 0, .int 0, .int 0, .int 0, .int 1]), .un, .un]) (by
    rw [w_92, sh_any (d := .lst [.int 0, .int 0, .int 0, .int 0, .int 0, .int 1]) (by simp only [w_0, w_1, w_2, w_3, w_4, w_5, w_6, w_7, w_8, w_9, w_10, w_11, w_12, w_13, w_14, w_15, w_16, w_17, w_18, w_19, w_20, w_21, w_22, w_23, w_24, w_25, w_26, w_27, w_28, w_29, w_30, w_31, w_32, w_33, w_34, w_35, w_36, w_37, w_38, w_39, w_40, w_41, w_42, w_43, w_44, w_45, w_46, w_47, w_48, w_49, w_50, w_51, w_52, w_53, w_54, w_55, w_56, w_57, w_58, w_59, w_60, w_61, w_62, w_63, w_64, w_65, w_66, w_67, w_68, w_69, w_70, w_71, w_72, w_73, w_74, w_75, w_76, w_77, w_78, w_79, w_80, w_81, w_82, w_83, w_84, w_85, w_86, w_87, w_88, w_89, w_90, w_91, w_92, w_93, w_94, w_95, w_96, w_97, w_98, w_99, w_100, w_101, w_102, w_103, w_104, w_105, w_106, w_107, w_108, w_109, w_110, w_111, w_112, w_113, w_114, w_115, w_116, w_117, w_118, w_119, w_120, w_121, w_122, w_123, w_124, w_125, w_126, w_127, w_128, w_129, w_130, w_131, w_132, w_133, w_134, w_135, w_136, w_137, w_138, w_139, w_140, w_141, w_142, w_143, w_144, w_145, w_146, w_147, w_148, w_149, w_150, w_151, w_152, w_153, w_154, w_155, w_156, w_157, w_158, w_159, w_160, w_161, w_162, w_163, w_164, w_165, w_166, w_167, w_168, w_169, w_170, w_171, w_172, w_173, w_174, w_175, w_176, w_177, w_178, w_179, w_180, w_181, w_182, w_183, w_184, w_185, w_186, w_187, w_188, w_189, w_190, w_191, w_192, w_193, w_194, w_195, w_196, w_197, w_198, w_199, w_200, w_201, w_202, w_203, w_204, w_205, w_206, w_207, w_208, ↓reduceIte, Bool.not_true, Bool.not_false, Bool.false_eq_true, Bool.true_eq_false, if_true, if_false, List.map_cons, List.map_nil, List.length_cons, List.length_nil, List.cons_append, List.nil_append, List.replicate, Nat.reduceAdd, Nat.reduceSub, and_self, ek1, Nat.reduceLeDiff]) (by simp only [hidS, List.map_cons, List.map_nil]; simp only [w_0, w_1, w_2, w_3, w_4, w_5, w_6, w_7, w_8, w_9, w_10, w_11, w_12, w_13, w_14, w_15, w_16, w_17, w_18, w_19, w_20, w_21, w_22, w_23, w_24, w_25, w_26, w_27, w_28, w_29, w_30, w_31, w_32, w_33, w_34, w_35, w_36, w_37, w_38, w_39, w_40, w_41, w_42, w_43, w_44, w_45, w_46, w_47, w_48, w_49, w_50, w_51, w_52, w_53, w_54, w_55, w_56, w_57, w_58, w_59, w_60, w_61, w_62, w_63, w_64, w_65, w_66, w_67, w_68, w_69, w_70, w_71, w_72, w_73, w_74, w_75, w_76, w_77, w_78, w_79, w_80, w_81, w_82, w_83, w_84, w_85, w_86, w_87, w_88, w_89, w_90, w_91, w_92, w_93, w_94, w_95, w_96, w_97, w_98, w_99, w_100, w_101, w_102, w_103, w_104, w_105, w_106, w_107, w_108, w_109, w_110, w_111, w_112, w_113, w_114, w_115, w_116, w_117, w_118, w_119, w_120, w_121, w_122, w_123, w_124, w_125, w_126, w_127, w_128, w_129, w_130, w_131, w_132, w_133, w_134, w_135, w_136, w_137, w_138, w_139, w_140, w_141, w_142, w_143, w_144, w_145, w_146, w_147, w_148, w_149, w_150, w_151, w_152, w_153, w_154, w_155, w_156, w_157, w_158, w_159, w_160, w_161, w_162, w_163, w_164, w_165, w_166, w_167, w_168, w_169, w_170, w_171, w_172, w_173, w_174, w_175, w_176, w_177, w_178, w_179, w_180, w_181, w_182, w_183, w_184, w_185, w_186, w_187, w_188, w_189, w_190, w_191, w_192, w_193, w_194, w_195, w_196, w_197, w_198, w_199, w_200, w_201, w_202, w_203, w_204, w_205, w_206, w_207, w_208, ↓reduceIte, Bool.not_true, Bool.not_false, Bool.false_eq_true, Bool.true_eq_false, if_true, if_false, List.map_cons, List.map_nil, List.length_cons, List.length_nil, List.cons_append, List.nil_append, List.replicate, Nat.reduceAdd, Nat.reduceSub, and_self, ek1, Nat.reduceLeDiff])]
    rfl)]
  have m5 : mulE (.lst [.int 0]) (.int 5) = some (.lst [.int 0, .int 0, .int 0, .int 0, .int 0]) := rfl
  simp only [w_0, w_1, w_2, w_3, w_4, w_5, w_6, w_7, w_8, w_9, w_10, w_11, w_12, w_13, w_14, w_15, w_16, w_17, w_18, w_19, w_20, w_21, w_22, w_23, w_24, w_25, w_26, w_27, w_28, w_29, w_30, w_31, w_32, w_33, w_34, w_35, w_36, w_37, w_38, w_39, w_40, w_41, w_42, w_43, w_44, w_45, w_46, w_47, w_48, w_49, w_50, w_51, w_52, w_53, w_54, w_55, w_56, w_57, w_58, w_59, w_60, w_61, w_62, w_63, w_64, w_65, w_66, w_67, w_68, w_69, w_70, w_71, w_72, w_73, w_74, w_75, w_76, w_77, w_78, w_79, w_80, w_81, w_82, w_83, w_84, w_85, w_86, w_87, w_88, w_89, w_90, w_91, w_92, w_93, w_94, w_95, w_96, w_97, w_98, w_99, w_100, w_101, w_102, w_103, w_104, w_105, w_106, w_107, w_108, w_109, w_110, w_111, w_112, w_113, w_114, w_115, w_116, w_117, w_118, w_119, w_120, w_121, w_122, w_123, w_124, w_125, w_126, w_127, w_128, w_129, w_130, w_131, w_132, w_133, w_134, w_135, w_136, w_137, w_138, w_139, w_140, w_141, w_142, w_143, w_144, w_145, w_146, w_147, w_148, w_149, w_150, w_151, w_152, w_153, w_154, w_155, w_156, w_157, w_158, w_159, w_160, w_161, w_162, w_163, w_164, w_165, w_166, w_167, w_168, w_169, w_170, w_171, w_172, w_173, w_174, w_175, w_176, w_177, w_178, w_179, w_180, w_181, w_182, w_183, w_184, w_185, w_186, w_187, w_188, w_189, w_190, w_191, w_192, w_193, w_194, w_195, w_196, w_197, w_198, w_199, w_200, w_201, w_202, w_203, w_204, w_205, w_206, w_207, w_208, ↓reduceIte, Bool.not_true, Bool.not_false, Bool.false_eq_true, Bool.true_eq_false, if_true, if_false, List.map_cons, List.map_nil, List.length_cons, List.length_nil, List.cons_append, List.nil_append, List.replicate, Nat.reduceAdd, Nat.reduceSub, and_self, lc2, m5, Nat.reduceLeDiff]
  rfl
end L01

namespace L01
open PySem PySem.Spec PyProof.Rows L2 Kp
theorem ek_mk {K : PySem.W.Frag} {mg : Str → Option Value} {C0 C1 C2 C3 : Addr} (h0 : mg (clName .keypadError) = some (.ref C0)) (h1 : mg (clName .invalidKeypad) = some (.ref C1)) (h2 : mg (clName .invalidLetter) = some (.ref C2)) (h3 : mg (clName .invalidWord) = some (.ref C3)) (b0 : PySem.W.subIn K (.ref C0) (.type "BaseException") = some true) (d0 : PySem.W.hasDictIn K C0 = true) (t0 : PySem.W.typeIn K (.ref C0) = some (.type "type"))
    (x1 : ExcC K C1) (s1 : PySem.W.subIn K (.ref C1) (.ref C0) = some true) (x2 : ExcC K C2) (s2 : PySem.W.subIn K (.ref C2) (.ref C0) = some true) (x3 : ExcC K C3) (s3 : PySem.W.subIn K (.ref C3) (.ref C0) = some true) 
    (k1_1 : PySem.W.kitOne K (.ref C1) (.ref C1) = some true) (k1_2 : PySem.W.kitOne K (.ref C1) (.ref C2) = some false) (k1_3 : PySem.W.kitOne K (.ref C1) (.ref C3) = some false) (k2_1 : PySem.W.kitOne K (.ref C2) (.ref C1) = some false) (k2_2 : PySem.W.kitOne K (.ref C2) (.ref C2) = some true) (k2_3 : PySem.W.kitOne K (.ref C2) (.ref C3) = some false) (k3_1 : PySem.W.kitOne K (.ref C3) (.ref C1) = some false) (k3_2 : PySem.W.kitOne K (.ref C3) (.ref C2) = some false) (k3_3 : PySem.W.kitOne K (.ref C3) (.ref C3) = some true) :
    Ek K (gvOf mg) [.invalidKeypad, .invalidLetter, .invalidWord] := by
  refine ⟨fun c hc => ?_, fun c hc => ?_, fun c hc b hb => ?_⟩
  · simp only [List.mem_cons, List.not_mem_nil, or_false] at hc
    rcases hc with rfl | rfl | rfl
    · rw [gv_cl h1]; exact x1
    · rw [gv_cl h2]; exact x2
    · rw [gv_cl h3]; exact x3
  · simp only [List.mem_cons, List.not_mem_nil, or_false] at hc
    rcases hc with rfl | rfl | rfl
    · rw [gv_cl h1, gv_cl h0]; exact PySem.W.exm_ref b0 d0 t0 s1
    · rw [gv_cl h2, gv_cl h0]; exact PySem.W.exm_ref b0 d0 t0 s2
    · rw [gv_cl h3, gv_cl h0]; exact PySem.W.exm_ref b0 d0 t0 s3
  · simp only [List.mem_cons, List.not_mem_nil, or_false] at hc hb
    rcases hc with rfl | rfl | rfl
    · rcases hb with rfl | rfl | rfl
      · rw [gv_cl h1]; exact k1_1
      · rw [gv_cl h1]; rw [gv_cl h2]; exact k1_2
      · rw [gv_cl h1]; rw [gv_cl h3]; exact k1_3
    · rcases hb with rfl | rfl | rfl
      · rw [gv_cl h2]; rw [gv_cl h1]; exact k2_1
      · rw [gv_cl h2]; exact k2_2
      · rw [gv_cl h2]; rw [gv_cl h3]; exact k2_3
    · rcases hb with rfl | rfl | rfl
      · rw [gv_cl h3]; rw [gv_cl h1]; exact k3_1
      · rw [gv_cl h3]; rw [gv_cl h2]; exact k3_2
      · rw [gv_cl h3]; exact k3_3
end L01
open PySem PySem.W PyProof.Rows
set_option maxHeartbeats 0 in
theorem PySem.Challenge.cw_keypadwords_k01_keypads_holds : PySem.Challenge.rw_keypadwords_k01_keypads.Holds := by
  w_on; o_law; k_head; (case hw => w_witness2)
  k_fill
  refine L2.walk_of (l := PySem.Challenge.rw_keypadwords_k01_keypads) (n := 63) (k := 7) (x := "script") (CX := fun w => L2.CX PySem.Challenge.rw_keypadwords_k01_keypads.prog w) (sp := fun w => Kp.spLaw _) rfl (by decide) rfl ⟨rfl, by decide, by decide⟩ (fun w h Y => PySem.W.kIn_of Y) ?F (fun _ _ a ns hl _ hS => ⟨a, ns, rfl, hS, hl, fun _ => rfl⟩) (fun _ _ _ _ _ h => by
    obtain ⟨_, _, _, _, _, _, _, _, _, _, _, _, z⟩ := h
    exact z)
  case F =>
    intro w mg fa h KX G hmg
    refine' Kp.law_end (ps := []) (T := (L01.Txt.f_law ?T)) hmg L01.law_true (fun f fd base F => L01.fk_law ?T f fd F)
    refine' L01.Txt.mk ?z_f_is_string ?z_f_is_keypad ?z_f_check_keypad ?z_f_has_word ?z_f_is_word ?z_f_find_key ?z_f_key_of ?z_f_find_code ?z_f_check_word ?z_f_code ?z_f_find_presses ?z_f_presses ?z_f_find_pauses ?z_f_pauses ?z_f__law_drawn ?z_f__law_keypad ?z_f__law_code ?z_f__law_badpad ?z_f__law_badword ?z_f__law_error ?z_f_law ?z_c_DIGITS ?z_c_LETTERS ?z_c_MAX_KEYS ?z_c_MAX_WORD ?z_b_all ?z_b_enumerate ?z_b_isinstance ?z_b_len ?z_b_range ?z_b_set ?z_b_str ?z_b_sum ?z_b_tuple ?z_b_zip ?z_e_invalidKeypad ?z_e_invalidLetter ?z_e_invalidWord ?z_ek ?z_n_keypadError
    case z_f_is_string =>
      refine' Kp.fnAt_mk KX G (fun _ _ _ _ _ _ us hl => match us, hl with | [_, _, _, _], _ => rfl) ?z_a ?z_l ?z_c ?z_k
      (case z_a => k_is); (case z_l => k_is); (case z_c => k_is); (case z_k => k_is)
    case z_f_is_keypad =>
      refine' Kp.fnAt_mk KX G (fun _ _ _ _ _ _ us hl => match us, hl with | [_], _ => rfl) ?z_a ?z_l ?z_c ?z_k
      (case z_a => k_is); (case z_l => k_is); (case z_c => k_is); (case z_k => k_is)
    case z_f_check_keypad =>
      refine' Kp.fnAt_mk KX G (fun _ _ _ _ _ _ us hl => match us, hl with | [_], _ => rfl) ?z_a ?z_l ?z_c ?z_k
      (case z_a => k_is); (case z_l => k_is); (case z_c => k_is); (case z_k => k_is)
    case z_f_has_word =>
      refine' Kp.fnAt_mk KX G (fun _ _ _ _ _ _ us hl => match us, hl with | [_, _], _ => rfl) ?z_a ?z_l ?z_c ?z_k
      (case z_a => k_is); (case z_l => k_is); (case z_c => k_is); (case z_k => k_is)
    case z_f_is_word =>
      refine' Kp.fnAt_mk KX G (fun _ _ _ _ _ _ us hl => match us, hl with | [_, _], _ => rfl) ?z_a ?z_l ?z_c ?z_k
      (case z_a => k_is); (case z_l => k_is); (case z_c => k_is); (case z_k => k_is)
    case z_f_find_key =>
      refine' Kp.fnAt_mk KX G (fun _ _ _ _ _ _ us hl => match us, hl with | [_, _], _ => rfl) ?z_a ?z_l ?z_c ?z_k
      (case z_a => k_is); (case z_l => k_is); (case z_c => k_is); (case z_k => k_is)
    case z_f_key_of =>
      refine' Kp.fnAt_mk KX G (fun _ _ _ _ _ _ us hl => match us, hl with | [_, _], _ => rfl) ?z_a ?z_l ?z_c ?z_k
      (case z_a => k_is); (case z_l => k_is); (case z_c => k_is); (case z_k => k_is)
    case z_f_find_code =>
      refine' Kp.fnAt_mk KX G (fun _ _ _ _ _ _ us hl => match us, hl with | [_, _], _ => rfl) ?z_a ?z_l ?z_c ?z_k
      (case z_a => k_is); (case z_l => k_is); (case z_c => k_is); (case z_k => k_is)
    case z_f_check_word =>
      refine' Kp.fnAt_mk KX G (fun _ _ _ _ _ _ us hl => match us, hl with | [_, _], _ => rfl) ?z_a ?z_l ?z_c ?z_k
      (case z_a => k_is); (case z_l => k_is); (case z_c => k_is); (case z_k => k_is)
    case z_f_code =>
      refine' Kp.fnAt_mk KX G (fun _ _ _ _ _ _ us hl => match us, hl with | [_, _], _ => rfl) ?z_a ?z_l ?z_c ?z_k
      (case z_a => k_is); (case z_l => k_is); (case z_c => k_is); (case z_k => k_is)
    case z_f_find_presses =>
      refine' Kp.fnAt_mk KX G (fun _ _ _ _ _ _ us hl => match us, hl with | [_, _], _ => rfl) ?z_a ?z_l ?z_c ?z_k
      (case z_a => k_is); (case z_l => k_is); (case z_c => k_is); (case z_k => k_is)
    case z_f_presses =>
      refine' Kp.fnAt_mk KX G (fun _ _ _ _ _ _ us hl => match us, hl with | [_, _], _ => rfl) ?z_a ?z_l ?z_c ?z_k
      (case z_a => k_is); (case z_l => k_is); (case z_c => k_is); (case z_k => k_is)
    case z_f_find_pauses =>
      refine' Kp.fnAt_mk KX G (fun _ _ _ _ _ _ us hl => match us, hl with | [_, _], _ => rfl) ?z_a ?z_l ?z_c ?z_k
      (case z_a => k_is); (case z_l => k_is); (case z_c => k_is); (case z_k => k_is)
    case z_f_pauses =>
      refine' Kp.fnAt_mk KX G (fun _ _ _ _ _ _ us hl => match us, hl with | [_, _], _ => rfl) ?z_a ?z_l ?z_c ?z_k
      (case z_a => k_is); (case z_l => k_is); (case z_c => k_is); (case z_k => k_is)
    case z_f__law_drawn =>
      refine' Kp.fnAt_mk KX G (fun _ _ _ _ _ _ us hl => match us, hl with | [_, _, _], _ => rfl) ?z_a ?z_l ?z_c ?z_k
      (case z_a => k_is); (case z_l => k_is); (case z_c => k_is); (case z_k => k_is)
    case z_f__law_keypad =>
      refine' Kp.fnAt_mk KX G (fun _ _ _ _ _ _ us hl => match us, hl with | [_, _, _], _ => rfl) ?z_a ?z_l ?z_c ?z_k
      (case z_a => k_is); (case z_l => k_is); (case z_c => k_is); (case z_k => k_is)
    case z_f__law_code =>
      refine' Kp.fnAt_mk KX G (fun _ _ _ _ _ _ us hl => match us, hl with | [_, _], _ => rfl) ?z_a ?z_l ?z_c ?z_k
      (case z_a => k_is); (case z_l => k_is); (case z_c => k_is); (case z_k => k_is)
    case z_f__law_badpad =>
      refine' Kp.fnAt_mk KX G (fun _ _ _ _ _ _ us hl => match us, hl with | [_, _], _ => rfl) ?z_a ?z_l ?z_c ?z_k
      (case z_a => k_is); (case z_l => k_is); (case z_c => k_is); (case z_k => k_is)
    case z_f__law_badword =>
      refine' Kp.fnAt_mk KX G (fun _ _ _ _ _ _ us hl => match us, hl with | [_, _], _ => rfl) ?z_a ?z_l ?z_c ?z_k
      (case z_a => k_is); (case z_l => k_is); (case z_c => k_is); (case z_k => k_is)
    case z_f__law_error =>
      refine' Kp.fnAt_mk KX G (fun _ _ _ _ _ _ us hl => match us, hl with | [_, _, _], _ => rfl) ?z_a ?z_l ?z_c ?z_k
      (case z_a => k_is); (case z_l => k_is); (case z_c => k_is); (case z_k => k_is)
    case z_f_law =>
      refine' Kp.fnAt_mk KX G (fun _ _ _ _ _ _ us hl => match us, hl with | [_], _ => rfl) ?z_a ?z_l ?z_c ?z_k
      (case z_a => k_is); (case z_l => k_is); (case z_c => k_is); (case z_k => k_is)
    case z_c_DIGITS =>
      refine' Kp.cst_s KX G ?z_a ?z_e
      (case z_a => k_is); (case z_e => exact ⟨_, rfl⟩)
    case z_c_LETTERS =>
      refine' Kp.cst_s KX G ?z_a ?z_e
      (case z_a => k_is); (case z_e => exact ⟨_, rfl⟩)
    case z_c_MAX_KEYS =>
      refine' Kp.cst_i KX G ?z_a ?z_e
      (case z_a => k_is); (case z_e => exact ⟨_, rfl⟩)
    case z_c_MAX_WORD =>
      refine' Kp.cst_i KX G ?z_a ?z_e
      (case z_a => k_is); (case z_e => exact ⟨_, rfl⟩)
    case z_b_all =>
      refine' PySem.W.mg_none_of KX G ?z_a
      (case z_a => k_is)
    case z_b_enumerate =>
      refine' PySem.W.mg_none_of KX G ?z_a
      (case z_a => k_is)
    case z_b_isinstance =>
      refine' PySem.W.mg_none_of KX G ?z_a
      (case z_a => k_is)
    case z_b_len =>
      refine' PySem.W.mg_none_of KX G ?z_a
      (case z_a => k_is)
    case z_b_range =>
      refine' PySem.W.mg_none_of KX G ?z_a
      (case z_a => k_is)
    case z_b_set =>
      refine' PySem.W.mg_none_of KX G ?z_a
      (case z_a => k_is)
    case z_b_str =>
      refine' PySem.W.mg_none_of KX G ?z_a
      (case z_a => k_is)
    case z_b_sum =>
      refine' PySem.W.mg_none_of KX G ?z_a
      (case z_a => k_is)
    case z_b_tuple =>
      refine' PySem.W.mg_none_of KX G ?z_a
      (case z_a => k_is)
    case z_b_zip =>
      refine' PySem.W.mg_none_of KX G ?z_a
      (case z_a => k_is)
    case z_e_invalidKeypad =>
      refine' Kp.exAt_mk (c := .invalidKeypad) (x := "InvalidKeypad") KX G rfl ?z_a ?z_q ?z_k ?z_b ?z_t
      (case z_a => k_is); (case z_q => k_exc); (case z_k => k_is); (case z_b => k_is); (case z_t => k_is)
    case z_e_invalidLetter =>
      refine' Kp.exAt_mk (c := .invalidLetter) (x := "InvalidLetter") KX G rfl ?z_a ?z_q ?z_k ?z_b ?z_t
      (case z_a => k_is); (case z_q => k_exc); (case z_k => k_is); (case z_b => k_is); (case z_t => k_is)
    case z_e_invalidWord =>
      refine' Kp.exAt_mk (c := .invalidWord) (x := "InvalidWord") KX G rfl ?z_a ?z_q ?z_k ?z_b ?z_t
      (case z_a => k_is); (case z_q => k_exc); (case z_k => k_is); (case z_b => k_is); (case z_t => k_is)
    case z_ek =>
      refine' L01.ek_mk (Kp.clAt (c := .keypadError) (x := "KeypadError") KX G rfl ?z_g0) (Kp.clAt (c := .invalidKeypad) (x := "InvalidKeypad") KX G rfl ?z_g1) (Kp.clAt (c := .invalidLetter) (x := "InvalidLetter") KX G rfl ?z_g2) (Kp.clAt (c := .invalidWord) (x := "InvalidWord") KX G rfl ?z_g3) ?z_b0 ?z_d0 ?z_t0 ⟨?z_x1a, ?z_x1b, ?z_x1c, ?z_x1d, ?z_x1e, ?z_x1f, ?z_x1g, ?z_x1h⟩ ?z_s1 ⟨?z_x2a, ?z_x2b, ?z_x2c, ?z_x2d, ?z_x2e, ?z_x2f, ?z_x2g, ?z_x2h⟩ ?z_s2 ⟨?z_x3a, ?z_x3b, ?z_x3c, ?z_x3d, ?z_x3e, ?z_x3f, ?z_x3g, ?z_x3h⟩ ?z_s3 ?z_k1_1 ?z_k1_2 ?z_k1_3 ?z_k2_1 ?z_k2_2 ?z_k2_3 ?z_k3_1 ?z_k3_2 ?z_k3_3
      (case z_g0 => k_is)
      (case z_g1 => k_is)
      (case z_g2 => k_is)
      (case z_g3 => k_is)
      (case z_b0 => k_is)
      (case z_d0 => k_is)
      (case z_t0 => k_is)
      (case z_x1a => k_is)
      (case z_x1b => k_is)
      (case z_x1c => k_is)
      (case z_x1d => k_is)
      (case z_x1e => k_is)
      (case z_x1f => k_is)
      (case z_x1g => k_is)
      (case z_x1h => k_is)
      (case z_x2a => k_is)
      (case z_x2b => k_is)
      (case z_x2c => k_is)
      (case z_x2d => k_is)
      (case z_x2e => k_is)
      (case z_x2f => k_is)
      (case z_x2g => k_is)
      (case z_x2h => k_is)
      (case z_x3a => k_is)
      (case z_x3b => k_is)
      (case z_x3c => k_is)
      (case z_x3d => k_is)
      (case z_x3e => k_is)
      (case z_x3f => k_is)
      (case z_x3g => k_is)
      (case z_x3h => k_is)
      (case z_s1 => first | rfl | k_is)
      (case z_s2 => first | rfl | k_is)
      (case z_s3 => first | rfl | k_is)
      (case z_k1_1 => first | rfl | k_is)
      (case z_k1_2 => first | rfl | k_is)
      (case z_k1_3 => first | rfl | k_is)
      (case z_k2_1 => first | rfl | k_is)
      (case z_k2_2 => first | rfl | k_is)
      (case z_k2_3 => first | rfl | k_is)
      (case z_k3_1 => first | rfl | k_is)
      (case z_k3_2 => first | rfl | k_is)
      (case z_k3_3 => first | rfl | k_is)
    case z_n_keypadError =>
      refine' Kp.n_errA KX G ?z_a
      (case z_a => k_is)

