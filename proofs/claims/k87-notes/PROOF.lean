import PyProof.Rows.All
import Wide.All
import OpenK.AllK
import Wide.FinOn
import HandS.ForMost
import HandS.NoneIn
import HandS.DictComp
import HandS.Star
import HandS.ClsMeth
import HandS.Property
import HandS.Defaults
import HandS.Wide
import HandS.WideMore
import HandS.IsInst
import HandS.SetFor
import HandS.TupSets
import KE.SortData
import HandS.Strs
import HandS.Small
import HandS.Text
import HandS.TupAny
import HandS.Conv
import OpenK.KOps
import OpenK.KMeth
import KE.KOpsOwn
import HandS.Records
import HandS.SlotsOwn
import HandS.CallLocal
import HandS.MakeKwOnly
import HandS.Ends
import HandS.EndBits
import HandS.RaiseMore
import PyProof.ReprRoads
import KE.KNest
import HandS.HeadHook1
import HandS.Words
import PySem.Challenge.RW_crateround_k87_notes_that_tell_drives
import HandS.Head0
import HandS.Head1
import HandS.Head2
import HandS.HeadEnd
set_option Elab.async false
set_option linter.all false
set_option maxRecDepth 100000
/-! D0: deep values. A value with all that hangs on it, frozen, as one term (DV); objects that still change stand by address in MM.
The readings of the hand layer are lifted to transformers over deep values: DE, DT, DA, DS, DSs. -/
namespace D
open PySem PySem.Spec PyProof.Rows L2

/-- a deep value: frozen data as a term; adr: a thing by its address (a changing object, a class, a def) -/
inductive DV where
  | non | bl (b : Bool) | int (i : Int) | str (x : Str) | byt (b : Array UInt8) | ty (n : String) | adr (a : Addr)
  | lst (xs : List DV) | tup (xs : List DV)
  | dK (kvs : List (Key × DV)) | dT (kvs : List (List Key × DV))
  | obj (C : Addr) (fs : List (Str × DV))

mutual
/-- v is d in the frozen heap G -/
inductive At (G : Hp) : DV → V → Prop where
  | non : At G .non .non
  | bl (b : Bool) : At G (.bl b) (.bl b)
  | int (i : Int) : At G (.int i) (.int i)
  | str (x : Str) : At G (.str x) (.str x)
  | byt (b : Array UInt8) : At G (.byt b) (.byt b)
  | ty (n : String) : At G (.ty n) (.ty n)
  | adr (a : Addr) : At G (.adr a) (.ref a)
  | lst {a : Addr} {vs : List V} {xs : List DV} (h : Rd G a (.lst vs)) (r : AtL G xs vs) : At G (.lst xs) (.ref a)
  | tup {a : Addr} {vs : List V} {xs : List DV} (h : Rd G a (.tup vs)) (r : AtL G xs vs) : At G (.tup xs) (.ref a)
  | dK {a : Addr} {kvs : List (Key × V)} {ks : List (Key × DV)} (h : Rd G a (.dK kvs)) (e : ks.map Prod.fst = kvs.map Prod.fst) (r : AtL G (ks.map Prod.snd) (kvs.map Prod.snd)) : At G (.dK ks) (.ref a)
  | dT {a : Addr} {kvs : List (List Key × V)} {ks : List (List Key × DV)} (h : Rd G a (.dT kvs)) (e : ks.map Prod.fst = kvs.map Prod.fst) (r : AtL G (ks.map Prod.snd) (kvs.map Prod.snd)) : At G (.dT ks) (.ref a)
  | obj {a C dx : Addr} {fs : List (Str × V)} {gs : List (Str × DV)} (h : G a = some (.ins C dx fs)) (e : gs.map Prod.fst = fs.map Prod.fst) (r : AtL G (gs.map Prod.snd) (fs.map Prod.snd)) : At G (.obj C gs) (.ref a)
inductive AtL (G : Hp) : List DV → List V → Prop where
  | nil : AtL G [] []
  | cons {d : DV} {v : V} {ds : List DV} {vs : List V} (h : At G d v) (t : AtL G ds vs) : AtL G (d :: ds) (v :: vs)
end

/-- an object that never is locked -/
def hard : HO → Bool
  | .ins _ _ _ => true
  | .own _ => true
  | .tup _ => true
  | _ => false
/-- what may be read stays so -/
structure Ge (G G' : Hp) : Prop where
  rd : ∀ a o, Rd G a o → Rd G' a o
  hd : ∀ a o, hard o = true → G a = some o → G' a = some o
theorem Ge.refl (G : Hp) : Ge G G := ⟨fun _ _ h => h, fun _ _ _ h => h⟩
theorem Ge.trans {G G1 G2 : Hp} (a : Ge G G1) (b : Ge G1 G2) : Ge G G2 := ⟨fun c o h => b.rd c o (a.rd c o h), fun c o p h => b.hd c o p (a.hd c o p h)⟩

mutual
theorem At.mono {G G' : Hp} (g : Ge G G') : ∀ {d : DV} {v : V}, At G d v → At G' d v
  | _, _, .non => .non
  | _, _, .bl b => .bl b
  | _, _, .int i => .int i
  | _, _, .str x => .str x
  | _, _, .byt b => .byt b
  | _, _, .ty n => .ty n
  | _, _, .adr a => .adr a
  | _, _, .lst h r => .lst (g.rd _ _ h) (AtL.mono g r)
  | _, _, .tup h r => .tup (g.rd _ _ h) (AtL.mono g r)
  | _, _, .dK h e r => .dK (g.rd _ _ h) e (AtL.mono g r)
  | _, _, .dT h e r => .dT (g.rd _ _ h) e (AtL.mono g r)
  | _, _, .obj h e r => .obj (g.hd _ _ rfl h) e (AtL.mono g r)
theorem AtL.mono {G G' : Hp} (g : Ge G G') : ∀ {ds : List DV} {vs : List V}, AtL G ds vs → AtL G' ds vs
  | _, _, .nil => .nil
  | _, _, .cons h t => .cons (At.mono g h) (AtL.mono g t)
end
theorem AtL.length {G : Hp} : ∀ {ds : List DV} {vs : List V}, AtL G ds vs → ds.length = vs.length
  | _, _, .nil => rfl
  | _, _, .cons _ t => congrArg (· + 1) t.length
theorem AtL.get {G : Hp} : ∀ {ds : List DV} {vs : List V}, AtL G ds vs → ∀ {i : Nat} {d : DV}, ds[i]? = some d → ∃ v, vs[i]? = some v ∧ At G d v
  | _, _, .nil, i, d, e => by simp at e
  | _, _, .cons h _, 0, d, e => by simp at e; subst e; exact ⟨_, rfl, h⟩
  | _, _, .cons _ t, i + 1, d, e => by
    obtain ⟨v, e1, h1⟩ := t.get (i := i) (d := d) (by simpa using e)
    exact ⟨v, by simpa using e1, h1⟩
theorem AtL.append {G : Hp} : ∀ {ds es : List DV} {vs ws : List V}, AtL G ds vs → AtL G es ws → AtL G (ds ++ es) (vs ++ ws)
  | _, _, _, _, .nil, s => s
  | _, _, _, _, .cons h t, s => .cons h (AtL.append t s)
theorem AtL.snoc {G : Hp} {ds : List DV} {vs : List V} {d : DV} {v : V} (r : AtL G ds vs) (h : At G d v) : AtL G (ds ++ [d]) (vs ++ [v]) := r.append (.cons h .nil)
theorem AtL.take {G : Hp} : ∀ {ds : List DV} {vs : List V} (n : Nat), AtL G ds vs → AtL G (ds.take n) (vs.take n)
  | _, _, 0, _ => .nil
  | _, _, _ + 1, .nil => .nil
  | _, _, n + 1, .cons h t => .cons h (AtL.take n t)
theorem AtL.drop {G : Hp} : ∀ {ds : List DV} {vs : List V} (n : Nat), AtL G ds vs → AtL G (ds.drop n) (vs.drop n)
  | _, _, 0, r => r
  | _, _, _ + 1, .nil => .nil
  | _, _, n + 1, .cons _ t => AtL.drop n t
theorem AtL.erase {G : Hp} : ∀ {ds : List DV} {vs : List V} (n : Nat), AtL G ds vs → AtL G (ds.eraseIdx n) (vs.eraseIdx n)
  | _, _, _, .nil => .nil
  | _, _, 0, .cons _ t => t
  | _, _, n + 1, .cons h t => .cons h (AtL.erase n t)
theorem AtL.set {G : Hp} {d : DV} {v : V} (h : At G d v) : ∀ {ds : List DV} {vs : List V} (n : Nat), AtL G ds vs → AtL G (ds.set n d) (vs.set n v)
  | _, _, _, .nil => .nil
  | _, _, 0, .cons _ t => .cons h t
  | _, _, n + 1, .cons q t => .cons q (AtL.set h n t)
theorem AtL.reverse {G : Hp} : ∀ {ds : List DV} {vs : List V}, AtL G ds vs → AtL G ds.reverse vs.reverse
  | _, _, .nil => .nil
  | _, _, .cons h t => by
    rw [List.reverse_cons, List.reverse_cons]
    exact (AtL.reverse t).append (.cons h .nil)
theorem AtL.nil_inv {G : Hp} {vs : List V} (h : AtL G [] vs) : vs = [] := by cases h; rfl
theorem AtL.cons_inv {G : Hp} {d : DV} {ds : List DV} {vs : List V} (h : AtL G (d :: ds) vs) : ∃ v r, vs = v :: r ∧ At G d v ∧ AtL G ds r := by
  cases h with
  | cons h t => exact ⟨_, _, rfl, h, t⟩
theorem AtL.one {G : Hp} {d : DV} {vs : List V} (h : AtL G [d] vs) : ∃ v, vs = [v] ∧ At G d v := by
  obtain ⟨v, r, rfl, h1, h2⟩ := h.cons_inv
  obtain rfl := h2.nil_inv
  exact ⟨v, rfl, h1⟩
theorem AtL.two {G : Hp} {d e : DV} {vs : List V} (h : AtL G [d, e] vs) : ∃ v u, vs = [v, u] ∧ At G d v ∧ At G e u := by
  obtain ⟨v, r, rfl, h1, h2⟩ := h.cons_inv
  obtain ⟨u, rfl, h3⟩ := h2.one
  exact ⟨v, u, rfl, h1, h3⟩
theorem AtL.three {G : Hp} {d e f : DV} {vs : List V} (h : AtL G [d, e, f] vs) : ∃ v u x, vs = [v, u, x] ∧ At G d v ∧ At G e u ∧ At G f x := by
  obtain ⟨v, r, rfl, h1, h2⟩ := h.cons_inv
  obtain ⟨u, x, rfl, h3, h4⟩ := h2.two
  exact ⟨v, u, x, rfl, h1, h3, h4⟩

/-- a changing object -/
inductive MO where
  | lst (xs : List DV) | dK (kvs : List (Key × DV)) | dT (kvs : List (List Key × DV)) | ins (C : Addr) (fs : List (Str × DV))
abbrev MM := Addr → Option MO
def updM (M : MM) (a : Addr) (o : MO) : MM := fun b => if b = a then some o else M b
def delM (M : MM) (a : Addr) : MM := fun b => if b = a then none else M b
theorem updM_same {M : MM} {a : Addr} {o : MO} : updM M a o a = some o := by unfold updM; rw [if_pos rfl]
theorem updM_ne {M : MM} {a b : Addr} {o : MO} (h : b ≠ a) : updM M a o b = M b := by unfold updM; rw [if_neg h]
theorem updM_updM {M : MM} {a : Addr} {o u : MO} : updM (updM M a o) a u = updM M a u := by
  funext b
  by_cases e : b = a
  · rw [e, updM_same, updM_same]
  · rw [updM_ne e, updM_ne e, updM_ne e]
theorem delM_same {M : MM} {a : Addr} : delM M a a = none := by unfold delM; rw [if_pos rfl]
theorem delM_ne {M : MM} {a b : Addr} (h : b ≠ a) : delM M a b = M b := by unfold delM; rw [if_neg h]
theorem delM_updM {M : MM} {a : Addr} {o : MO} : delM (updM M a o) a = delM M a := by
  funext b
  by_cases e : b = a
  · rw [e, delM_same, delM_same]
  · rw [delM_ne e, delM_ne e, updM_ne e]
theorem delM_none {M : MM} {a : Addr} (h : M a = none) : delM M a = M := by
  funext b
  by_cases e : b = a
  · rw [e, delM_same, h]
  · rw [delM_ne e]
theorem updM_comm {M : MM} {a b : Addr} {o u : MO} (h : a ≠ b) : updM (updM M a o) b u = updM (updM M b u) a o := by
  funext c; unfold updM
  by_cases h1 : c = a
  · subst h1; rw [if_neg h, if_pos rfl, if_pos rfl]
  · rw [if_neg h1]; split <;> simp_all
theorem updM_none {M : MM} {a b : Addr} {o : MO} : updM M a o b = none ↔ b ≠ a ∧ M b = none := by
  unfold updM
  by_cases h : b = a
  · simp [h]
  · simp [h]
/-- all of M stands in M' -/
def SubM (M M' : MM) : Prop := ∀ a o, M a = some o → M' a = some o
theorem SubM.refl (M : MM) : SubM M M := fun _ _ h => h
theorem SubM.trans {M M1 M2 : MM} (a : SubM M M1) (b : SubM M1 M2) : SubM M M2 := fun c o h => b c o (a c o h)
theorem SubM.upd {M M1 : MM} {a : Addr} {o : MO} (s : SubM M M1) (h : M a = none) : SubM M (updM M1 a o) := fun c u e => by
  by_cases hc : c = a
  · subst hc; rw [h] at e; cases e
  · rw [updM_ne hc]; exact s c u e
theorem SubM.del {M M1 : MM} {a : Addr} (s : SubM M M1) (h : M a = none) : SubM M (delM M1 a) := fun c u e => by
  by_cases hc : c = a
  · subst hc; rw [h] at e; cases e
  · rw [delM_ne hc]; exact s c u e

/-- a changing object in the heap -/
inductive MoAt (G : Hp) : MO → HO → Prop where
  | lst {xs : List DV} {vs : List V} (r : AtL G xs vs) : MoAt G (.lst xs) (.lst vs)
  | dK {ks : List (Key × DV)} {kvs : List (Key × V)} (e : ks.map Prod.fst = kvs.map Prod.fst) (r : AtL G (ks.map Prod.snd) (kvs.map Prod.snd)) : MoAt G (.dK ks) (.dK kvs)
  | dT {ks : List (List Key × DV)} {kvs : List (List Key × V)} (e : ks.map Prod.fst = kvs.map Prod.fst) (r : AtL G (ks.map Prod.snd) (kvs.map Prod.snd)) : MoAt G (.dT ks) (.dT kvs)
  | ins {C dx : Addr} {gs : List (Str × DV)} {fs : List (Str × V)} (e : gs.map Prod.fst = fs.map Prod.fst) (r : AtL G (gs.map Prod.snd) (fs.map Prod.snd)) : MoAt G (.ins C gs) (.ins C dx fs)
theorem MoAt.mono {G G' : Hp} (g : Ge G G') {m : MO} {o : HO} (h : MoAt G m o) : MoAt G' m o := by
  cases h with
  | lst r => exact .lst (r.mono g)
  | dK e r => exact .dK e (r.mono g)
  | dT e r => exact .dT e (r.mono g)
  | ins e r => exact .ins e (r.mono g)

/-- G is the frozen part of H, M the changing one -/
structure Rep (G : Hp) (M : MM) (H : Hp) : Prop where
  ge : Ge G H
  fz : ∀ a o u, G a = some (.frz o u) → H a = some (.frz o u)
  mu : ∀ a m, M a = some m → G a = none ∧ ∃ o, H a = some o ∧ MoAt G m o
/-- from one state to a later one: what is frozen stays, what is neither frozen nor changing is left alone -/
structure Stp (G : Hp) (M : MM) (H : Hp) (G' : Hp) (M' : MM) (H' : Hp) : Prop where
  ge : Ge G G'
  fz : ∀ a o u, G a = some (.frz o u) → G' a = some (.frz o u)
  rep : Rep G' M' H'
  fr : ∀ a o, (∀ xs, o ≠ .tup xs) → H a = some o → G a = none → M a = none → H' a = some o ∧ G' a = none ∧ M' a = none
theorem Stp.refl {G : Hp} {M : MM} {H : Hp} (r : Rep G M H) : Stp G M H G M H := ⟨Ge.refl G, fun _ _ _ h => h, r, fun _ _ _ h h1 h2 => ⟨h, h1, h2⟩⟩
theorem Stp.trans {G G1 G2 : Hp} {M M1 M2 : MM} {H H1 H2 : Hp} (a : Stp G M H G1 M1 H1) (b : Stp G1 M1 H1 G2 M2 H2) : Stp G M H G2 M2 H2 :=
  ⟨a.ge.trans b.ge, fun c o u h => b.fz c o u (a.fz c o u h), b.rep, fun c o n h h1 h2 => let ⟨x, y, z⟩ := a.fr c o n h h1 h2; b.fr c o n x y z⟩
theorem Rep.free {G : Hp} {M : MM} {H : Hp} (r : Rep G M H) {a : Addr} (h : H a = none) : G a = none ∧ M a = none := by
  constructor
  · cases e : G a with
    | none => rfl
    | some o =>
      rcases r.ge.rd a o (.inl e) with q | ⟨_, q⟩ <;> rw [h] at q <;> cases q
  · cases e : M a with
    | none => rfl
    | some o =>
      obtain ⟨_, u, q, _⟩ := r.mu a o e
      rw [h] at q; cases q
theorem Ge.neu {G : Hp} {a : Addr} {o : HO} (h : G a = none) : Ge G (upd G a o) :=
  ⟨fun c u q => by
    have hc : c ≠ a := fun e => by subst e; rcases q with q | ⟨_, q⟩ <;> rw [h] at q <;> cases q
    rcases q with q | ⟨w, q⟩
    · exact .inl (by rw [upd_ne hc]; exact q)
    · exact .inr ⟨w, by rw [upd_ne hc]; exact q⟩,
   fun c u _ q => by
    have hc : c ≠ a := fun e => by subst e; rw [h] at q; cases q
    rw [upd_ne hc]; exact q⟩
theorem Ge.neuH {G H : Hp} {a : Addr} {o : HO} (g : Ge G H) (h : G a = none) : Ge G (upd H a o) :=
  ⟨fun c u q => by
    have hc : c ≠ a := fun e => by subst e; rcases q with q | ⟨_, q⟩ <;> rw [h] at q <;> cases q
    rcases g.rd c u q with q | ⟨w, q⟩
    · exact .inl (by rw [upd_ne hc]; exact q)
    · exact .inr ⟨w, by rw [upd_ne hc]; exact q⟩,
   fun c u p q => by
    have hc : c ≠ a := fun e => by subst e; rw [h] at q; cases q
    rw [upd_ne hc]; exact g.hd c u p q⟩
theorem Ge.neu2 {G H : Hp} {a : Addr} {o : HO} (g : Ge G H) (h : ∀ w u, o ≠ .frz w u) : Ge (upd G a o) (upd H a o) :=
  ⟨fun c u q => by
    by_cases hc : c = a
    · subst hc
      rcases q with q | ⟨w, q⟩
      · rw [upd_same] at q; cases q; exact .inl upd_same
      · rw [upd_same] at q; cases q; exact absurd rfl (h _ _)
    · have q' : Rd G c u := by
        rcases q with q | ⟨w, q⟩
        · exact .inl (by rw [upd_ne hc] at q; exact q)
        · exact .inr ⟨w, by rw [upd_ne hc] at q; exact q⟩
      rcases g.rd c u q' with q | ⟨w, q⟩
      · exact .inl (by rw [upd_ne hc]; exact q)
      · exact .inr ⟨w, by rw [upd_ne hc]; exact q⟩,
   fun c u p q => by
    by_cases hc : c = a
    · subst hc; rw [upd_same] at q ⊢; exact q
    · rw [upd_ne hc] at q ⊢; exact g.hd c u p q⟩
/-- a new object, frozen at once -/
theorem Stp.newF {G : Hp} {M : MM} {H : Hp} {a : Addr} {o : HO} (r : Rep G M H) (h : H a = none) (hf : ∀ w u, o ≠ .frz w u) : Stp G M H (upd G a o) M (upd H a o) := by
  obtain ⟨hg, hm⟩ := r.free h
  refine ⟨Ge.neu hg, fun c w u q => ?_, ⟨r.ge.neu2 hf, fun c w u q => ?_, fun c m q => ?_⟩, fun c u _ h1 h2 h3 => ?_⟩
  · have hc : c ≠ a := fun e => by subst e; rw [hg] at q; cases q
    rw [upd_ne hc]; exact q
  · by_cases hc : c = a
    · subst hc; rw [upd_same] at q; cases q; exact absurd rfl (hf _ _)
    · rw [upd_ne hc] at q ⊢; exact r.fz c w u q
  · have hc : c ≠ a := fun e => by subst e; rw [hm] at q; cases q
    obtain ⟨h1, u, h2, h3⟩ := r.mu c m q
    exact ⟨by rw [upd_ne hc]; exact h1, u, by rw [upd_ne hc]; exact h2, h3.mono (Ge.neu hg)⟩
  · have hc : c ≠ a := fun e => by subst e; rw [h] at h1; cases h1
    rw [upd_ne hc, upd_ne hc]; exact ⟨h1, h2, h3⟩
/-- a new changing object -/
theorem Stp.newM {G : Hp} {M : MM} {H : Hp} {a : Addr} {o : HO} {m : MO} (r : Rep G M H) (h : H a = none) (hm : MoAt G m o) : Stp G M H G (updM M a m) (upd H a o) := by
  obtain ⟨hg, hn⟩ := r.free h
  refine ⟨Ge.refl G, fun _ _ _ q => q, ⟨r.ge.neuH hg, fun c w u q => ?_, fun c m' q => ?_⟩, fun c u _ h1 h2 h3 => ?_⟩
  · have hc : c ≠ a := fun e => by subst e; rw [hg] at q; cases q
    rw [upd_ne hc]; exact r.fz c w u q
  · by_cases hc : c = a
    · subst hc; rw [updM_same] at q; cases q; exact ⟨hg, o, upd_same, hm⟩
    · rw [updM_ne hc] at q
      obtain ⟨h1, u, h2, h3⟩ := r.mu c m' q
      exact ⟨h1, u, by rw [upd_ne hc]; exact h2, h3⟩
  · have hc : c ≠ a := fun e => by subst e; rw [h] at h1; cases h1
    rw [upd_ne hc, updM_ne hc]; exact ⟨h1, h2, h3⟩
/-- a changing object is written -/
theorem Stp.write {G : Hp} {M : MM} {H : Hp} {a : Addr} {o : HO} {m m0 : MO} (r : Rep G M H) (h : M a = some m0) (hm : MoAt G m o) : Stp G M H G (updM M a m) (upd H a o) := by
  obtain ⟨hg, u0, hu, _⟩ := r.mu a m0 h
  refine ⟨Ge.refl G, fun _ _ _ q => q, ⟨r.ge.neuH hg, fun c w u q => ?_, fun c m' q => ?_⟩, fun c u _ h1 h2 h3 => ?_⟩
  · have hc : c ≠ a := fun e => by subst e; rw [hg] at q; cases q
    rw [upd_ne hc]; exact r.fz c w u q
  · by_cases hc : c = a
    · subst hc; rw [updM_same] at q; cases q; exact ⟨hg, o, upd_same, hm⟩
    · rw [updM_ne hc] at q
      obtain ⟨h1, u, h2, h3⟩ := r.mu c m' q
      exact ⟨h1, u, by rw [upd_ne hc]; exact h2, h3⟩
  · have hc : c ≠ a := fun e => by subst e; rw [h] at h3; cases h3
    rw [upd_ne hc, updM_ne hc]; exact ⟨h1, h2, h3⟩
/-- a changing object is frozen -/
theorem Stp.freeze {G : Hp} {M : MM} {H : Hp} {a : Addr} {o : HO} {m : MO} (r : Rep G M H) (h : M a = some m) (ho : H a = some o) (hf : ∀ w u, o ≠ .frz w u) : Stp G M H (upd G a o) (delM M a) H := by
  obtain ⟨hg, _⟩ := r.mu a m h
  have e : upd H a o = H := by
    funext c
    by_cases hc : c = a
    · subst hc; rw [upd_same, ho]
    · rw [upd_ne hc]
  refine ⟨Ge.neu hg, fun c w u q => ?_, ⟨?_, fun c w u q => ?_, fun c m' q => ?_⟩, fun c u _ h1 h2 h3 => ?_⟩
  · have hc : c ≠ a := fun e => by subst e; rw [hg] at q; cases q
    rw [upd_ne hc]; exact q
  · have z := r.ge.neu2 (a := a) (o := o) hf
    rw [e] at z; exact z
  · by_cases hc : c = a
    · subst hc; rw [upd_same] at q; cases q; exact absurd rfl (hf _ _)
    · rw [upd_ne hc] at q; exact r.fz c w u q
  · have hc : c ≠ a := fun e => by subst e; rw [delM_same] at q; cases q
    rw [delM_ne hc] at q
    obtain ⟨h1, u, h2, h3⟩ := r.mu c m' q
    exact ⟨by rw [upd_ne hc]; exact h1, u, h2, h3.mono (Ge.neu hg)⟩
  · have hc : c ≠ a := fun e => by subst e; rw [h] at h3; cases h3
    rw [upd_ne hc, delM_ne hc]; exact ⟨h1, h2, h3⟩
/-- changing objects are forgotten -/
theorem Stp.forget {G : Hp} {M M0 : MM} {H : Hp} (r : Rep G M H) (s : SubM M0 M) : Stp G M H G M0 H :=
  ⟨Ge.refl G, fun _ _ _ h => h, ⟨r.ge, r.fz, fun c m q => r.mu c m (s c m q)⟩, fun c u _ h1 h2 h3 => ⟨h1, h2, by
    cases e : M0 c with
    | none => rfl
    | some m => rw [s c m e] at h3; cases h3⟩⟩
end D

set_option Elab.async false
set_option linter.all false
set_option maxRecDepth 100000
/-! D1: the lifted judgements; names, constants, tests, statements, displays. -/
namespace D
open PySem PySem.Spec PyProof.Rows L2

abbrev DSt := List (Option DV)
abbrev DK := DV → MM → Prop
abbrev DTE := DSt → MM → DK → Prop
abbrev DTT := DSt → MM → (Bool → MM → Prop) → Prop
abbrev DTA := DSt → MM → (List DV → MM → Prop) → Prop
structure DEnds where
  nx : DSt → MM → Prop
  rt : DK
  bk : DSt → MM → Prop := fun _ _ => False
  ct : DSt → MM → Prop := fun _ _ => False
abbrev DTS := DEnds → DSt → MM → Prop

inductive SlotAt (G : Hp) : Option DV → Option V → Prop where
  | no (v : Option V) : SlotAt G none v
  | so {d : DV} {v : V} (h : At G d v) : SlotAt G (some d) (some v)
abbrev Slots (G : Hp) : DSt → L2.St → Prop := Paired (SlotAt G)
theorem SlotAt.mono {G G' : Hp} (g : Ge G G') {o : Option DV} {p : Option V} (h : SlotAt G o p) : SlotAt G' o p := by
  cases h with
  | no => exact .no _
  | so h => exact .so (h.mono g)
theorem smono {G G' : Hp} (g : Ge G G') {s : DSt} {σ : L2.St} (h : Slots G s σ) : Slots G' s σ := Paired.mapP h fun _ _ q => q.mono g
abbrev nth : DSt → Nat → Option DV
  | [], _ => none
  | x :: _, 0 => x
  | _ :: r, n + 1 => nth r n
abbrev setN : DSt → Nat → DV → DSt
  | [], _, _ => []
  | _ :: r, 0, v => some v :: r
  | x :: r, n + 1, v => x :: setN r n v
theorem slots_nth {G : Hp} : ∀ {s : DSt} {σ : L2.St} {i : Nat} {d : DV}, Slots G s σ → nth s i = some d → ∃ v, σ[i]? = some (some v) ∧ At G d v
  | _, _, i, d, .nil, e => by cases e
  | _, _, 0, d, .cons h t, e => by
    have e' : _ = some d := e
    subst e'
    cases h with
    | so h => exact ⟨_, rfl, h⟩
  | _, _, i + 1, d, .cons h t, e => by
    obtain ⟨v, e1, h1⟩ := slots_nth (i := i) (d := d) t e
    exact ⟨v, by simpa using e1, h1⟩
theorem slots_set {G : Hp} {d : DV} {v : V} (h : At G d v) : ∀ {s : DSt} {σ : L2.St} {i : Nat}, Slots G s σ → Slots G (setN s i d) (σ.set i (some v))
  | _, _, _, .nil => .nil
  | _, _, 0, .cons q t => .cons (.so h) t
  | _, _, i + 1, .cons q t => .cons q (slots_set h t)

/-! ### readings lifted -/
def low (t : DTE) : TE := fun σ H Q => ∃ (G : Hp) (M : MM) (s : DSt) (R : DK), Rep G M H ∧ Slots G s σ ∧ t s M R ∧ ∀ d M' G' H' v, Stp G M H G' M' H' → At G' d v → R d M' → Q v H'
def lowT (t : DTT) : TT := fun σ H Q => ∃ (G : Hp) (M : MM) (s : DSt) (R : Bool → MM → Prop), Rep G M H ∧ Slots G s σ ∧ t s M R ∧ ∀ b M' G' H', Stp G M H G' M' H' → R b M' → Q b H'
def lowA (t : DTA) : TA := fun σ H Q => ∃ (G : Hp) (M : MM) (s : DSt) (R : List DV → MM → Prop), Rep G M H ∧ Slots G s σ ∧ t s M R ∧ ∀ ds M' G' H' vs, Stp G M H G' M' H' → AtL G' ds vs → R ds M' → Q vs H'
structure EndsOk (G : Hp) (M : MM) (H : Hp) (D : DEnds) (E : Ends) : Prop where
  nx : ∀ s' M' G' H' σ', Stp G M H G' M' H' → Slots G' s' σ' → D.nx s' M' → E.nx σ' H'
  rt : ∀ d M' G' H' v, Stp G M H G' M' H' → At G' d v → D.rt d M' → E.rt v H'
  bk : ∀ s' M' G' H' σ', Stp G M H G' M' H' → Slots G' s' σ' → D.bk s' M' → E.bk σ' H'
  ct : ∀ s' M' G' H' σ', Stp G M H G' M' H' → Slots G' s' σ' → D.ct s' M' → E.ct σ' H'
theorem EndsOk.step {G G1 : Hp} {M M1 : MM} {H H1 : Hp} {D : DEnds} {E : Ends} (e : EndsOk G M H D E) (s : Stp G M H G1 M1 H1) : EndsOk G1 M1 H1 D E :=
  ⟨fun s' M' G' H' σ' p => e.nx s' M' G' H' σ' (s.trans p), fun d M' G' H' v p => e.rt d M' G' H' v (s.trans p), fun s' M' G' H' σ' p => e.bk s' M' G' H' σ' (s.trans p), fun s' M' G' H' σ' p => e.ct s' M' G' H' σ' (s.trans p)⟩
def lowS (t : DTS) : TS := fun E σ H => ∃ (G : Hp) (M : MM) (s : DSt) (D : DEnds), Rep G M H ∧ Slots G s σ ∧ t D s M ∧ EndsOk G M H D E

structure DE (X : Cx) (e : Expr) (t : DTE) : Prop where
  pe : PE X e (low t)
structure DT (X : Cx) (e : Expr) (t : DTT) : Prop where
  pt : PT X e (lowT t)
structure DW (X : Cx) (e : Expr) (t : DTT) : Prop where
  pw : PW X e (lowT t)
structure DA (X : Cx) (es : List Expr) (t : DTA) : Prop where
  pa : PA X es (lowA t)
structure DS (X : Cx) (st : Stmt) (t : DTS) : Prop where
  ps : PS X st (lowS t)
structure DSs (X : Cx) (sts : List Stmt) (t : DTS) : Prop where
  pss : PSs X sts (lowS t)
section
variable {X : Cx} {e : Expr} {es : List Expr} {st : Stmt} {sts : List Stmt}
theorem pe_imp {t t' : TE} (h : PE X e t) (i : ∀ σ H Q, t' σ H Q → t σ H Q) : PE X e t' := ⟨fun p s σ H Q I q => h.run p s σ H Q I (i σ H Q q)⟩
theorem pt_imp {t t' : TT} (h : PT X e t) (i : ∀ σ H Q, t' σ H Q → t σ H Q) : PT X e t' := ⟨fun p s σ H Q I q => h.run p s σ H Q I (i σ H Q q)⟩
theorem pw_imp {t t' : TT} (h : PW X e t) (i : ∀ σ H Q, t' σ H Q → t σ H Q) : PW X e t' := ⟨fun w p s σ H Q I q => h.run w p s σ H Q I (i σ H Q q)⟩
theorem pa_imp {t t' : TA} (h : PA X es t) (i : ∀ σ H Q, t' σ H Q → t σ H Q) : PA X es t' := ⟨fun po p s σ H Q I q => h.run po p s σ H Q I (i σ H Q q)⟩
theorem ps_imp {t t' : TS} (h : PS X st t) (i : ∀ D σ H, t' D σ H → t D σ H) : PS X st t' := ⟨fun p s σ H D I q => h.run p s σ H D I (i D σ H q)⟩
theorem pss_imp {t t' : TS} (h : PSs X sts t) (i : ∀ D σ H, t' D σ H → t D σ H) : PSs X sts t' := ⟨fun p s σ H D I q => h.run p s σ H D I (i D σ H q)⟩
end
/-- from one lifted reading, started where another one has come -/
theorem low.at {t : DTE} {G : Hp} {M : MM} {H : Hp} {s : DSt} {σ : L2.St} {R : DK} {Q : VK} (r : Rep G M H) (sl : Slots G s σ) (h : t s M R) (c : ∀ d M' G' H' v, Stp G M H G' M' H' → At G' d v → R d M' → Q v H') : low t σ H Q := ⟨G, M, s, R, r, sl, h, c⟩

/-! ### tests on a Bool: cnd b A B -/
def cnd (b : Bool) (A B : Prop) : Prop := match b with
  | true => A
  | false => B
theorem cnd_t {A B : Prop} (h : A) : cnd true A B := h
theorem cnd_f {A B : Prop} (h : B) : cnd false A B := h
theorem cnd_i {b : Bool} {A B : Prop} (h1 : b = true → A) (h2 : b = false → B) : cnd b A B := by
  cases b with
  | true => exact h1 rfl
  | false => exact h2 rfl
theorem cnd_d {c : Prop} [Decidable c] {A B : Prop} (h1 : c → A) (h2 : ¬ c → B) : cnd (decide c) A B :=
  cnd_i (fun h => h1 (of_decide_eq_true h)) (fun h => h2 (of_decide_eq_false h))
theorem cnd_nd {c : Prop} [Decidable c] {A B : Prop} (h1 : ¬ c → A) (h2 : c → B) : cnd (!decide c) A B :=
  cnd_i (fun h => h1 (by simpa using h)) (fun h => h2 (by simpa using h))
theorem cnd_of {b : Bool} {A B : Prop} (e : b = true) (h : A) : cnd b A B := by rw [e]; exact h
theorem cnd_no {b : Bool} {A B : Prop} (e : b = false) (h : B) : cnd b A B := by rw [e]; exact h
theorem cnd_iff {b : Bool} {A B : Prop} : cnd b A B ↔ (if b = true then A else B) := by cases b <;> simp [cnd]

/-! ### names and constants -/
abbrev dVar (i : Nat) : DTE := fun s M Q => match nth s i with
  | some d => Q d M
  | none => False
abbrev dC (d : DV) : DTE := fun _ M Q => Q d M
section
variable {X : Cx} {pos : Pos} {a b e : Expr} {es : List Expr} {st : Stmt} {sts : List Stmt}
theorem lowK {d : DV} {v : V} (h : ∀ G, At G d v) {σ : L2.St} {H : Hp} {Q : VK} : low (dC d) σ H Q → tC v σ H Q := fun ⟨G, M, s, R, r, _, q, c⟩ => c d M G H v (Stp.refl r) (h G) q
theorem dv (i : Nat) {x : Str} (hN : X.N[i]? = some x := by rfl) (hv : Vis X.env.scope x := by first | exact Or.inl rfl | exact Or.inr (Or.inl rfl) | exact Or.inr (Or.inr rfl)) (hd : (x == ("__debug__" : Str)) = false := by decide)
    (hcd : (x == ("__classdict__" : Str)) = false := by decide) : DE X (.Name x pos) (dVar i) :=
  ⟨pe_imp (pv i hN hv hd hcd) fun σ H Q ⟨G, M, s, R, r, sl, q, c⟩ => by
    cases e : nth s i with
    | none => rw [dVar, e] at q; exact q.elim
    | some d =>
      rw [dVar, e] at q
      obtain ⟨v, ev, av⟩ := slots_nth sl e
      exact ⟨v, ev, c d M G H v (Stp.refl r) av q⟩⟩
theorem de_int {i : Int} {j} : DE X (.Constant (.int i) j pos) (dC (.int i)) := ⟨pe_imp pe_int fun _ _ _ => lowK fun _ => .int i⟩
theorem de_bl {i : Bool} {j} : DE X (.Constant (.bool i) j pos) (dC (.bl i)) := ⟨pe_imp pe_bl fun _ _ _ => lowK fun _ => .bl i⟩
theorem de_non {j} : DE X (.Constant .none j pos) (dC .non) := ⟨pe_imp pe_non fun _ _ _ => lowK fun _ => .non⟩
theorem de_str {x : Str} {j} : DE X (.Constant (.str x) j pos) (dC (.str x)) := ⟨pe_imp pe_str fun _ _ _ => lowK fun _ => .str x⟩
/-- a module's constant, a class, a def -/
theorem de_glob {x : Str} {d : DV} {v : V} {u : Value} (h : ∀ G, At G d v) (hg : Gl X x) (hm : X.mg x = some u) (r : RelV v u) (hd : (x == ("__debug__" : Str)) = false := by decide) : DE X (.Name x pos) (dC d) := ⟨pe_imp (pe_glob hg hm r hd) fun _ _ _ => lowK h⟩
theorem de_bltn {x : Str} {d : DV} {v : V} {u : Value} (h : ∀ G, At G d v) (hg : Gl X x) (hm : X.mg x = none) (hv : bootBuiltins x = some u) (r : RelV v u) (hn : x ≠ "__name__" := by decide) (hd : (x == ("__debug__" : Str)) = false := by decide) :
    DE X (.Name x pos) (dC d) := ⟨pe_imp (pe_bltn hg hm hv r hn hd) fun _ _ _ => lowK h⟩

/-! ### operators by values -/
abbrev DR2 := DV → DV → MM → DK → Prop
def low2 (r : DR2) : R2 := fun x y H Q => ∃ (G : Hp) (M : MM) (d e : DV) (R : DK), Rep G M H ∧ At G d x ∧ At G e y ∧ r d e M R ∧ ∀ z M' G' H' v, Stp G M H G' M' H' → At G' z v → R z M' → Q v H'
abbrev dOp (r : DR2) (ta tb : DTE) : DTE := fun s M Q => ta s M fun x M1 => tb s M1 fun y M2 => r x y M2 Q
theorem low_op {r : DR2} {ta tb : DTE} {σ : L2.St} {H : Hp} {Q : VK} (h : low (dOp r ta tb) σ H Q) : tOp (low2 r) (low ta) (low tb) σ H Q := by
  obtain ⟨G, M, s, R, rp, sl, q, c⟩ := h
  refine ⟨G, M, s, _, rp, sl, q, fun x M1 G1 H1 v s1 a1 q1 => ?_⟩
  refine ⟨G1, M1, s, _, s1.rep, smono s1.ge sl, q1, fun y M2 G2 H2 u s2 a2 q2 => ?_⟩
  exact ⟨G2, M2, x, y, R, s2.rep, a1.mono s2.ge, a2, q2, fun z M3 G3 H3 w s3 a3 q3 => c z M3 G3 H3 w (s1.trans (s2.trans s3)) a3 q3⟩
theorem OpR.imp {f : Value → Value → Sem Value} {r r' : R2} (h : OpR X f r) (i : ∀ x y H Q, r' x y H Q → r x y H Q) : OpR X f r' := fun pins s σ H x y v u Q I r1 r2 q => h pins s σ H x y v u Q I r1 r2 (i x y H Q q)
variable {ta tb : DTE}
theorem de_op {op : Operator} {r : DR2} (ho : OpR X (binaryOp op) (low2 r)) (ha : DE X a ta) (hb : DE X b tb) : DE X (.BinOp a op b pos) (dOp r ta tb) := ⟨pe_imp (pe_op ho ha.pe hb.pe) fun _ _ _ => low_op⟩
theorem de_cmp {op : CmpOp} {r : DR2} (ho : OpR X (compareOp op) (low2 r)) (ha : DE X a ta) (hb : DE X b tb) (hm : behindInMarks op b = false := by first | exact nobehind _ (by decide) (by decide) | rfl) : DE X (.Compare a [op] [b] pos) (dOp r ta tb) :=
  ⟨pe_imp (pe_cmpR ho ha.pe hb.pe hm) fun _ _ _ => low_op⟩
/-- a value that is a bool, as a test -/
abbrev dB (t : DTE) : DTT := fun s M Q => t s M fun x M1 => match x with
  | .bl c => Q c M1
  | _ => False
theorem low_b {t : DTE} {σ : L2.St} {H : Hp} {Q : Bool → Hp → Prop} (h : lowT (dB t) σ H Q) : low t σ H fun x H1 => ∃ c, x = .bl c ∧ Q c H1 := by
  obtain ⟨G, M, s, R, rp, sl, q, c⟩ := h
  refine ⟨G, M, s, _, rp, sl, q, fun x M1 G1 H1 v s1 a1 q1 => ?_⟩
  cases a1 <;> try exact q1.elim
  exact ⟨_, rfl, c _ M1 G1 H1 s1 q1⟩
theorem dt_val {t : DTE} (h : DE X e t) (he : ∀ whole, isTrue e X.env whole = (do let v ← whole; standAt e.pos; holding [v] (truthy v)) := by intro _; rfl) : DT X e (dB t) := ⟨pt_imp (pt_val h.pe he) fun _ _ _ => low_b⟩
theorem dt_cmp {op : CmpOp} {r : DR2} (ho : OpR X (compareOp op) (low2 r)) (ha : DE X a ta) (hb : DE X b tb) (hm : behindInMarks op b = false := by first | exact nobehind _ (by decide) (by decide) | rfl) : DT X (.Compare a [op] [b] pos) (dB (dOp r ta tb)) :=
  ⟨pt_imp (pt_cmpR ho ha.pe hb.pe hm) fun σ H Q h => by
    obtain ⟨G, M, s, R, rp, sl, q, c⟩ := h
    refine low_op ⟨G, M, s, _, rp, sl, q, fun x M1 G1 H1 v s1 a1 q1 => ?_⟩
    cases a1 <;> try exact q1.elim
    exact ⟨_, rfl, c _ M1 G1 H1 s1 q1⟩⟩
/-- two comparisons in a chain -/
abbrev dChain (r r' : DR2) (ta tb tc : DTE) : DTE := fun s M Q => ta s M fun x M1 => tb s M1 fun y M2 => r x y M2 fun z M3 => match z with
  | .bl k => cnd k (tc s M3 fun w M4 => r' y w M4 Q) (Q (.bl false) M3)
  | _ => False

/-! ### and, or, not as tests -/
variable {tA tB : DTT} {rest : List Expr}
abbrev dAnd (t u : DTT) : DTT := fun s M Q => t s M fun c M1 => cnd c (u s M1 Q) (Q false M1)
abbrev dOr (t u : DTT) : DTT := fun s M Q => t s M fun c M1 => cnd c (Q true M1) (u s M1 Q)
abbrev dNot (t : DTT) : DTT := fun s M Q => t s M fun c M1 => Q (!c) M1
theorem dw_and1 (ha : DT X a tA) : DW X (.BoolOp .And [a] pos) tA := ⟨pw_and1 ha.pt⟩
theorem dw_or1 (ha : DT X a tA) : DW X (.BoolOp .Or [a] pos) tA := ⟨pw_or1 ha.pt⟩
theorem dw_and (ha : DT X a tA) (hb : DW X (.BoolOp .And (b :: rest) pos) tB) : DW X (.BoolOp .And (a :: b :: rest) pos) (dAnd tA tB) := ⟨pw_imp (L2.pw_and ha.pt hb.pw) fun σ H Q h => by
  obtain ⟨G, M, s, R, rp, sl, q, c⟩ := h
  refine ⟨G, M, s, _, rp, sl, q, fun k M1 G1 H1 s1 q1 => ?_⟩
  cases k with
  | true => exact ⟨G1, M1, s, R, s1.rep, smono s1.ge sl, q1, fun b M2 G2 H2 s2 q2 => c b M2 G2 H2 (s1.trans s2) q2⟩
  | false => exact c false M1 G1 H1 s1 q1⟩
theorem dw_or (ha : DT X a tA) (hb : DW X (.BoolOp .Or (b :: rest) pos) tB) : DW X (.BoolOp .Or (a :: b :: rest) pos) (dOr tA tB) := ⟨pw_imp (L2.pw_or ha.pt hb.pw) fun σ H Q h => by
  obtain ⟨G, M, s, R, rp, sl, q, c⟩ := h
  refine ⟨G, M, s, _, rp, sl, q, fun k M1 G1 H1 s1 q1 => ?_⟩
  cases k with
  | false => exact ⟨G1, M1, s, R, s1.rep, smono s1.ge sl, q1, fun b M2 G2 H2 s2 q2 => c b M2 G2 H2 (s1.trans s2) q2⟩
  | true => exact c true M1 G1 H1 s1 q1⟩
theorem DW.dt {t : DTT} (h : DW X e t) : DT X e t := ⟨h.pw.pt⟩
theorem dt_not (ha : DT X a tA) : DT X (.UnaryOp .Not a pos) (dNot tA) := ⟨pt_imp (pt_not ha.pt) fun σ H Q h => by
  obtain ⟨G, M, s, R, rp, sl, q, c⟩ := h
  exact ⟨G, M, s, _, rp, sl, q, fun k M1 G1 H1 s1 q1 => c _ M1 G1 H1 s1 q1⟩⟩
/-! as values (all bools) -/
abbrev dAndV (ta tb : DTE) : DTE := fun s M Q => ta s M fun x M1 => match x with
  | .bl c => cnd c (tb s M1 Q) (Q (.bl false) M1)
  | _ => False
abbrev dOrV (ta tb : DTE) : DTE := fun s M Q => ta s M fun x M1 => match x with
  | .bl c => cnd c (Q (.bl true) M1) (tb s M1 Q)
  | _ => False
abbrev dNotV (ta : DTE) : DTE := fun s M Q => ta s M fun x M1 => match x with
  | .bl c => Q (.bl (!c)) M1
  | _ => False
theorem de_one {op} {t : DTE} (h : DE X a t) : DE X (.BoolOp op [a] pos) t := ⟨pe_one h.pe⟩
theorem de_and (ha : DE X a ta) (hb : DE X (.BoolOp .And (b :: rest) pos) tb) : DE X (.BoolOp .And (a :: b :: rest) pos) (dAndV ta tb) := ⟨pe_imp (L2.pe_and ha.pe hb.pe) fun σ H Q h => by
  obtain ⟨G, M, s, R, rp, sl, q, c⟩ := h
  refine ⟨G, M, s, _, rp, sl, q, fun x M1 G1 H1 v s1 a1 q1 => ?_⟩
  obtain ⟨k, rfl⟩ : ∃ k, x = .bl k := by cases a1 <;> first | exact ⟨_, rfl⟩ | exact q1.elim
  cases a1
  refine ⟨k, rfl, ?_⟩
  cases k with
  | true => exact ⟨G1, M1, s, R, s1.rep, smono s1.ge sl, q1, fun d M2 G2 H2 v s2 a2 q2 => c d M2 G2 H2 v (s1.trans s2) a2 q2⟩
  | false => exact c _ M1 G1 H1 _ s1 (.bl false) q1⟩
theorem de_or (ha : DE X a ta) (hb : DE X (.BoolOp .Or (b :: rest) pos) tb) : DE X (.BoolOp .Or (a :: b :: rest) pos) (dOrV ta tb) := ⟨pe_imp (L2.pe_or ha.pe hb.pe) fun σ H Q h => by
  obtain ⟨G, M, s, R, rp, sl, q, c⟩ := h
  refine ⟨G, M, s, _, rp, sl, q, fun x M1 G1 H1 v s1 a1 q1 => ?_⟩
  obtain ⟨k, rfl⟩ : ∃ k, x = .bl k := by cases a1 <;> first | exact ⟨_, rfl⟩ | exact q1.elim
  cases a1
  refine ⟨k, rfl, ?_⟩
  cases k with
  | false => exact ⟨G1, M1, s, R, s1.rep, smono s1.ge sl, q1, fun d M2 G2 H2 v s2 a2 q2 => c d M2 G2 H2 v (s1.trans s2) a2 q2⟩
  | true => exact c _ M1 G1 H1 _ s1 (.bl true) q1⟩
theorem de_not (ha : DE X a ta) : DE X (.UnaryOp .Not a pos) (dNotV ta) := ⟨pe_imp (L2.pe_not ha.pe) fun σ H Q h => by
  obtain ⟨G, M, s, R, rp, sl, q, c⟩ := h
  refine ⟨G, M, s, _, rp, sl, q, fun x M1 G1 H1 v s1 a1 q1 => ?_⟩
  obtain ⟨k, rfl⟩ : ∃ k, x = .bl k := by cases a1 <;> first | exact ⟨_, rfl⟩ | exact q1.elim
  cases a1
  exact ⟨k, rfl, c _ M1 G1 H1 _ s1 (.bl (!k)) q1⟩⟩
abbrev dIfE (t : DTT) (ta tb : DTE) : DTE := fun s M Q => t s M fun c M1 => cnd c (ta s M1 Q) (tb s M1 Q)
theorem de_if {c : Expr} (hc : DT X c tA) (ha : DE X a ta) (hb : DE X b tb) : DE X (.IfExp c a b pos) (dIfE tA ta tb) := ⟨pe_imp (pe_ifExp hc.pt ha.pe hb.pe) fun σ H Q h => by
  obtain ⟨G, M, s, R, rp, sl, q, c⟩ := h
  refine ⟨G, M, s, _, rp, sl, q, fun k M1 G1 H1 s1 q1 => ?_⟩
  cases k with
  | true => exact ⟨G1, M1, s, R, s1.rep, smono s1.ge sl, q1, fun d M2 G2 H2 v s2 a2 q2 => c d M2 G2 H2 v (s1.trans s2) a2 q2⟩
  | false => exact ⟨G1, M1, s, R, s1.rep, smono s1.ge sl, q1, fun d M2 G2 H2 v s2 a2 q2 => c d M2 G2 H2 v (s1.trans s2) a2 q2⟩⟩
theorem de_chain {c : Expr} {op op' : CmpOp} {r r' : DR2} {tc : DTE} (ho : OpR X (compareOp op) (low2 r)) (ho' : OpR X (compareOp op') (low2 r')) (ha : DE X a ta) (hb : DE X b tb) (hc : DE X c tc)
    (hm : lastMarks [op, op'] [b, c] = false := by with_unfolding_all rfl) : DE X (.Compare a [op, op'] [b, c] pos) (dChain r r' ta tb tc) := by
  refine ⟨pe_imp (pe_chain ho ho' ha.pe hb.pe hc.pe hm) fun σ H Q h => ?_⟩
  obtain ⟨G, M, s, R, rp, sl, q, c⟩ := h
  refine ⟨G, M, s, _, rp, sl, q, fun x M1 G1 H1 v s1 a1 q1 => ?_⟩
  refine ⟨G1, M1, s, _, s1.rep, smono s1.ge sl, q1, fun y M2 G2 H2 u s2 a2 q2 => ?_⟩
  refine ⟨G2, M2, x, y, _, s2.rep, a1.mono s2.ge, a2, q2, fun z M3 G3 H3 w s3 a3 q3 => ?_⟩
  obtain ⟨k, rfl⟩ : ∃ k, z = .bl k := by cases a3 <;> first | exact ⟨_, rfl⟩ | exact q3.elim
  cases a3
  refine ⟨k, rfl, ?_⟩
  cases k with
  | false => exact c _ M3 G3 H3 _ (s1.trans (s2.trans s3)) (.bl false) q3
  | true =>
    refine ⟨G3, M3, s, _, s3.rep, smono (s1.trans (s2.trans s3)).ge sl, q3, fun w M4 G4 H4 u s4 a4 q4 => ?_⟩
    exact ⟨G4, M4, y, w, R, s4.rep, a2.mono (s3.trans s4).ge, a4, q4, fun z M5 G5 H5 w s5 a5 q5 => c z M5 G5 H5 w (s1.trans (s2.trans (s3.trans (s4.trans s5)))) a5 q5⟩
end
end D

set_option Elab.async false
set_option linter.all false
set_option maxRecDepth 100000
/-! D2: arguments, displays, statements, targets, loops. -/
namespace D
open PySem PySem.Spec PyProof.Rows L2
section
variable {X : Cx} {pos : Pos} {a b e : Expr} {es : List Expr} {st : Stmt} {sts : List Stmt} {te ta tb : DTE} {t : DTA}

/-! ### arguments, displays -/
abbrev dNil : DTA := fun _ M Q => Q [] M
abbrev dCons (te : DTE) (t : DTA) : DTA := fun s M Q => te s M fun x M1 => t s M1 fun xs M2 => Q (x :: xs) M2
theorem da_nil : DA X [] dNil := ⟨pa_imp pa_nil fun σ H Q ⟨G, M, s, R, r, _, q, c⟩ => c [] M G H [] (Stp.refl r) .nil q⟩
theorem da_cons (ha : DE X e te) (hr : DA X es t) (hs : starEach (e :: es) X.env = (false, eval e X.env) :: starEach es X.env := by rfl) : DA X (e :: es) (dCons te t) :=
  ⟨pa_imp (pa_cons ha.pe hr.pa hs) fun σ H Q ⟨G, M, s, R, r, sl, q, c⟩ => ⟨G, M, s, _, r, sl, q, fun x M1 G1 H1 v s1 a1 q1 =>
    ⟨G1, M1, s, _, s1.rep, smono s1.ge sl, q1, fun xs M2 G2 H2 vs s2 a2 q2 => c (x :: xs) M2 G2 H2 (v :: vs) (s1.trans s2) (.cons (a1.mono s2.ge) a2) q2⟩⟩⟩
theorem nofz_lst {xs : List V} : ∀ w u, HO.lst xs ≠ .frz w u := fun _ _ z => nomatch z
theorem nofz_tup {xs : List V} : ∀ w u, HO.tup xs ≠ .frz w u := fun _ _ z => nomatch z
theorem nofz_dK {xs : List (Key × V)} : ∀ w u, HO.dK xs ≠ .frz w u := fun _ _ z => nomatch z
theorem nofz_dT {xs : List (List Key × V)} : ∀ w u, HO.dT xs ≠ .frz w u := fun _ _ z => nomatch z
theorem nofz_ins {C dx : Addr} {xs : List (Str × V)} : ∀ w u, HO.ins C dx xs ≠ .frz w u := fun _ _ z => nomatch z
/-- a new list, tuple: frozen; or a changing list -/
abbrev dTup (t : DTA) : DTE := fun s M Q => t s M fun xs M1 => xs.length ≤ sizeLine ∧ Q (.tup xs) M1
abbrev dLst (t : DTA) : DTE := fun s M Q => t s M fun xs M1 => xs.length ≤ sizeLine ∧ Q (.lst xs) M1
abbrev dLstM (t : DTA) : DTE := fun s M Q => t s M fun xs M1 => xs.length ≤ sizeLine ∧ ∀ p, M1 p = none → Q (.adr p) (updM M1 p (.lst xs))
theorem de_tup {x1} (h : DA X es t) : DE X (.Tuple es x1 pos) (dTup t) := ⟨pe_imp (pe_tup h.pa) fun σ H Q ⟨G, M, s, R, r, sl, q, c⟩ => ⟨G, M, s, _, r, sl, q, fun xs M1 G1 H1 vs s1 a1 q1 =>
  ⟨by rw [← a1.length]; exact q1.1, fun p hp => c (.tup xs) M1 _ _ _ (s1.trans (Stp.newF s1.rep hp nofz_tup)) (.tup (.inl upd_same) (a1.mono (Ge.neu (s1.rep.free hp).1))) q1.2⟩⟩⟩
theorem de_lst (h : DA X es t) : DE X (.List es pos) (dLst t) := ⟨pe_imp (pe_lst h.pa) fun σ H Q ⟨G, M, s, R, r, sl, q, c⟩ => ⟨G, M, s, _, r, sl, q, fun xs M1 G1 H1 vs s1 a1 q1 =>
  ⟨by rw [← a1.length]; exact q1.1, fun p hp => c (.lst xs) M1 _ _ _ (s1.trans (Stp.newF s1.rep hp nofz_lst)) (.lst (.inl upd_same) (a1.mono (Ge.neu (s1.rep.free hp).1))) q1.2⟩⟩⟩
theorem de_lstM (h : DA X es t) : DE X (.List es pos) (dLstM t) := ⟨pe_imp (pe_lst h.pa) fun σ H Q ⟨G, M, s, R, r, sl, q, c⟩ => ⟨G, M, s, _, r, sl, q, fun xs M1 G1 H1 vs s1 a1 q1 =>
  ⟨by rw [← a1.length]; exact q1.1, fun p hp => c (.adr p) _ _ _ _ (s1.trans (Stp.newM s1.rep hp (.lst a1))) (.adr p) (q1.2 p (s1.rep.free hp).2)⟩⟩⟩

/-! ### built-in calls by values -/
abbrev DR := List DV → MM → DK → Prop
def lowC (r : DR) : List V → Hp → VK → Prop := fun vs H Q => ∃ (G : Hp) (M : MM) (ds : List DV) (R : DK), Rep G M H ∧ AtL G ds vs ∧ r ds M R ∧ ∀ z M' G' H' v, Stp G M H G' M' H' → At G' z v → R z M' → Q v H'
abbrev dCB (r : DR) (t : DTA) : DTE := fun s M Q => t s M fun xs M1 => r xs M1 Q
theorem CallR.imp {f : Value} {r r' : List V → Hp → VK → Prop} (h : CallR X f r) (i : ∀ vs H Q, r' vs H Q → r vs H Q) : CallR X f r' := fun pins s σ H vs us Q I rv q => h pins s σ H vs us Q I rv (i vs H Q q)
theorem low_cb {r : DR} {t : DTA} {σ : L2.St} {H : Hp} {Q : VK} (h : low (dCB r t) σ H Q) : tCB (lowC r) (lowA t) σ H Q := by
  obtain ⟨G, M, s, R, rp, sl, q, c⟩ := h
  exact ⟨G, M, s, _, rp, sl, q, fun xs M1 G1 H1 vs s1 a1 q1 => ⟨G1, M1, xs, R, s1.rep, a1, q1, fun z M2 G2 H2 v s2 a2 q2 => c z M2 G2 H2 v (s1.trans s2) a2 q2⟩⟩
theorem de_callB {id : String} {x : Str} {p : Pos} {r : DR} (hc : CallR X (.builtin id) (lowC r)) (hg : Gl X x) (hm : X.mg x = none) (hv : bootBuiltins x = some (.builtin id)) (ha : DA X (e :: es) t) (hn : x ≠ "__name__" := by decide) (hdb : (x == ("__debug__" : Str)) = false := by decide)
    (he : starEach (e :: es) X.env = (false, eval e X.env) :: starEach es X.env := by rfl) (hpl : (backTo pos (starEach es X.env)).any (·.1) = false := by rfl) : DE X (.Call (.Name x p) (e :: es) [] pos) (dCB r t) :=
  ⟨pe_imp (pe_callB hc hg hm hv ha.pa hn hdb he hpl) fun _ _ _ => low_cb⟩
theorem de_callTy {T : String} {x : Str} {p : Pos} {r : DR} (hc : CallR X (.type T) (lowC r)) (hg : Gl X x) (hm : X.mg x = none) (hv : bootBuiltins x = some (.type T)) (ha : DA X (e :: es) t) (hn : x ≠ "__name__" := by decide) (hdb : (x == ("__debug__" : Str)) = false := by decide)
    (he : starEach (e :: es) X.env = (false, eval e X.env) :: starEach es X.env := by rfl) (hpl : (backTo pos (starEach es X.env)).any (·.1) = false := by rfl) : DE X (.Call (.Name x p) (e :: es) [] pos) (dCB r t) :=
  ⟨pe_imp (pe_callTy hc hg hm hv ha.pa hn hdb he hpl) fun _ _ _ => low_cb⟩

/-! ### statements -/
variable {tt : DTT} {u v : DTS}
abbrev dNext : DTS := fun D s M => D.nx s M
abbrev dSeq (u v : DTS) : DTS := fun D s M => u { D with nx := v D } s M
abbrev dDrop (te : DTE) : DTS := fun D s M => te s M fun _ M1 => D.nx s M1
abbrev dRet (te : DTE) : DTS := fun D s M => te s M D.rt
abbrev dRetN : DTS := fun D _ M => D.rt .non M
abbrev dIfS (c : DTT) (u v : DTS) : DTS := fun D s M => c s M fun k M1 => cnd k (u D s M1) (v D s M1)
abbrev dNever : DTS := fun _ _ _ => False
theorem dss_nil : DSs X [] dNext := ⟨pss_imp pss_nil fun E σ H ⟨G, M, s, D, r, sl, q, c⟩ => c.nx s M G H σ (Stp.refl r) sl q⟩
theorem low_seq {E : Ends} {σ : L2.St} {H : Hp} (h : lowS (dSeq u v) E σ H) : tSeq (lowS u) (lowS v) E σ H := by
  obtain ⟨G, M, s, D, r, sl, q, c⟩ := h
  exact ⟨G, M, s, _, r, sl, q, ⟨fun s' M' G' H' σ' p sl' q' => ⟨G', M', s', D, p.rep, sl', q', c.step p⟩, c.rt, c.bk, c.ct⟩⟩
theorem dss_cons (h1 : DS X st u) (h2 : DSs X sts v) : DSs X (st :: sts) (dSeq u v) := ⟨pss_imp (pss_cons h1.ps h2.pss) fun _ _ _ => low_seq⟩
theorem dss_one (h1 : DS X st u) : DSs X [st] u := ⟨pss_one h1.ps⟩
theorem dss_never : DSs X sts dNever := ⟨pss_imp pss_never fun E σ H ⟨_, _, _, _, _, _, q, _⟩ => q⟩
theorem ds_never : DS X st dNever := ⟨ps_imp ps_never fun E σ H ⟨_, _, _, _, _, _, q, _⟩ => q⟩
theorem ds_pass : DS X (.Pass pos) dNext := ⟨ps_imp ps_pass fun E σ H ⟨G, M, s, D, r, sl, q, c⟩ => c.nx s M G H σ (Stp.refl r) sl q⟩
theorem ds_doc {x j pos'} : DS X (.Expr (.Constant (.str x) j pos) pos') dNext := ⟨ps_imp ps_doc fun E σ H ⟨G, M, s, D, r, sl, q, c⟩ => c.nx s M G H σ (Stp.refl r) sl q⟩
theorem ds_break : DS X (.Break pos) (fun D s M => D.bk s M) := ⟨ps_imp ps_break fun E σ H ⟨G, M, s, D, r, sl, q, c⟩ => c.bk s M G H σ (Stp.refl r) sl q⟩
theorem ds_continue : DS X (.Continue pos) (fun D s M => D.ct s M) := ⟨ps_imp ps_continue fun E σ H ⟨G, M, s, D, r, sl, q, c⟩ => c.ct s M G H σ (Stp.refl r) sl q⟩
theorem ds_expr (he : DE X e te) (hs : swapsWith e none pos.line X.env = pure false := by rfl) : DS X (.Expr e pos) (dDrop te) := ⟨ps_imp (ps_expr he.pe hs) fun E σ H ⟨G, M, s, D, r, sl, q, c⟩ =>
  ⟨G, M, s, _, r, sl, q, fun d M1 G1 H1 v s1 a1 q1 => c.nx s M1 G1 H1 σ s1 (smono s1.ge sl) q1⟩⟩
theorem ds_ret (he : DE X e te) : DS X (.Return (some e) pos) (dRet te) := ⟨ps_imp (ps_ret he.pe) fun E σ H ⟨G, M, s, D, r, sl, q, c⟩ => ⟨G, M, s, _, r, sl, q, c.rt⟩⟩
theorem ds_retN : DS X (.Return none pos) dRetN := ⟨ps_imp ps_retN fun E σ H ⟨G, M, s, D, r, sl, q, c⟩ => c.rt .non M G H .non (Stp.refl r) .non q⟩
theorem ds_if {c : Expr} {as bs : List Stmt} (hc : DT X c tt) (ha : DSs X as u) (hb : DSs X bs v) : DS X (.If c as bs pos) (dIfS tt u v) := ⟨ps_imp (ps_if hc.pt ha.pss hb.pss) fun E σ H ⟨G, M, s, D, r, sl, q, c⟩ =>
  ⟨G, M, s, _, r, sl, q, fun k M1 G1 H1 s1 q1 => by
    cases k with
    | true => exact ⟨G1, M1, s, D, s1.rep, smono s1.ge sl, q1, c.step s1⟩
    | false => exact ⟨G1, M1, s, D, s1.rep, smono s1.ge sl, q1, c.step s1⟩⟩⟩

/-! ### targets -/
abbrev DTG := DV → DSt → MM → (DSt → MM → Prop) → Prop
abbrev DTGs := List DV → DSt → MM → (DSt → MM → Prop) → Prop
/-- but for the slots vs all is as it was -/
def OnlyAt (vs : List Nat) (σ σ' : L2.St) : Prop := σ'.length = σ.length ∧ ∀ i, i ∉ vs → σ'[i]? = σ[i]?
theorem OnlyAt.refl {vs : List Nat} (σ : L2.St) : OnlyAt vs σ σ := ⟨rfl, fun _ _ => rfl⟩
theorem OnlyAt.trans {vs : List Nat} {σ σ1 σ2 : L2.St} (a : OnlyAt vs σ σ1) (b : OnlyAt vs σ1 σ2) : OnlyAt vs σ σ2 := ⟨b.1.trans a.1, fun i h => (b.2 i h).trans (a.2 i h)⟩
theorem OnlyAt.more {vs ws : List Nat} {σ σ1 : L2.St} (a : OnlyAt vs σ σ1) (h : ∀ i ∈ vs, i ∈ ws) : OnlyAt ws σ σ1 := ⟨a.1, fun i hi => a.2 i fun z => hi (h i z)⟩
def lowG (t : DTG) (vs : List Nat) : TG := fun v σ H Q => ∃ (G : Hp) (M : MM) (s : DSt) (d : DV) (R : DSt → MM → Prop), Rep G M H ∧ Slots G s σ ∧ At G d v ∧ t d s M R ∧ ∀ s' M' G' H' σ', Stp G M H G' M' H' → Slots G' s' σ' → OnlyAt vs σ σ' → R s' M' → Q σ' H'
def lowGs (t : DTGs) (vs : List Nat) : TGs := fun ws σ H Q => ∃ (G : Hp) (M : MM) (s : DSt) (ds : List DV) (R : DSt → MM → Prop), Rep G M H ∧ Slots G s σ ∧ AtL G ds ws ∧ t ds s M R ∧ ∀ s' M' G' H' σ', Stp G M H G' M' H' → Slots G' s' σ' → OnlyAt vs σ σ' → R s' M' → Q σ' H'
structure DG (X : Cx) (tg : Expr) (t : DTG) (vs : List Nat) : Prop where
  pg : PG X tg (lowG t vs)
structure DGs (X : Cx) (tgs : List Expr) (t : DTGs) (vs : List Nat) : Prop where
  pgs : PGs X tgs (lowGs t vs)
theorem pg_imp {tg : Expr} {t t' : TG} (h : PG X tg t) (i : ∀ v σ H Q, t' v σ H Q → t v σ H Q) : PG X tg t' := ⟨fun p s σ H v u Q I r q => h.run p s σ H v u Q I r (i v σ H Q q)⟩
theorem pgs_imp {tgs : List Expr} {t t' : TGs} (h : PGs X tgs t) (i : ∀ v σ H Q, t' v σ H Q → t v σ H Q) : PGs X tgs t' := ⟨fun p s σ H v u Q I r q => h.run p s σ H v u Q I r (i v σ H Q q)⟩
abbrev dgName (i : Nat) : DTG := fun v s M Q => Q (setN s i v) M
abbrev dgNil : DTGs := fun vs s M Q => match vs with
  | [] => Q s M
  | _ => False
abbrev dgCons (t : DTG) (u : DTGs) : DTGs := fun vs s M Q => match vs with
  | v :: r => t v s M fun s1 M1 => u r s1 M1 Q
  | _ => False
abbrev dgTup (t : DTGs) : DTG := fun v s M Q => match v with
  | .tup xs => t xs s M Q
  | _ => False
theorem only_set {σ : L2.St} {i : Nat} {v : Option V} : OnlyAt [i] σ (σ.set i v) := ⟨List.length_set, fun j hj => List.getElem?_set_ne fun e => hj (by simp [e])⟩
theorem dg_name (i : Nat) {x : Str} (hN : X.N.Nodup) (hi : X.N[i]? = some x := by rfl) (hx : Loc X.env.scope x := by first | exact Or.inl rfl | exact Or.inr rfl) (hf : X.fn x = true ∨ X.env.scope.names.lookup x = some .local := by first | exact .inl rfl | exact .inr rfl | assumption) : DG X (.Name x pos) (dgName i) [i] :=
  ⟨pg_imp (pg_name hN hi hx hf) fun v σ H Q ⟨G, M, s, d, R, r, sl, av, q, c⟩ => c _ M G H _ (Stp.refl r) (slots_set av sl) only_set q⟩
theorem dgs_nil {vs : List Nat} : DGs X [] dgNil vs := ⟨pgs_imp pgs_nil fun ws σ H Q ⟨G, M, s, ds, R, r, sl, av, q, c⟩ => by
  cases av with
  | nil => exact ⟨rfl, c _ M G H _ (Stp.refl r) sl (OnlyAt.refl σ) q⟩
  | cons _ _ => exact q.elim⟩
theorem dgs_cons {t : DTG} {u : DTGs} {vs ws : List Nat} (h1 : DG X e t vs) (h2 : DGs X es u ws) (hs : (assignEach (e :: es) X.env).map (·.2) = assign e X.env :: (assignEach es X.env).map (·.2) := by rfl) : DGs X (e :: es) (dgCons t u) (vs ++ ws) :=
  ⟨pgs_imp (pgs_cons h1.pg h2.pgs hs) fun xs σ H Q ⟨G, M, s, ds, R, r, sl, av, q, c⟩ => by
    cases av with
    | nil => exact q.elim
    | cons h tl =>
      refine ⟨_, _, rfl, G, M, s, _, _, r, sl, h, q, fun s1 M1 G1 H1 σ1 p1 sl1 o1 q1 => ?_⟩
      exact ⟨G1, M1, s1, _, R, p1.rep, sl1, tl.mono p1.ge, q1, fun s2 M2 G2 H2 σ2 p2 sl2 o2 q2 => c s2 M2 G2 H2 σ2 (p1.trans p2) sl2 ((o1.more fun i z => List.mem_append_left _ z).trans (o2.more fun i z => List.mem_append_right _ z)) q2⟩⟩
theorem dg_tup {k : Nat} {t : DTGs} {n : Nat} {vs : List Nat} (hc : X.calm = true) (h : DGs X es t vs) (hl : ∀ ds s M Q, t ds s M Q → ds.length = n := by intro ds s M Q h; first | (rcases ds with _ | ⟨_, _ | ⟨_, _ | ⟨_, _ | ⟨_, _ | ⟨_, _⟩⟩⟩⟩⟩ <;> first | rfl | exact h.elim))
    (hn : (assignEach es X.env).length = n := by rfl) (hst : (assignEach es X.env).findIdx? (·.1) = none := by rfl) : DG X (.Tuple es k pos) (dgTup t) vs :=
  ⟨pg_imp (pg_tup hc h.pgs hn hst) fun v σ H Q z => by
    obtain ⟨G, M, s, d, R, r, sl, av, q, c⟩ := z
    cases av <;> first | exact q.elim | skip
    rename_i ad ws xs h r'
    exact ⟨ad, ws, rfl, .inl (r.ge.rd _ _ h), by rw [← r'.length]; exact hl _ _ _ _ q, G, M, s, xs, R, r, sl, r', q, c⟩⟩
/-- target = value -/
abbrev dAsg (te : DTE) (g : DTG) : DTS := fun D s M => te s M fun x M1 => g x s M1 D.nx
theorem low_asg {g : DTG} {vs : List Nat} {E : Ends} {σ : L2.St} {H : Hp} (h : lowS (dAsg te g) E σ H) : tAsg (low te) (lowG g vs) E σ H := by
  obtain ⟨G, M, s, D, r, sl, q, c⟩ := h
  exact ⟨G, M, s, _, r, sl, q, fun x M1 G1 H1 v s1 a1 q1 => ⟨G1, M1, s, x, D.nx, s1.rep, smono s1.ge sl, a1, q1, fun s2 M2 G2 H2 σ2 p2 sl2 _ q2 => c.nx s2 M2 G2 H2 σ2 (s1.trans p2) sl2 q2⟩⟩
theorem ds_asg {tg : Expr} {g : DTG} {vs : List Nat} (he : DE X e te) (hg : DG X tg g vs) (hs : swapsWithSole [tg] e pos.line X.env = pure false := by rfl) (hw : swappedStores [tg] e X.env = pure none := by rfl)
    (h1 : (assignEach [tg] X.env).map (·.2) = [assign tg X.env] := by rfl) : DS X (.Assign [tg] e pos) (dAsg te g) := ⟨ps_imp (ps_asg he.pe hg.pg hs hw h1) fun _ _ _ => low_asg⟩
abbrev dSet (i : Nat) (te : DTE) : DTS := fun D s M => te s M fun x M1 => D.nx (setN s i x) M1
theorem ds_set (i : Nat) {x : Str} {pos' : Pos} (hN : X.N.Nodup) (he : DE X e te) (hi : X.N[i]? = some x := by rfl) (hx : Loc X.env.scope x := by first | exact Or.inl rfl | exact Or.inr rfl) (hs : swapsWith e (some (.Name x pos')) pos.line X.env = pure false := by rfl)
    (hf : X.fn x = true ∨ X.env.scope.names.lookup x = some .local := by first | exact .inl rfl | exact .inr rfl | assumption) : DS X (.Assign [.Name x pos'] e pos) (dSet i te) :=
  ⟨ps_imp (ps_set hN hi hx he.pe hs hf) fun E σ H ⟨G, M, s, D, r, sl, q, c⟩ => ⟨G, M, s, _, r, sl, q, fun x M1 G1 H1 v s1 a1 q1 => c.nx _ M1 G1 H1 _ s1 (slots_set a1 (smono s1.ge sl)) q1⟩⟩
/-- a, b = e1, e2 with plain local names -/
abbrev dPar (i j : Nat) (t : DTA) : DTS := fun D s M => t s M fun xs M1 => match xs with
  | [v, w] => D.nx (setN (setN s i v) j w) M1
  | _ => False
theorem ds_par (i j : Nat) {x y : Str} {px py pt : Pos} {kt k2 pt2} (hc : X.calm = true) (hN : X.N.Nodup) (ha : DA X [a, b] t) (hi : X.N[i]? = some x := by rfl) (hj : X.N[j]? = some y := by rfl) (hij : i ≠ j := by decide)
    (hx : X.env.scope.names.lookup x = some .local := by rfl) (hy : X.env.scope.names.lookup y = some .local := by rfl)
    (hw : swappedStores [.Tuple [.Name x px, .Name y py] kt pt] (.Tuple [a, b] k2 pt2) X.env = pure (some [x, y]) := by rfl)
    (hs : swapsWithSole [.Tuple [.Name x px, .Name y py] kt pt] (.Tuple [a, b] k2 pt2) pos.line X.env = pure false := by rfl) :
    DS X (.Assign [.Tuple [.Name x px, .Name y py] kt pt] (.Tuple [a, b] k2 pt2) pos) (dPar i j t) :=
  ⟨ps_imp (ps_par hc hN hi hj hij hx hy ha.pa hw hs) fun E σ H ⟨G, M, s, D, r, sl, q, c⟩ => ⟨G, M, s, _, r, sl, q, fun xs M1 G1 H1 vs s1 a1 q1 => by
    obtain ⟨v, w, rfl⟩ : ∃ v w, xs = [v, w] := by
      rcases xs with _ | ⟨v, _ | ⟨w, _ | _⟩⟩ <;> first | exact q1.elim | exact ⟨_, _, rfl⟩
    obtain ⟨v', w', rfl, h1, h2⟩ := a1.two
    exact ⟨v', w', rfl, c.nx _ M1 G1 H1 _ s1 (slots_set h2 (slots_set h1 (smono s1.ge sl))) q1⟩⟩⟩
end
end D

set_option Elab.async false
set_option linter.all false
set_option maxRecDepth 100000
/-! D3: what is walked, for, while, comprehensions. -/
namespace D
open PySem PySem.Spec PyProof.Rows L2

/-- a frozen dict is locked for good -/
theorem Stp.lock {G : Hp} {M : MM} {H : Hp} {d : Addr} {u : HO} {o : Obj} (r : Rep G M H) (g : Rd G d u) (nf : ∀ w v, u ≠ .frz w v) (hu : hard u = false) (hd : H d = some u ∨ H d = some (.frz o u)) :
    Stp G M H (upd G d (.frz o u)) M (upd H d (.frz o u)) := by
  have hg : G d = some u ∨ G d = some (.frz o u) := by
    rcases g with g | ⟨w, g⟩
    · exact .inl g
    · have z := r.fz d w u g
      rcases hd with q | q
      · rw [q] at z; exact absurd (Option.some.inj z) (nf _ _)
      · rw [q] at z; cases z; exact .inr g
  have hm : M d = none := by
    cases e : M d with
    | none => rfl
    | some m =>
      have z := (r.mu d m e).1
      rcases hg with q | q <;> rw [q] at z <;> cases z
  have only : ∀ w, Rd G d w → w = u ∨ w = .frz o u := fun w q => by
    rcases hg with e | e <;> rcases q with q | ⟨x, q⟩
    · rw [e] at q; exact .inl (Option.some.inj q).symm
    · rw [e] at q; exact absurd (Option.some.inj q) (nf _ _)
    · rw [e] at q; exact .inr (Option.some.inj q).symm
    · rw [e] at q; cases q; exact .inl rfl
  have rd1 : ∀ (K : Hp) w, w = u ∨ w = .frz o u → Rd (upd K d (.frz o u)) d w := fun K w z => by
    rcases z with rfl | rfl
    · exact .inr ⟨o, upd_same⟩
    · exact .inl upd_same
  have rdn : ∀ (K : Hp) c w, c ≠ d → (Rd (upd K d (.frz o u)) c w ↔ Rd K c w) := fun K c w hc => by
    unfold Rd; rw [upd_ne hc]
  have hardf : ∀ w, hard w = true → w ≠ .frz o u := fun w h z => by subst z; cases h
  have hardu : ∀ w, hard w = true → w ≠ u := fun w h z => by subst z; rw [hu] at h; cases h
  refine ⟨⟨fun c w q => ?_, fun c w p q => ?_⟩, fun c w v q => ?_, ⟨⟨fun c w q => ?_, fun c w p q => ?_⟩, fun c w v q => ?_, fun c m q => ?_⟩, fun c w _ h1 h2 h3 => ?_⟩
  · by_cases hc : c = d
    · subst hc; exact rd1 G w (only w q)
    · exact (rdn G c w hc).mpr q
  · have hc : c ≠ d := fun e => by
      subst e
      rcases only w (.inl q) with z | z
      · exact hardu w p z
      · exact hardf w p z
    rw [upd_ne hc]; exact q
  · by_cases hc : c = d
    · subst hc
      have : w = o ∧ v = u := by
        rcases hg with e | e <;> rw [e] at q <;> cases q
        · exact absurd rfl (nf _ _)
        · exact ⟨rfl, rfl⟩
      rw [this.1, this.2]; exact upd_same
    · rw [upd_ne hc]; exact q
  · by_cases hc : c = d
    · subst hc
      rcases q with q | ⟨x, q⟩
      · rw [upd_same] at q; cases q; exact .inl upd_same
      · rw [upd_same] at q; cases q; exact .inr ⟨_, upd_same⟩
    · exact (rdn H c w hc).mpr (r.ge.rd c w ((rdn G c w hc).mp q))
  · have hc : c ≠ d := fun e => by
      subst e
      rw [upd_same] at q
      exact hardf w p (Option.some.inj q).symm
    rw [upd_ne hc] at q ⊢; exact r.ge.hd c w p q
  · by_cases hc : c = d
    · subst hc
      rw [upd_same] at q ⊢; exact q
    · rw [upd_ne hc] at q ⊢; exact r.fz c w v q
  · have hc : c ≠ d := fun e => by subst e; rw [hm] at q; cases q
    obtain ⟨h1, y, h2, h3⟩ := r.mu c m q
    refine ⟨by rw [upd_ne hc]; exact h1, y, by rw [upd_ne hc]; exact h2, h3.mono ⟨fun b w q' => ?_, fun b w p q' => ?_⟩⟩
    · by_cases hb : b = d
      · subst hb; exact rd1 G w (only w q')
      · exact (rdn G b w hb).mpr q'
    · have hb : b ≠ d := fun e => by
        subst e
        rcases only w (.inl q') with z | z
        · exact hardu w p z
        · exact hardf w p z
      rw [upd_ne hb]; exact q'
  · have hc : c ≠ d := fun e => by
      subst e
      rcases hg with z | z <;> rw [h2] at z <;> cases z
    rw [upd_ne hc, upd_ne hc]; exact ⟨h1, h2, h3⟩

/-! ### what is walked -/
/-- J yields the items xs, from any later state -/
def Walks (J : It) (xs : List DV) (G : Hp) (M : MM) (H : Hp) : Prop :=
  ∀ i G1 M1 H1, Stp G M H G1 M1 H1 → (∀ x, xs[i]? = some x → J.go i H1 ∧ ∀ v H2, J.yld i H1 v H2 → ∃ G2, Stp G1 M1 H1 G2 M1 H2 ∧ At G2 x v) ∧ (xs.length ≤ i → J.stop i H1)
abbrev DTI := DSt → MM → (List DV → MM → Prop) → Prop
def lowI (t : DTI) : TI := fun σ H R => ∃ (G : Hp) (M : MM) (s : DSt) (Q : List DV → MM → Prop), Rep G M H ∧ Slots G s σ ∧ t s M Q ∧ ∀ xs M' G' H' J, Stp G M H G' M' H' → Walks J xs G' M' H' → Q xs M' → R J H'
structure DI (X : Cx) (tg iter : Expr) (t : DTI) : Prop where
  pi : PI X tg iter (lowI t)
def keyD : Key → DV
  | .inl i => .int i
  | .inr x => .str x
theorem at_key {G : Hp} (k : Key) : At G (keyD k) (kV k) := by
  cases k with
  | inl i => exact .int i
  | inr x => exact .str x
section
variable {X : Cx} {G : Hp} {M : MM} {H : Hp} {a : Addr} {vs : List V} {xs : List DV}
theorem walks_lst {K : PySem.W.Frag} (h : Rd G a (.lst vs)) (q : AtL G xs vs) : Walks (Itl K a) xs G M H := fun i G1 M1 H1 p => by
  have rd : SqL K H1 a vs := .inl (p.rep.ge.rd _ _ (p.ge.rd _ _ h))
  refine ⟨fun x e => ?_, fun hi => ⟨vs, rd, by rw [← q.length]; exact hi⟩⟩
  obtain ⟨v, ev, av⟩ := q.get e
  refine ⟨⟨vs, v, rd, ev⟩, fun v' H2 ⟨e2, y⟩ => ?_⟩
  subst e2
  have z := y vs rd
  rw [ev] at z; cases z
  exact ⟨G1, Stp.refl p.rep, av.mono p.ge⟩
theorem walks_tup {K : PySem.W.Frag} (h : Rd G a (.tup vs)) (q : AtL G xs vs) : Walks (Itt K a) xs G M H := fun i G1 M1 H1 p => by
  have rd : SqT K H1 a vs := .inl (p.rep.ge.rd _ _ (p.ge.rd _ _ h))
  refine ⟨fun x e => ?_, fun hi => ⟨vs, rd, by rw [← q.length]; exact hi⟩⟩
  obtain ⟨v, ev, av⟩ := q.get e
  refine ⟨⟨vs, v, rd, ev⟩, fun v' H2 ⟨e2, y⟩ => ?_⟩
  subst e2
  have z := y vs rd
  rw [ev] at z; cases z
  exact ⟨G1, Stp.refl p.rep, av.mono p.ge⟩
/-- the signs of a text -/
def signsD (z : Str) : List DV := z.cps.toList.map fun c => .str ⟨#[c]⟩
theorem walks_str {z : Str} : Walks (Its z) (signsD z) G M H := fun i G1 M1 H1 p => by
  refine ⟨fun x e => ?_, fun hi => ?_⟩
  · unfold signsD at e
    rw [List.getElem?_map] at e
    cases q : z.cps.toList[i]? with
    | none => rw [q] at e; cases e
    | some c =>
      rw [q] at e; cases e
      have hi : i < z.cps.size := by
        have := (List.getElem?_eq_some_iff.mp q).1
        simpa using this
      refine ⟨hi, fun v H2 ⟨e2, c', ec, ev⟩ => ?_⟩
      subst e2 ev
      have : c' = c := by
        rw [Array.getElem?_toList] at q
        rw [q] at ec; exact (Option.some.inj ec).symm
      subst this
      exact ⟨G1, Stp.refl p.rep, .str _⟩
  · unfold signsD at hi
    rw [List.length_map] at hi
    show z.cps.size ≤ i
    simpa using hi
theorem walks_range {lo : Int} {n : Nat} : Walks (Itr lo n) ((List.range n).map fun i => .int (lo + (i : Nat))) G M H := fun i G1 M1 H1 p => by
  refine ⟨fun x e => ?_, fun hi => (show n ≤ i by simpa using hi)⟩
  rw [List.getElem?_map] at e
  cases q : (List.range n)[i]? with
  | none => rw [q] at e; cases e
  | some c =>
    rw [q] at e; cases e
    have hi := (List.getElem?_eq_some_iff.mp q)
    obtain ⟨h1, h2⟩ := hi
    rw [List.getElem_range] at h2
    subst h2
    refine ⟨(show i < n by simpa using h1), fun v H2 ⟨e2, ev⟩ => ?_⟩
    subst e2 ev
    exact ⟨G1, Stp.refl p.rep, .int _⟩
theorem get_fst {κ : Type} {ks : List (κ × DV)} {kvs : List (κ × V)} (e : ks.map Prod.fst = kvs.map Prod.fst) {i : Nat} {k : κ} {v : V} (h : kvs[i]? = some (k, v)) : ∃ d, ks[i]? = some (k, d) := by
  have z : (ks.map Prod.fst)[i]? = some k := by rw [e, List.getElem?_map, h]; rfl
  rw [List.getElem?_map] at z
  cases q : ks[i]? with
  | none => rw [q] at z; cases z
  | some p =>
    rw [q] at z
    obtain ⟨k', d⟩ := p
    cases z
    exact ⟨d, rfl⟩
theorem get_snd {κ : Type} {ks : List (κ × DV)} {kvs : List (κ × V)} (e : ks.map Prod.fst = kvs.map Prod.fst) (r : AtL G (ks.map Prod.snd) (kvs.map Prod.snd)) {i : Nat} {k : κ} {d : DV} (h : ks[i]? = some (k, d)) : ∃ v, kvs[i]? = some (k, v) ∧ At G d v := by
  have z : (ks.map Prod.snd)[i]? = some d := by rw [List.getElem?_map, h]; rfl
  obtain ⟨v, ev, av⟩ := r.get z
  have y : (kvs.map Prod.fst)[i]? = some k := by rw [← e, List.getElem?_map, h]; rfl
  rw [List.getElem?_map] at ev y
  cases q : kvs[i]? with
  | none => rw [q] at ev; cases ev
  | some p =>
    obtain ⟨k', v'⟩ := p
    rw [q] at ev y
    cases ev; cases y
    exact ⟨_, rfl, av⟩
theorem len_fst {κ : Type} {ks : List (κ × DV)} {kvs : List (κ × V)} (e : ks.map Prod.fst = kvs.map Prod.fst) : ks.length = kvs.length := by
  have := congrArg List.length e
  simpa using this
section
variable {d : Addr} {o : Obj}
theorem frz_keep {u : HO} (h : G d = some (.frz o u)) {G1 : Hp} {M1 : MM} {H1 : Hp} (p : Stp G M H G1 M1 H1) : H1 d = some (.frz o u) := p.rep.fz _ _ _ (p.fz _ _ _ h)
variable {ks : List (Key × DV)} {kvs : List (Key × V)}
theorem walks_keys (h : G d = some (.frz o (.dK kvs))) (e : ks.map Prod.fst = kvs.map Prod.fst) : Walks (Itk d o kvs) (ks.map fun p => keyD p.1) G M H := fun i G1 M1 H1 p => by
  refine ⟨fun x ex => ?_, fun hi => ⟨frz_keep h p, by rw [← len_fst e]; simpa using hi⟩⟩
  rw [List.getElem?_map] at ex
  cases q : ks[i]? with
  | none => rw [q] at ex; cases ex
  | some y =>
    obtain ⟨k, w⟩ := y
    rw [q] at ex; cases ex
    have hl : i < kvs.length := by rw [← len_fst e]; exact (List.getElem?_eq_some_iff.mp q).1
    refine ⟨⟨frz_keep h p, hl⟩, fun v H2 ⟨e2, k', v', ek, ev⟩ => ?_⟩
    subst e2 ev
    obtain ⟨w', ew⟩ := get_fst e ek
    rw [q] at ew; cases ew
    exact ⟨G1, Stp.refl p.rep, at_key _⟩
theorem walks_vals (h : G d = some (.frz o (.dK kvs))) (e : ks.map Prod.fst = kvs.map Prod.fst) (r : AtL G (ks.map Prod.snd) (kvs.map Prod.snd)) : Walks (Itd d o kvs) (ks.map Prod.snd) G M H := fun i G1 M1 H1 p => by
  refine ⟨fun x ex => ?_, fun hi => ⟨frz_keep h p, by rw [← len_fst e]; simpa using hi⟩⟩
  rw [List.getElem?_map] at ex
  cases q : ks[i]? with
  | none => rw [q] at ex; cases ex
  | some y =>
    obtain ⟨k, w⟩ := y
    rw [q] at ex; cases ex
    have hl : i < kvs.length := by rw [← len_fst e]; exact (List.getElem?_eq_some_iff.mp q).1
    refine ⟨⟨frz_keep h p, hl⟩, fun v H2 ⟨e2, k', ek⟩ => ?_⟩
    subst e2
    obtain ⟨v', ev, av⟩ := get_snd e r q
    rw [ek] at ev; cases ev
    exact ⟨G1, Stp.refl p.rep, av.mono p.ge⟩
theorem walks_items (h : G d = some (.frz o (.dK kvs))) (e : ks.map Prod.fst = kvs.map Prod.fst) (r : AtL G (ks.map Prod.snd) (kvs.map Prod.snd)) : Walks (Iti d o kvs) (ks.map fun p => .tup [keyD p.1, p.2]) G M H := fun i G1 M1 H1 p => by
  refine ⟨fun x ex => ?_, fun hi => ⟨frz_keep h p, by rw [← len_fst e]; simpa using hi⟩⟩
  rw [List.getElem?_map] at ex
  cases q : ks[i]? with
  | none => rw [q] at ex; cases ex
  | some y =>
    obtain ⟨k, w⟩ := y
    rw [q] at ex; cases ex
    have hl : i < kvs.length := by rw [← len_fst e]; exact (List.getElem?_eq_some_iff.mp q).1
    refine ⟨⟨frz_keep h p, hl⟩, fun v H2 ⟨T, k', v', ek, ev, hT, eH⟩ => ?_⟩
    subst ev eH
    obtain ⟨v2, ev2, av⟩ := get_snd e r q
    rw [ek] at ev2
    obtain ⟨rfl, rfl⟩ : k' = k ∧ v' = v2 := by cases ev2; exact ⟨rfl, rfl⟩
    have z := Stp.newF (o := .tup [kV k', v']) p.rep hT nofz_tup
    exact ⟨_, z, .tup (.inl upd_same) (.cons (at_key _) (.cons (av.mono (p.ge.trans z.ge)) .nil))⟩
end
theorem at_keys {G : Hp} : ∀ (ks : List Key), AtL G (ks.map keyD) (ks.map kV)
  | [] => .nil
  | k :: ks => .cons (at_key k) (at_keys ks)
end
/-- any tuple that stands may be taken for frozen -/
theorem Stp.tupIn {G : Hp} {M : MM} {H : Hp} (r : Rep G M H) {q : Addr} {xs : List V} (h : H q = some (.tup xs)) : ∃ G2, Stp G M H G2 M H ∧ Rd G2 q (.tup xs) := by
  cases e : G q with
  | some o =>
    refine ⟨G, Stp.refl r, ?_⟩
    rcases r.ge.rd q o (.inl e) with z | ⟨w, z⟩
    · rw [h] at z; cases z; exact .inl e
    · rw [h] at z; cases z
  | none =>
    have hm : M q = none := by
      cases em : M q with
      | none => rfl
      | some m =>
        obtain ⟨_, o, ho, ma⟩ := r.mu q m em
        rw [h] at ho; cases ho; cases ma
    have eq : upd H q (.tup xs) = H := by
      funext c
      by_cases hc : c = q
      · subst hc; rw [upd_same, h]
      · rw [upd_ne hc]
    refine ⟨upd G q (.tup xs), ⟨Ge.neu e, fun c w u z => ?_, ⟨?_, fun c w u z => ?_, fun c m z => ?_⟩, fun c o hn h1 h2 h3 => ?_⟩, .inl upd_same⟩
    · have hc : c ≠ q := fun k => by subst k; rw [e] at z; cases z
      rw [upd_ne hc]; exact z
    · have z := r.ge.neu2 (a := q) (o := .tup xs) nofz_tup
      rw [eq] at z; exact z
    · by_cases hc : c = q
      · subst hc; rw [upd_same] at z; cases z
      · rw [upd_ne hc] at z; exact r.fz c w u z
    · have hc : c ≠ q := fun k => by subst k; rw [hm] at z; cases z
      obtain ⟨h1, o, h2, h3⟩ := r.mu c m z
      exact ⟨by rw [upd_ne hc]; exact h1, o, h2, h3.mono (Ge.neu e)⟩
    · have hc : c ≠ q := fun k => by subst k; rw [h] at h1; cases h1; exact hn _ rfl
      rw [upd_ne hc]; exact ⟨h1, h2, h3⟩

theorem walks_keysT {G : Hp} {M : MM} {H : Hp} {d : Addr} {o : Obj} {ks : List (List Key × DV)} {kvs : List (List Key × V)} (h : G d = some (.frz o (.dT kvs))) (e : ks.map Prod.fst = kvs.map Prod.fst) : Walks (Itkt d o kvs) (ks.map fun p => .tup (p.1.map keyD)) G M H := fun i G1 M1 H1 p => by
  refine ⟨fun x ex => ?_, fun hi => ⟨frz_keep h p, by rw [← len_fst e]; simpa using hi⟩⟩
  rw [List.getElem?_map] at ex
  cases q : ks[i]? with
  | none => rw [q] at ex; cases ex
  | some y =>
    obtain ⟨k, w⟩ := y
    rw [q] at ex; cases ex
    have hl : i < kvs.length := by rw [← len_fst e]; exact (List.getElem?_eq_some_iff.mp q).1
    refine ⟨⟨frz_keep h p, hl⟩, fun v H2 ⟨e2, k', v', q', ek, ev, hq⟩ => ?_⟩
    subst e2 ev
    obtain ⟨w', ew⟩ := get_fst e ek
    rw [q] at ew; cases ew
    obtain ⟨G2, s2, rd⟩ := Stp.tupIn p.rep hq
    exact ⟨G2, s2, .tup rd (at_keys _)⟩
end D

set_option Elab.async false
set_option linter.all false
set_option maxRecDepth 100000
/-! D4: iterables, for, while. -/
namespace D
open PySem PySem.Spec PyProof.Rows L2
section
variable {X : Cx} {pos : Pos} {tg e iter : Expr} {te : DTE}

/-- a frozen value that is walked: a list, a tuple, a text, a dict by its keys -/
abbrev dItv (te : DTE) : DTI := fun s M Q => te s M fun x M1 => match x with
  | .lst xs => Q xs M1
  | .tup xs => Q xs M1
  | .str z => Q (signsD z) M1
  | .dK ks => Q (ks.map fun p => keyD p.1) M1
  | .dT ks => Q (ks.map fun p => .tup (p.1.map keyD)) M1
  | _ => False
/-- the lock of a frozen dict, whatever it was -/
theorem lockD {pins : List (Addr × Obj)} {σ : L2.St} {G : Hp} {M : MM} {H : Hp} {s : Shared} {d : Addr} {u : HO} (I : Inv X pins σ H s) (r : Rep G M H) (g : Rd G d u) (nf : ∀ w v, u ≠ .frz w v) (hu : hard u = false) (mu : Mut (some u)) :
    ∃ o, Inv X pins σ (upd H d (.frz o u)) s ∧ Stp G M H (upd G d (.frz o u)) M (upd H d (.frz o u)) := by
  rcases r.ge.rd _ _ g with h | ⟨o, h⟩
  · obtain ⟨o, I2⟩ := I.lock h mu
    exact ⟨o, I2, Stp.lock r g nf hu (.inl h)⟩
  · refine ⟨o, ?_, Stp.lock r g nf hu (.inr h)⟩
    have : upd H d (.frz o u) = H := by
      funext c
      by_cases hc : c = d
      · subst hc; rw [upd_same, h]
      · rw [upd_ne hc]
    rw [this]; exact I
theorem di_any (h : DE X e te) : DI X tg e (dItv te) := by
  refine ⟨⟨fun pins s σ H R I hw => ?_⟩⟩
  obtain ⟨G, M, st, Q, r, sl, q, c⟩ := hw
  refine thn (h.pe.run pins s σ H (fun v H1 => ∃ G1 M1 x, Stp G M H G1 M1 H1 ∧ At G1 x v ∧ (match x with
    | .lst xs => Q xs M1
    | .tup xs => Q xs M1
    | .str z => Q (signsD z) M1
    | .dK ks => Q (ks.map fun p => keyD p.1) M1
    | .dT ks => Q (ks.map fun p => .tup (p.1.map keyD)) M1
    | _ => False)) I ⟨G, M, st, _, r, sl, q, fun d M' G' H' v p a q => ⟨G', M', d, p, a, q⟩⟩) fun u s1 ⟨v, H1, I1, r1, G1, M1, x, p1, a1, q1⟩ => ?_
  cases a1 <;> try exact q1.elim
  · rename_i z
    obtain ⟨t, rfl⟩ := r1
    have q2 := c _ M1 G1 H1 (Its z) p1 walks_str q1
    cases ha : z.cps.all (· < 128)
    · exact wpAny_pyIter_wide ha (pi_one (tk := s1.toks) I1 _ (turn_str _ z t "str_iterator" (.inr rfl)) ⟨_, Heap.get?_push_size _ rfl, rfl, rfl⟩ q2)
    · exact wpAny_pyIter_ascii ha (pi_one (tk := s1.toks) I1 _ (turn_str _ z t "str_ascii_iterator" (.inl rfl)) ⟨_, Heap.get?_push_size _ rfl, rfl, rfl⟩ q2)
  · rename_i a vs xs hr hq
    obtain rfl : u = Value.ref a := r1
    obtain ⟨its, rv, p, hz⟩ := I1.list (.inl (p1.rep.ge.rd _ _ hr))
    exact wpAny_pyIter_list p.isList (pi_one (tk := s1.toks) I1 _ (turn_list a _) ⟨_, Heap.get?_push_size _ rfl, rfl, rfl⟩ (c _ M1 G1 H1 _ p1 (walks_lst hr hq) q1))
  · rename_i a vs xs hr hq
    obtain rfl : u = Value.ref a := r1
    obtain ⟨its, rv, p, hz⟩ := I1.tuple (.inl (p1.rep.ge.rd _ _ hr))
    exact wpAny_pyIter_tuple (show s1.heap.IsTuple a its.toArray from p) (pi_one (tk := s1.toks) I1 _ (turn_tuple a _) ⟨_, Heap.get?_push_size _ rfl, rfl, rfl⟩ (c _ M1 G1 H1 _ p1 (walks_tup hr hq) q1))
  · rename_i d kvs ks hr he hq
    obtain rfl : u = Value.ref d := r1
    obtain ⟨o, I2, p2⟩ := lockD I1 p1.rep hr nofz_dK rfl trivial
    obtain ⟨hs, hgd, hx, es, ep, vs, hdt, hsz, kv, hm⟩ := I2.frzK upd_same
    refine iter_keys hs hgd hx hdt (pi_one (tk := s1.toks) I2 _ (turn_keys _ hdt) ⟨_, Heap.get?_push_size _ rfl, rfl, ?_⟩ (c _ M1 _ _ _ (p1.trans p2) (walks_keys upd_same he) q1))
    rw [hsz] <;> rfl
  · rename_i d kvs ks hr he hq
    obtain rfl : u = Value.ref d := r1
    obtain ⟨o, I2, p2⟩ := lockD I1 p1.rep hr nofz_dT rfl trivial
    obtain ⟨hs, hgd, hx, es, ep, hdt, hsz, ent⟩ := I2.frzT upd_same
    refine iter_keys hs hgd hx hdt (pi_one (tk := s1.toks) I2 _ (turn_keysT _ hdt) ⟨_, Heap.get?_push_size _ rfl, rfl, ?_⟩ (c _ M1 _ _ _ (p1.trans p2) (walks_keysT upd_same he) q1))
    rw [hsz] <;> rfl
/-- an expression that gives a frozen dict, locked -/
def tLkd (t : DTE) : TE := fun σ H Q => ∃ (G : Hp) (M : MM) (s : DSt) (R : List (Key × DV) → MM → Prop), Rep G M H ∧ Slots G s σ ∧ (t s M fun x M1 => match x with
  | .dK ks => R ks M1
  | _ => False) ∧ ∀ (d : Addr) (o : Obj) (ks : List (Key × DV)) (kvs : List (Key × V)) (M' : MM) (G' H' : Hp), Stp G M H G' M' H' →
  G' d = some (.frz o (.dK kvs)) → ks.map Prod.fst = kvs.map Prod.fst → AtL G' (ks.map Prod.snd) (kvs.map Prod.snd) → R ks M' → Q (.ref d) H'
theorem pe_lkd (h : DE X e te) : PE X e (tLkd te) := by
  refine ⟨fun pins s σ H Q I hw => ?_⟩
  obtain ⟨G, M, st, R, r, sl, q, c⟩ := hw
  refine thn (h.pe.run pins s σ H (fun v H1 => ∃ G1 M1 ks, Stp G M H G1 M1 H1 ∧ At G1 (.dK ks) v ∧ R ks M1) I ⟨G, M, st, _, r, sl, q, fun d M' G' H' v p a q => by
    cases d <;> first | exact q.elim | exact ⟨G', M', _, p, a, q⟩⟩) fun u s1 ⟨v, H1, I1, r1, G1, M1, ks, p1, a1, q1⟩ => ?_
  cases a1
  rename_i d kvs hr he hq
  obtain rfl : u = Value.ref d := r1
  obtain ⟨o, I2, p2⟩ := lockD I1 p1.rep hr nofz_dK rfl trivial
  exact ⟨.ref d, _, I2, rfl, c d o ks kvs M1 _ _ (p1.trans p2) upd_same he (hq.mono p2.ge) q1⟩
abbrev dItems (te : DTE) : DTI := fun s M Q => te s M fun x M1 => match x with
  | .dK ks => Q (ks.map fun p => .tup [keyD p.1, p.2]) M1
  | _ => False
abbrev dVals (te : DTE) : DTI := fun s M Q => te s M fun x M1 => match x with
  | .dK ks => Q (ks.map Prod.snd) M1
  | _ => False
theorem pi_imp {t t' : TI} (h : PI X tg iter t) (i : ∀ σ H R, t' σ H R → t σ H R) : PI X tg iter t' := ⟨fun p s σ H R I q => h.run p s σ H R I (i σ H R q)⟩
theorem di_items {elts : List Expr} {kk : Nat} {tpos apos cpos : Pos} (h : DE X e te) (hbase : attributeBase e "items" X.env (eval e X.env) = eval e X.env := by rfl) (hline : (apos.endLine == cpos.line) = true := by rfl) :
    DI X (.Tuple elts kk tpos) (.Call (.Attribute e "items" apos) [] [] cpos) (dItems te) :=
  ⟨pi_imp (pi_items (pe_lkd h) hbase hline) fun σ H R ⟨G, M, s, Q, r, sl, q, c⟩ => ⟨G, M, s, fun ks M1 => Q (ks.map fun p => .tup [keyD p.1, p.2]) M1, r, sl, q, fun d o ks kvs M1 G1 H1 p hd he hq q1 =>
    ⟨d, o, kvs, rfl, p.rep.fz _ _ _ hd, c _ M1 G1 H1 _ p (walks_items hd he hq) q1⟩⟩⟩
theorem di_values {apos cpos : Pos} (h : DE X e te) (hbase : attributeBase e "values" X.env (eval e X.env) = eval e X.env := by rfl) (hline : (apos.endLine == cpos.line) = true := by rfl) :
    DI X tg (.Call (.Attribute e "values" apos) [] [] cpos) (dVals te) :=
  ⟨pi_imp (pi_values (pe_lkd h) hbase hline) fun σ H R ⟨G, M, s, Q, r, sl, q, c⟩ => ⟨G, M, s, fun ks M1 => Q (ks.map Prod.snd) M1, r, sl, q, fun d o ks kvs M1 G1 H1 p hd he hq q1 =>
    ⟨d, o, kvs, rfl, p.rep.fz _ _ _ hd, c _ M1 G1 H1 _ p (walks_vals hd he hq) q1⟩⟩⟩
/-- range -/
def rangeD (lo : Int) (n : Nat) : List DV := (List.range n).map fun i => .int (lo + (i : Nat))
abbrev dRng1 (t : DTA) : DTI := fun s M Q => t s M fun xs M1 => match xs with
  | [.int j] => (-(2 ^ 62) ≤ j ∧ j < 2 ^ 62) ∧ Q (rangeD 0 j.toNat) M1
  | _ => False
abbrev dRng2 (t : DTA) : DTI := fun s M Q => t s M fun xs M1 => match xs with
  | [.int i, .int j] => (-(2 ^ 62) ≤ i ∧ i < 2 ^ 62 ∧ -(2 ^ 62) ≤ j ∧ j < 2 ^ 62) ∧ Q (rangeD i (j - i).toNat) M1
  | _ => False
theorem di_range1 {a : Expr} {t : DTA} {p : Pos} (hg : Gl X "range") (hm : X.mg "range" = none) (ha : DA X [a] t) (hs : starEach [a] X.env = [(false, eval a X.env)] := by rfl) : DI X tg (.Call (.Name "range" p) [a] [] pos) (dRng1 t) :=
  ⟨pi_imp (pi_range1 hg hm ha.pa hs) fun σ H R ⟨G, M, s, Q, r, sl, q, c⟩ => ⟨G, M, s, _, r, sl, q, fun xs M1 G1 H1 vs p1 a1 q1 => by
    obtain ⟨j, rfl⟩ : ∃ j, xs = [.int j] := by
      rcases xs with _ | ⟨x, _ | _⟩
      · exact q1.elim
      · cases x <;> first | exact ⟨_, rfl⟩ | exact q1.elim
      · cases x <;> exact q1.elim
    obtain ⟨v, rfl, h1⟩ := a1.one
    cases h1
    exact ⟨j, rfl, q1.1.1, q1.1.2, c _ M1 G1 H1 _ p1 walks_range q1.2⟩⟩⟩
theorem di_range2 {a b : Expr} {t : DTA} {p : Pos} (hg : Gl X "range") (hm : X.mg "range" = none) (ha : DA X [a, b] t) (hs : starEach [a, b] X.env = [(false, eval a X.env), (false, eval b X.env)] := by rfl) (hs2 : starEach [b] X.env = [(false, eval b X.env)] := by rfl) :
    DI X tg (.Call (.Name "range" p) [a, b] [] pos) (dRng2 t) :=
  ⟨pi_imp (pi_range2 hg hm ha.pa hs hs2) fun σ H R ⟨G, M, s, Q, r, sl, q, c⟩ => ⟨G, M, s, _, r, sl, q, fun xs M1 G1 H1 vs p1 a1 q1 => by
    obtain ⟨i, j, rfl⟩ : ∃ i j, xs = [.int i, .int j] := by
      rcases xs with _ | ⟨x, _ | ⟨y, _ | _⟩⟩
      · exact q1.elim
      · cases x <;> exact q1.elim
      · cases x <;> first | exact q1.elim | (cases y <;> first | exact ⟨_, _, rfl⟩ | exact q1.elim)
      · cases x <;> first | exact q1.elim | (cases y <;> exact q1.elim)
    obtain ⟨v, u, rfl, h1, h2⟩ := a1.two
    cases h1; cases h2
    exact ⟨i, j, rfl, q1.1, c _ M1 G1 H1 _ p1 walks_range q1.2⟩⟩⟩

/-! ### for -/
variable {t : DTA} {g : DTG} {tb : DTS} {ti : DTI} {body : List Stmt}
/-- I: the invariant by the turn -/
abbrev dFor (ti : DTI) (g : DTG) (tb : DTS) : DTS := fun D s M => ti s M fun xs M1 => ∃ I : Nat → DSt → MM → Prop, I 0 s M1 ∧ ∀ i s2 M2, i ≤ xs.length → I i s2 M2 → match xs[i]? with
  | some x => g x s2 M2 fun s3 M3 => tb { D with nx := I (i + 1), ct := I (i + 1), bk := D.nx } s3 M3
  | none => D.nx s2 M2
theorem ds_for {vs : List Nat} (hp : PassesOwn (model X.prog X.w) X.A X.env X.xe) (hc : X.calm = true) (hi : DI X tg iter ti) (hg : DG X tg g vs) (hb : DSs X body tb)
    (hs : ∀ x, foldedSetIterable iter X.env x = pure x := by intro _; rfl) : DS X (.For tg iter body [] pos) (dFor ti g tb) := by
  refine ⟨ps_imp (ps_for hp hc hi.pi hg.pg hb.pss hs) fun E σ H hw => ?_⟩
  obtain ⟨G, M, s, D, r, sl, q, c⟩ := hw
  refine ⟨G, M, s, _, r, sl, q, fun xs M1 G1 H1 J p1 wk q1 => ?_⟩
  obtain ⟨I, h0, hs⟩ := q1
  refine ⟨fun i m σ' H' => m = xs.length - i ∧ i ≤ xs.length ∧ ∃ G' M' s', Stp G1 M1 H1 G' M' H' ∧ Slots G' s' σ' ∧ I i s' M', ⟨_, rfl, Nat.zero_le _, G1, M1, s, Stp.refl p1.rep, smono p1.ge sl, h0⟩, ?_⟩
  rintro i m σ' H' ⟨rfl, hi, G', M', s', p, sl', hI⟩
  have z := hs i s' M' hi hI
  obtain ⟨w1, w2⟩ := wk i G' M' H' p
  by_cases hlt : i < xs.length
  · have e : xs[i]? = some xs[i] := by simp [hlt]
    rw [e] at z
    obtain ⟨hgo, hy⟩ := w1 _ e
    refine .inr ⟨hgo, fun σ2 H2 => ∃ G2 M2 s2, Stp G1 M1 H1 G2 M2 H2 ∧ Slots G2 s2 σ2 ∧ I (i + 1) s2 M2, fun σ2 H2 n => ⟨_, by omega, rfl, hlt, n⟩, fun v H2 y => ?_⟩
    obtain ⟨G2, p2, a2⟩ := hy v H2 y
    refine ⟨G2, M', s', _, _, p2.rep, smono p2.ge sl', a2, z, fun s3 M3 G3 H3 σ3 p3 sl3 _ q3 => ?_⟩
    have p13 := p.trans (p2.trans p3)
    exact ⟨G3, M3, s3, _, p3.rep, sl3, q3, ⟨fun s4 M4 G4 H4 σ4 p4 sl4 q4 => ⟨G4, M4, s4, p13.trans p4, sl4, q4⟩, fun d M4 G4 H4 v p4 => c.rt d M4 G4 H4 v (p1.trans (p13.trans p4)), fun s4 M4 G4 H4 σ4 p4 => c.nx s4 M4 G4 H4 σ4 (p1.trans (p13.trans p4)), fun s4 M4 G4 H4 σ4 p4 sl4 q4 => ⟨G4, M4, s4, p13.trans p4, sl4, q4⟩⟩⟩
  · have e : xs[i]? = none := List.getElem?_eq_none (by omega)
    rw [e] at z
    exact .inl ⟨w2 (by omega), c.nx s' M' G' H' σ' (p1.trans p) sl' z⟩
/-- by an invariant -/
theorem for_by {xs : List DV} {D : DEnds} {s : DSt} {M : MM} (I : Nat → DSt → MM → Prop) (h0 : I 0 s M) (hs : ∀ i x s2 M2, xs[i]? = some x → I i s2 M2 → g x s2 M2 fun s3 M3 => tb { D with nx := I (i + 1), ct := I (i + 1), bk := D.nx } s3 M3)
    (hd : ∀ s2 M2, I xs.length s2 M2 → D.nx s2 M2) : ∃ I : Nat → DSt → MM → Prop, I 0 s M ∧ ∀ i s2 M2, i ≤ xs.length → I i s2 M2 → match xs[i]? with
  | some x => g x s2 M2 fun s3 M3 => tb { D with nx := I (i + 1), ct := I (i + 1), bk := D.nx } s3 M3
  | none => D.nx s2 M2 := by
  refine ⟨I, h0, fun i s2 M2 hi hI => ?_⟩
  cases e : xs[i]? with
  | some x => exact hs i x s2 M2 e hI
  | none =>
    have := List.getElem?_eq_none_iff.mp e
    have : i = xs.length := by omega
    subst this
    exact hd s2 M2 hI
/-- turn by turn -/
def forR (g : DTG) (tb : DTS) (D : DEnds) : List DV → DSt → MM → Prop
  | [], s, M => D.nx s M
  | x :: xs, s, M => g x s M fun s1 M1 => tb { D with nx := forR g tb D xs, ct := forR g tb D xs, bk := D.nx } s1 M1
theorem for_turns {xs : List DV} {D : DEnds} {s : DSt} {M : MM} (h : forR g tb D xs s M) : ∃ I : Nat → DSt → MM → Prop, I 0 s M ∧ ∀ i s2 M2, i ≤ xs.length → I i s2 M2 → match xs[i]? with
  | some x => g x s2 M2 fun s3 M3 => tb { D with nx := I (i + 1), ct := I (i + 1), bk := D.nx } s3 M3
  | none => D.nx s2 M2 := by
  have drop : ∀ i x, xs[i]? = some x → xs.drop i = x :: xs.drop (i + 1) := fun i x e => by
    obtain ⟨h1, h2⟩ := List.getElem?_eq_some_iff.mp e
    rw [← h2]
    exact List.drop_eq_getElem_cons h1
  refine ⟨fun i s M => forR g tb D (xs.drop i) s M, h, fun i s2 M2 hi hI => ?_⟩
  cases e : xs[i]? with
  | some x =>
    have hI' : forR g tb D (xs.drop i) s2 M2 := hI
    rw [drop i x e] at hI'
    exact hI'
  | none =>
    have := List.getElem?_eq_none_iff.mp e
    have hI' : forR g tb D (xs.drop i) s2 M2 := hI
    rw [List.drop_eq_nil_of_le this] at hI'
    exact hI'
/-! ### while -/
abbrev dWhile (c : DTT) (tb : DTS) : DTS := fun D s M => ∃ W : Nat → DSt → MM → Prop, (∃ m, W m s M) ∧ ∀ m s M, W m s M → c s M fun k M1 => cnd k (tb { D with nx := fun s' M' => ∃ m', m' < m ∧ W m' s' M', ct := fun s' M' => ∃ m', m' < m ∧ W m' s' M', bk := D.nx } s M1) (D.nx s M1)
theorem ds_while {c : Expr} {tc : DTT} (hp : PassesOwn (model X.prog X.w) X.A X.env X.xe) (hc : DT X c tc) (hb : DSs X body tb) : DS X (.While c body [] pos) (dWhile tc tb) := by
  refine ⟨ps_imp (ps_while hp hc.pt hb.pss) fun E σ H hw => ?_⟩
  obtain ⟨G, M, s, D, r, sl, ⟨W, ⟨m0, h0⟩, hs⟩, c⟩ := hw
  refine ⟨fun m σ' H' => ∃ G' M' s', Stp G M H G' M' H' ∧ Slots G' s' σ' ∧ W m s' M', ⟨m0, G, M, s, Stp.refl r, sl, h0⟩, ?_⟩
  rintro m σ' H' ⟨G', M', s', p, sl', hW⟩
  refine ⟨G', M', s', _, p.rep, sl', hs m s' M' hW, fun k M1 G1 H1 p1 q1 => ?_⟩
  cases k with
  | true =>
    rw [if_pos rfl]
    refine ⟨fun σ2 H2 => ∃ m', m' < m ∧ ∃ G2 M2 s2, Stp G M H G2 M2 H2 ∧ Slots G2 s2 σ2 ∧ W m' s2 M2, fun σ2 H2 n => n, ?_⟩
    have pp := p.trans p1
    exact ⟨G1, M1, s', _, p1.rep, smono p1.ge sl', q1, ⟨fun s4 M4 G4 H4 σ4 p4 sl4 ⟨m', hm, w⟩ => ⟨m', hm, G4, M4, s4, pp.trans p4, sl4, w⟩, fun d M4 G4 H4 v p4 => c.rt d M4 G4 H4 v (pp.trans p4), fun s4 M4 G4 H4 σ4 p4 => c.nx s4 M4 G4 H4 σ4 (pp.trans p4), fun s4 M4 G4 H4 σ4 p4 sl4 ⟨m', hm, w⟩ => ⟨m', hm, G4, M4, s4, pp.trans p4, sl4, w⟩⟩⟩
  | false =>
    rw [if_neg Bool.false_ne_true]
    exact c.nx s' M1 G1 H1 σ' (p.trans p1) (smono p1.ge sl') q1
end
end D

set_option Elab.async false
set_option linter.all false
set_option maxRecDepth 100000
/-! D5: comprehensions. -/
namespace D
open PySem PySem.Spec PyProof.Rows L2

/-! ### a new object that stands outside of both -/
theorem upd_id {H : Hp} {a : Addr} {o : HO} (h : H a = some o) : upd H a o = H := by
  funext c
  by_cases hc : c = a
  · subst hc; rw [upd_same, h]
  · rw [upd_ne hc]
theorem Stp.tweak {G G' : Hp} {M M' : MM} {H H' : Hp} {a : Addr} {o : HO} (s : Stp G M H G' M' H') (h : H a = none) (hg : G' a = none) (hm : M' a = none) : Stp G M H G' M' (upd H' a o) := by
  refine ⟨s.ge, s.fz, ⟨s.rep.ge.neuH hg, fun c w u q => ?_, fun c m q => ?_⟩, fun c u n h1 h2 h3 => ?_⟩
  · have hc : c ≠ a := fun e => by subst e; rw [hg] at q; cases q
    rw [upd_ne hc]; exact s.rep.fz c w u q
  · have hc : c ≠ a := fun e => by subst e; rw [hm] at q; cases q
    obtain ⟨q1, y, q2, q3⟩ := s.rep.mu c m q
    exact ⟨q1, y, by rw [upd_ne hc]; exact q2, q3⟩
  · have hc : c ≠ a := fun e => by subst e; rw [h] at h1; cases h1
    rw [upd_ne hc]; exact s.fr c u n h1 h2 h3
theorem Stp.adopt {G G' : Hp} {M M' : MM} {H H' : Hp} {a : Addr} {o : HO} (s : Stp G M H G' M' H') (h : H a = none) (hg : G' a = none) (hm : M' a = none) (ho : H' a = some o) (nf : ∀ w u, o ≠ .frz w u) : Stp G M H (upd G' a o) M' H' := by
  have z := s.rep.ge.neu2 (a := a) (o := o) nf
  rw [upd_id ho] at z
  refine ⟨s.ge.trans (Ge.neu hg), fun c w u q => ?_, ⟨z, fun c w u q => ?_, fun c m q => ?_⟩, fun c u n h1 h2 h3 => ?_⟩
  · have q' := s.fz c w u q
    have hc : c ≠ a := fun e => by subst e; rw [hg] at q'; cases q'
    rw [upd_ne hc]; exact q'
  · by_cases hc : c = a
    · subst hc; rw [upd_same] at q; cases q; exact absurd rfl (nf _ _)
    · rw [upd_ne hc] at q; exact s.rep.fz c w u q
  · have hc : c ≠ a := fun e => by subst e; rw [hm] at q; cases q
    obtain ⟨q1, y, q2, q3⟩ := s.rep.mu c m q
    exact ⟨by rw [upd_ne hc]; exact q1, y, q2, q3.mono (Ge.neu hg)⟩
  · have hc : c ≠ a := fun e => by subst e; rw [h] at h1; cases h1
    obtain ⟨x, y, w⟩ := s.fr c u n h1 h2 h3
    rw [upd_ne hc]; exact ⟨x, y, w⟩
theorem Stp.adoptM {G G' : Hp} {M M' : MM} {H H' : Hp} {a : Addr} {o : HO} {m : MO} (s : Stp G M H G' M' H') (h : H a = none) (hg : G' a = none) (ho : H' a = some o) (ma : MoAt G' m o) : Stp G M H G' (updM M' a m) H' := by
  refine ⟨s.ge, s.fz, ⟨s.rep.ge, s.rep.fz, fun c m' q => ?_⟩, fun c u n h1 h2 h3 => ?_⟩
  · by_cases hc : c = a
    · subst hc; rw [updM_same] at q; cases q; exact ⟨hg, o, ho, ma⟩
    · rw [updM_ne hc] at q; exact s.rep.mu c m' q
  · have hc : c ≠ a := fun e => by subst e; rw [h] at h1; cases h1
    obtain ⟨x, y, w⟩ := s.fr c u n h1 h2 h3
    rw [updM_ne hc]; exact ⟨x, y, w⟩
theorem Stp.extra {G : Hp} {M : MM} {H : Hp} {a : Addr} {o : HO} (r : Rep G M H) (h : H a = none) : Stp G M H G M (upd H a o) := (Stp.refl r).tweak h (r.free h).1 (r.free h).2

/-! ### slots forgotten -/
abbrev noneN : DSt → Nat → DSt
  | [], _ => []
  | _ :: r, 0 => none :: r
  | x :: r, n + 1 => x :: noneN r n
abbrev wipeD (s : DSt) : List Nat → DSt
  | [] => s
  | v :: vs => noneN (wipeD s vs) v
theorem slots_none {G : Hp} : ∀ {s : DSt} {σ : L2.St} {i : Nat}, Slots G s σ → Slots G (noneN s i) (σ.set i none)
  | _, _, _, .nil => .nil
  | _, _, 0, .cons q t => .cons (.no _) t
  | _, _, i + 1, .cons q t => .cons q (slots_none t)
theorem slots_wipe {G : Hp} {s : DSt} {σ : L2.St} (h : Slots G s σ) : ∀ vs : List Nat, Slots G (wipeD s vs) (wipe σ vs)
  | [] => h
  | v :: vs => slots_none (slots_wipe h vs)
theorem wipe_get {σ : L2.St} {i : Nat} : ∀ {vs : List Nat}, (wipe σ vs)[i]? = if i ∈ vs then (if i < σ.length then some none else none) else σ[i]?
  | [] => by simp [wipe]
  | v :: vs => by
    unfold wipe
    by_cases hv : v = i
    · subst hv
      rw [if_pos List.mem_cons_self]
      by_cases hl : v < σ.length
      · rw [if_pos hl, List.getElem?_set_self (by rw [wipe_length]; exact hl)]
      · rw [if_neg hl, List.getElem?_eq_none (by rw [List.length_set, wipe_length]; omega)]
    · rw [List.getElem?_set_ne hv, wipe_get (vs := vs)]
      by_cases hm : i ∈ vs
      · rw [if_pos hm, if_pos (List.mem_cons_of_mem _ hm)]
      · rw [if_neg hm, if_neg (by simp only [List.mem_cons, not_or]; exact ⟨fun e => hv e.symm, hm⟩)]
theorem wipe_only {σ σ2 : L2.St} {vs ws : List Nat} (o : OnlyAt ws (wipe σ vs) σ2) (h : ∀ i ∈ ws, i ∈ vs) : wipe σ2 vs = wipe σ vs := by
  apply List.ext_getElem?
  intro i
  have hl : σ2.length = σ.length := o.1.trans (wipe_length σ vs)
  rw [wipe_get, wipe_get, hl]
  by_cases hm : i ∈ vs
  · rw [if_pos hm, if_pos hm]
  · rw [if_neg hm, if_neg hm, o.2 i fun z => hm (h i z), wipe_get, if_neg hm]

/-! ### the block of a comprehension -/
abbrev Blk (X : Cx) (scope : Scope) (p : Cx → Prop) : Prop := ∀ (s : Shared) (H : Hp) (C : Addr) (cl : List (Str × Addr)) (fp : List Addr), p (X.blk s H scope (compEnvC scope cl C X.env) fp)
structure DTs (X : Cx) (ifs : List Expr) (t : DTT) : Prop where
  pts : PTs X ifs (lowT t)
abbrev dYes : DTT := fun _ M Q => Q true M
theorem pts_imp {X : Cx} {ifs : List Expr} {t t' : TT} (h : PTs X ifs t) (i : ∀ σ H Q, t' σ H Q → t σ H Q) : PTs X ifs t' := ⟨fun p s σ H Q I q => h.run p s σ H Q I (i σ H Q q)⟩
theorem dts_nil {X : Cx} : DTs X [] dYes := ⟨pts_imp pts_nil fun σ H Q ⟨G, M, s, R, r, _, q, c⟩ => c true M G H (Stp.refl r) q⟩
theorem dts_one {X : Cx} {c : Expr} {t : DTT} (h : DT X c t) : DTs X [c] t := ⟨pts_one h.pt⟩
section
variable {X : Cx} {pos : Pos} {tg iter elt : Expr} {ifs : List Expr} {scope : Scope} {own : List (Str × Nat)} {ti : DTI} {g : DTG} {tt : DTT} {te : DTE} {ws : List Nat}

/-- the turns of [elt for .. in xs if ..], from the items made so far; behind the last E -/
abbrev LcI (g : DTG) (tt : DTT) (te : DTE) (s : DSt) (xs : List DV) (M1 : MM) (E : List DV → MM → Prop) : Prop :=
  ∃ I : Nat → MM → List DV → Prop, I 0 M1 [] ∧ ∀ i M2 acc, i ≤ xs.length → I i M2 acc → match xs[i]? with
    | some x => g x s M2 fun s3 M3 => tt s3 M3 fun b M4 => cnd b (te s3 M4 fun y M5 => acc.length < sizeLine ∧ I (i + 1) M5 (acc ++ [y])) (I (i + 1) M4 acc)
    | none => E acc M2
abbrev dLc (ti : DTI) (g : DTG) (tt : DTT) (te : DTE) (vs : List Nat) : DTE := fun s M Q => ti s M fun xs M1 => LcI g tt te (wipeD s vs) xs M1 fun acc M2 => Q (.lst acc) M2
abbrev dLcM (ti : DTI) (g : DTG) (tt : DTT) (te : DTE) (vs : List Nat) : DTE := fun s M Q => ti s M fun xs M1 => LcI g tt te (wipeD s vs) xs M1 fun acc M2 => ∀ p, M2 p = none → Q (.adr p) (updM M2 p (.lst acc))
theorem lc_low {vs : List Nat} (hv : ∀ i ∈ ws, i ∈ vs) {fin : DK → List DV → MM → Prop} {σ : L2.St} {H : Hp} {Q : VK}
    (hfin : ∀ (R : DK) (acc : List DV) (M M' : MM) (G G' H H' : Hp) (D : Addr) (av : List V), Stp G M H G' M' H' → H D = none → G' D = none → M' D = none → H' D = some (.lst av) → AtL G' acc av → fin R acc M' → (∀ d M2 G2 H2 v, Stp G M H G2 M2 H2 → At G2 d v → R d M2 → Q v H2) → Q (.ref D) H')
    (h : low (fun s M R => ti s M fun xs M1 => LcI g tt te (wipeD s vs) xs M1 (fin R)) σ H Q) : tLc (lowI ti) (lowG g ws) (lowT tt) (low te) vs σ H Q := by
  obtain ⟨G, M, s, R, r, sl, q, c⟩ := h
  refine ⟨G, M, s, _, r, sl, q, fun xs M1 G1 H1 J p1 wk q1 D hD => ?_⟩
  obtain ⟨I, h0, hs⟩ := q1
  refine ⟨fun i m H' => m = xs.length - i ∧ i ≤ xs.length ∧ ∃ G' M' acc av, Stp G1 M1 H1 G' M' H' ∧ G' D = none ∧ M' D = none ∧ H' D = some (.lst av) ∧ AtL G' acc av ∧ I i M' acc,
    ⟨_, rfl, Nat.zero_le _, G1, M1, [], [], Stp.extra p1.rep hD, (p1.rep.free hD).1, (p1.rep.free hD).2, upd_same, .nil, h0⟩, ?_⟩
  rintro i m H' ⟨rfl, hi, G', M', acc, av, p, g1, m1, hD', ha, hI⟩
  have z := hs i M' acc hi hI
  obtain ⟨w1, w2⟩ := wk i G' M' H' p
  by_cases hlt : i < xs.length
  · have e : xs[i]? = some xs[i] := by simp [hlt]
    rw [e] at z
    obtain ⟨hgo, hy⟩ := w1 _ e
    refine .inr ⟨hgo, fun H2 => ∃ G2 M2 acc2 av2, Stp G1 M1 H1 G2 M2 H2 ∧ G2 D = none ∧ M2 D = none ∧ H2 D = some (.lst av2) ∧ AtL G2 acc2 av2 ∧ I (i + 1) M2 acc2, fun H2 n => ⟨_, by omega, rfl, hlt, n⟩, fun v H2 y => ?_⟩
    obtain ⟨G2, p2, a2⟩ := hy v H2 y
    refine ⟨G2, M', wipeD s vs, _, _, p2.rep, slots_wipe (smono (p1.ge.trans (p.ge.trans p2.ge)) sl) vs, a2, z, fun s3 M3 G3 H3 σ3 p3 sl3 o3 q3 => ⟨wipe_only o3 hv, ?_⟩⟩
    refine ⟨G3, M3, s3, _, p3.rep, sl3, q3, fun b M4 G4 H4 p4 q4 => ?_⟩
    have p24 : Stp G' M' H' G4 M4 H4 := p2.trans (p3.trans p4)
    obtain ⟨f1, f2, f3⟩ := p24.fr D _ (fun _ => by intro z; cases z) hD' g1 m1
    cases b with
    | false =>
      refine iteF ?_
      exact ⟨G4, M4, acc, av, p.trans p24, f2, f3, f1, ha.mono p24.ge, q4⟩
    | true =>
      refine iteT ?_
      refine ⟨G4, M4, s3, _, p4.rep, smono p4.ge sl3, q4, fun d M5 G5 H5 w p5 a5 q5 => ?_⟩
      obtain ⟨k1, k2, k3⟩ := p5.fr D _ (fun _ => by intro z; cases z) f1 f2 f3
      have ha5 := ha.mono (p24.trans p5).ge
      refine ⟨av, k1, by rw [← ha5.length]; exact q5.1, G5, M5, acc ++ [d], av ++ [w], (p.trans (p24.trans p5)).tweak hD k2 k3, k2, k3, upd_same, ha5.snoc a5, q5.2⟩
  · have e : xs[i]? = none := List.getElem?_eq_none (by omega)
    rw [e] at z
    exact .inl ⟨w2 (by omega), hfin R acc M1 M' G1 G' H1 H' D av p hD g1 m1 hD' ha z fun d M2 G2 H2 v p2 => c d M2 G2 H2 v (p1.trans p2)⟩
theorem de_lc (own : List (Str × Nat)) (hc : X.calm = true) (hN : X.N.Nodup) (hi : DI X tg iter ti) (ok : blkC X.N X.env.scope scope own = true) (hg : Blk X scope fun Y => DG Y tg g ws) (ht : Blk X scope fun Y => DTs Y ifs tt) (he : Blk X scope fun Y => DE Y elt te)
    (hv : ∀ i ∈ ws, i ∈ own.map (·.2) := by decide) (hs : ∀ x, foldedSetIterable iter X.env x = pure x := by intro _; rfl) : DE X (.ListComp elt [⟨tg, iter, ifs, 0⟩] scope pos) (dLc ti g tt te (own.map (·.2))) :=
  ⟨pe_imp (pe_lc hc hN hi.pi (blkOk_by ok) (fun s H C cl fp => (hg s H C cl fp).pg) (fun s H C cl fp => (ht s H C cl fp).pts) (fun s H C cl fp => (he s H C cl fp).pe) hs) fun σ H Q h =>
    lc_low (fin := fun R acc M2 => R (.lst acc) M2) hv (fun R acc M M' G G' H H' D av p hD g1 m1 hD' ha q c => c _ M' _ H' _ (p.adopt hD g1 m1 hD' nofz_lst) (.lst (.inl upd_same) (ha.mono (Ge.neu g1))) q) h⟩
theorem de_lcM (own : List (Str × Nat)) (hc : X.calm = true) (hN : X.N.Nodup) (hi : DI X tg iter ti) (ok : blkC X.N X.env.scope scope own = true) (hg : Blk X scope fun Y => DG Y tg g ws) (ht : Blk X scope fun Y => DTs Y ifs tt) (he : Blk X scope fun Y => DE Y elt te)
    (hv : ∀ i ∈ ws, i ∈ own.map (·.2) := by decide) (hs : ∀ x, foldedSetIterable iter X.env x = pure x := by intro _; rfl) : DE X (.ListComp elt [⟨tg, iter, ifs, 0⟩] scope pos) (dLcM ti g tt te (own.map (·.2))) :=
  ⟨pe_imp (pe_lc hc hN hi.pi (blkOk_by ok) (fun s H C cl fp => (hg s H C cl fp).pg) (fun s H C cl fp => (ht s H C cl fp).pts) (fun s H C cl fp => (he s H C cl fp).pe) hs) fun σ H Q h =>
    lc_low (fin := fun R acc M2 => ∀ p, M2 p = none → R (.adr p) (updM M2 p (.lst acc))) hv (fun R acc M M' G G' H H' D av p hD g1 m1 hD' ha q c => c _ _ _ H' _ (p.adoptM hD g1 hD' (.lst ha)) (.adr D) (q D m1)) h⟩
theorem ds_setLc (i : Nat) (own : List (Str × Nat)) {y : Str} {py spos : Pos} (hc : X.calm = true) (hN : X.N.Nodup) (hi : DI X tg iter ti) (ok : blkC X.N X.env.scope scope own = true) (hg : Blk X scope fun Y => DG Y tg g ws) (ht : Blk X scope fun Y => DTs Y ifs tt) (he : Blk X scope fun Y => DE Y elt te)
    (hy : X.N[i]? = some y := by rfl) (hyl : X.env.scope.names.lookup y = some .local := by rfl)
    (hsw : swapsWith (.ListComp elt [⟨tg, iter, ifs, 0⟩] scope pos) (some (.Name y py)) spos.line X.env = pure true := by exact sw_true rfl rfl rfl (by decide +kernel))
    (hv : ∀ i ∈ ws, i ∈ own.map (·.2) := by decide) (hs : ∀ x, foldedSetIterable iter X.env x = pure x := by intro _; rfl) : DS X (.Assign [.Name y py] (.ListComp elt [⟨tg, iter, ifs, 0⟩] scope pos) spos) (dSet i (dLc ti g tt te (own.map (·.2)))) :=
  ⟨ps_imp (ps_setLc hc hN hy hyl hsw hi.pi (blkOk_by ok) (fun s H C cl fp => (hg s H C cl fp).pg) (fun s H C cl fp => (ht s H C cl fp).pts) (fun s H C cl fp => (he s H C cl fp).pe) hs) fun E σ H h => by
    obtain ⟨G, M, s, D, r, sl, q, c⟩ := h
    refine lc_low (fin := fun R acc M2 => R (.lst acc) M2) hv (fun R acc M M' G G' H H' D av p hD g1 m1 hD' ha q c => c _ M' _ H' _ (p.adopt hD g1 m1 hD' nofz_lst) (.lst (.inl upd_same) (ha.mono (Ge.neu g1))) q) ?_
    exact ⟨G, M, s, fun d M' => D.nx (setN s i d) M', r, sl, q, fun d M' G' H' v p a q => c.nx _ M' G' H' _ p (slots_set a (smono p.ge sl)) q⟩⟩
theorem ds_setLcM (i : Nat) (own : List (Str × Nat)) {y : Str} {py spos : Pos} (hc : X.calm = true) (hN : X.N.Nodup) (hi : DI X tg iter ti) (ok : blkC X.N X.env.scope scope own = true) (hg : Blk X scope fun Y => DG Y tg g ws) (ht : Blk X scope fun Y => DTs Y ifs tt) (he : Blk X scope fun Y => DE Y elt te)
    (hy : X.N[i]? = some y := by rfl) (hyl : X.env.scope.names.lookup y = some .local := by rfl)
    (hsw : swapsWith (.ListComp elt [⟨tg, iter, ifs, 0⟩] scope pos) (some (.Name y py)) spos.line X.env = pure true := by exact sw_true rfl rfl rfl (by decide +kernel))
    (hv : ∀ i ∈ ws, i ∈ own.map (·.2) := by decide) (hs : ∀ x, foldedSetIterable iter X.env x = pure x := by intro _; rfl) : DS X (.Assign [.Name y py] (.ListComp elt [⟨tg, iter, ifs, 0⟩] scope pos) spos) (dSet i (dLcM ti g tt te (own.map (·.2)))) :=
  ⟨ps_imp (ps_setLc hc hN hy hyl hsw hi.pi (blkOk_by ok) (fun s H C cl fp => (hg s H C cl fp).pg) (fun s H C cl fp => (ht s H C cl fp).pts) (fun s H C cl fp => (he s H C cl fp).pe) hs) fun E σ H h => by
    obtain ⟨G, M, s, D, r, sl, q, c⟩ := h
    refine lc_low (fin := fun R acc M2 => ∀ p, M2 p = none → R (.adr p) (updM M2 p (.lst acc))) hv (fun R acc M M' G G' H H' D av p hD g1 m1 hD' ha q c => c _ _ _ H' _ (p.adoptM hD g1 hD' (.lst ha)) (.adr D) (q D m1)) ?_
    exact ⟨G, M, s, fun d M' => D.nx (setN s i d) M', r, sl, q, fun d M' G' H' v p a q => c.nx _ M' G' H' _ p (slots_set a (smono p.ge sl)) q⟩⟩

/-! ### dict comprehensions -/
def putD {κ : Type} [DecidableEq κ] (kvs : List (κ × DV)) (k : κ) (v : DV) : List (κ × DV) :=
  if (kvs.any fun kv => decide (kv.1 = k)) = true then kvs.map (fun kv => if kv.1 = k then (kv.1, v) else kv) else kvs ++ [(k, v)]
def valD {κ : Type} [DecidableEq κ] (kvs : List (κ × DV)) (k : κ) : Option DV := (kvs.find? fun kv => decide (kv.1 = k)).map (·.2)
theorem any_fst {κ : Type} [DecidableEq κ] {α β : Type} (k : κ) : ∀ {as : List (κ × α)} {bs : List (κ × β)}, as.map Prod.fst = bs.map Prod.fst → (as.any fun kv => decide (kv.1 = k)) = (bs.any fun kv => decide (kv.1 = k))
  | [], [], _ => rfl
  | [], _ :: _, e => by simp at e
  | _ :: _, [], e => by simp at e
  | a :: as, b :: bs, e => by
    simp only [List.map_cons, List.cons.injEq] at e
    rw [List.any_cons, List.any_cons, any_fst k e.2, e.1]
theorem map_fst_upd {κ α : Type} [DecidableEq κ] (k : κ) (d : α) (l : List (κ × α)) : (l.map fun kv => if kv.1 = k then (kv.1, d) else kv).map Prod.fst = l.map Prod.fst := by
  induction l with
  | nil => rfl
  | cons a as ih =>
    rw [List.map_cons, List.map_cons, List.map_cons, ih]
    congr 1
    split <;> rfl
theorem put_rel_snd {κ : Type} [DecidableEq κ] {G : Hp} {k : κ} {d : DV} {v : V} (h : At G d v) : ∀ {ks : List (κ × DV)} {kvs : List (κ × V)}, ks.map Prod.fst = kvs.map Prod.fst → AtL G (ks.map Prod.snd) (kvs.map Prod.snd) →
    AtL G ((ks.map fun kv => if kv.1 = k then (kv.1, d) else kv).map Prod.snd) ((kvs.map fun kv => if kv.1 = k then (kv.1, v) else kv).map Prod.snd)
  | [], [], _, _ => .nil
  | [], _ :: _, e, _ => by simp at e
  | _ :: _, [], e, _ => by simp at e
  | a :: as, b :: bs, e, r => by
    simp only [List.map_cons, List.cons.injEq] at e r ⊢
    cases r with
    | cons h1 t1 =>
      refine .cons ?_ (put_rel_snd h e.2 t1)
      rw [e.1]
      split
      · exact h
      · exact h1
theorem put_rel {κ : Type} [DecidableEq κ] {G : Hp} {ks : List (κ × DV)} {kvs : List (κ × V)} {k : κ} {d : DV} {v : V} (e : ks.map Prod.fst = kvs.map Prod.fst) (r : AtL G (ks.map Prod.snd) (kvs.map Prod.snd)) (h : At G d v) :
    (putD ks k d).map Prod.fst = (putK kvs k v).map Prod.fst ∧ AtL G ((putD ks k d).map Prod.snd) ((putK kvs k v).map Prod.snd) := by
  unfold putD putK
  rw [any_fst k e]
  by_cases z : (kvs.any fun kv => decide (kv.1 = k)) = true
  · rw [if_pos z, if_pos z]
    exact ⟨by rw [map_fst_upd, map_fst_upd]; exact e, put_rel_snd h e r⟩
  · rw [if_neg z, if_neg z, List.map_append, List.map_append, List.map_append, List.map_append, e]
    exact ⟨rfl, r.append (.cons h .nil)⟩
theorem putD_length {κ : Type} [DecidableEq κ] (kvs : List (κ × DV)) (k : κ) (v : DV) : (putD kvs k v).length ≤ kvs.length + 1 := by
  unfold putD
  split
  · rw [List.length_map]; omega
  · rw [List.length_append]; simp
def keyOf : DV → Option Key
  | .int i => some (.inl i)
  | .str x => some (.inr x)
  | _ => none
theorem keyOf_at {G : Hp} {d : DV} {v : V} {k : Key} (a : At G d v) (h : keyOf d = some k) : v = kV k := by
  cases a <;> first | (cases h; rfl) | cases h
variable {kx vx : Expr} {tk tv : DTE}
abbrev DcI (g : DTG) (tt : DTT) (tk tv : DTE) (s : DSt) (xs : List DV) (M1 : MM) (E : List (Key × DV) → MM → Prop) : Prop :=
  ∃ I : Nat → MM → List (Key × DV) → Prop, I 0 M1 [] ∧ ∀ i M2 acc, i ≤ xs.length → I i M2 acc → match xs[i]? with
    | some x => g x s M2 fun s3 M3 => tt s3 M3 fun b M4 => cnd b (tk s3 M4 fun y M5 => tv s3 M5 fun z M6 => ∃ k, keyOf y = some k ∧ acc.length < sizeLine ∧ I (i + 1) M6 (putD acc k z)) (I (i + 1) M4 acc)
    | none => E acc M2
abbrev dDc (ti : DTI) (g : DTG) (tt : DTT) (tk tv : DTE) (vs : List Nat) : DTE := fun s M Q => ti s M fun xs M1 => DcI g tt tk tv (wipeD s vs) xs M1 fun acc M2 => Q (.dK acc) M2
abbrev dDcM (ti : DTI) (g : DTG) (tt : DTT) (tk tv : DTE) (vs : List Nat) : DTE := fun s M Q => ti s M fun xs M1 => DcI g tt tk tv (wipeD s vs) xs M1 fun acc M2 => ∀ p, M2 p = none → Q (.adr p) (updM M2 p (.dK acc))
theorem dc_low {vs : List Nat} (hv : ∀ i ∈ ws, i ∈ vs) {fin : DK → List (Key × DV) → MM → Prop} {σ : L2.St} {H : Hp} {Q : VK}
    (hfin : ∀ (R : DK) (acc : List (Key × DV)) (M M' : MM) (G G' H H' : Hp) (D : Addr) (av : List (Key × V)), Stp G M H G' M' H' → H D = none → G' D = none → M' D = none → H' D = some (.dK av) → acc.map Prod.fst = av.map Prod.fst → AtL G' (acc.map Prod.snd) (av.map Prod.snd) → fin R acc M' → (∀ d M2 G2 H2 v, Stp G M H G2 M2 H2 → At G2 d v → R d M2 → Q v H2) → Q (.ref D) H')
    (h : low (fun s M R => ti s M fun xs M1 => DcI g tt tk tv (wipeD s vs) xs M1 (fin R)) σ H Q) : tDc (lowI ti) (lowG g ws) (lowT tt) (low tk) (low tv) vs σ H Q := by
  obtain ⟨G, M, s, R, r, sl, q, c⟩ := h
  refine ⟨G, M, s, _, r, sl, q, fun xs M1 G1 H1 J p1 wk q1 D hD => ?_⟩
  obtain ⟨I, h0, hs⟩ := q1
  refine ⟨fun i m H' => m = xs.length - i ∧ i ≤ xs.length ∧ ∃ G' M' acc av, Stp G1 M1 H1 G' M' H' ∧ G' D = none ∧ M' D = none ∧ H' D = some (.dK av) ∧ acc.map Prod.fst = av.map Prod.fst ∧ AtL G' (acc.map Prod.snd) (av.map Prod.snd) ∧ I i M' acc,
    ⟨_, rfl, Nat.zero_le _, G1, M1, [], [], Stp.extra p1.rep hD, (p1.rep.free hD).1, (p1.rep.free hD).2, upd_same, rfl, .nil, h0⟩, ?_⟩
  rintro i m H' ⟨rfl, hi, G', M', acc, av, p, g1, m1, hD', hk, ha, hI⟩
  have z := hs i M' acc hi hI
  obtain ⟨w1, w2⟩ := wk i G' M' H' p
  by_cases hlt : i < xs.length
  · have e : xs[i]? = some xs[i] := by simp [hlt]
    rw [e] at z
    obtain ⟨hgo, hy⟩ := w1 _ e
    refine .inr ⟨hgo, fun H2 => ∃ G2 M2 acc2 av2, Stp G1 M1 H1 G2 M2 H2 ∧ G2 D = none ∧ M2 D = none ∧ H2 D = some (.dK av2) ∧ acc2.map Prod.fst = av2.map Prod.fst ∧ AtL G2 (acc2.map Prod.snd) (av2.map Prod.snd) ∧ I (i + 1) M2 acc2, fun H2 n => ⟨_, by omega, rfl, hlt, n⟩, fun v H2 y => ?_⟩
    obtain ⟨G2, p2, a2⟩ := hy v H2 y
    refine ⟨G2, M', wipeD s vs, _, _, p2.rep, slots_wipe (smono (p1.ge.trans (p.ge.trans p2.ge)) sl) vs, a2, z, fun s3 M3 G3 H3 σ3 p3 sl3 o3 q3 => ⟨wipe_only o3 hv, ?_⟩⟩
    refine ⟨G3, M3, s3, _, p3.rep, sl3, q3, fun b M4 G4 H4 p4 q4 => ?_⟩
    have p24 : Stp G' M' H' G4 M4 H4 := p2.trans (p3.trans p4)
    obtain ⟨f1, f2, f3⟩ := p24.fr D _ (fun _ => by intro z; cases z) hD' g1 m1
    cases b with
    | false =>
      refine iteF ?_
      exact ⟨G4, M4, acc, av, p.trans p24, f2, f3, f1, hk, ha.mono p24.ge, q4⟩
    | true =>
      refine iteT ?_
      refine ⟨G4, M4, s3, _, p4.rep, smono p4.ge sl3, q4, fun d M5 G5 H5 w p5 a5 q5 => ?_⟩
      refine ⟨G5, M5, s3, _, p5.rep, smono (p4.trans p5).ge sl3, q5, fun d2 M6 G6 H6 w2 p6 a6 q6 => ?_⟩
      have p46 := p5.trans p6
      obtain ⟨k1, k2, k3⟩ := p46.fr D _ (fun _ => by intro z; cases z) f1 f2 f3
      obtain ⟨k, ek, hz, q6⟩ := q6
      have ha6 := ha.mono (p24.trans p46).ge
      obtain ⟨b1, b2⟩ := put_rel (k := k) hk ha6 a6
      refine ⟨av, k, keyOf_at a5 ek, k1, by rw [← len_fst hk]; exact hz, G6, M6, _, _, (p.trans (p24.trans p46)).tweak hD k2 k3, k2, k3, upd_same, b1, b2, q6⟩
  · have e : xs[i]? = none := List.getElem?_eq_none (by omega)
    rw [e] at z
    exact .inl ⟨w2 (by omega), hfin R acc M1 M' G1 G' H1 H' D av p hD g1 m1 hD' hk ha z fun d M2 G2 H2 v p2 => c d M2 G2 H2 v (p1.trans p2)⟩
theorem de_dc (own : List (Str × Nat)) (hc : X.calm = true) (hN : X.N.Nodup) (hi : DI X tg iter ti) (ok : blkC X.N X.env.scope scope own = true) (hg : Blk X scope fun Y => DG Y tg g ws) (ht : Blk X scope fun Y => DTs Y ifs tt) (hk : Blk X scope fun Y => DE Y kx tk) (he : Blk X scope fun Y => DE Y vx tv)
    (hv : ∀ i ∈ ws, i ∈ own.map (·.2) := by decide) (hs : ∀ x, foldedSetIterable iter X.env x = pure x := by intro _; rfl) : DE X (.DictComp kx vx [⟨tg, iter, ifs, 0⟩] scope pos) (dDc ti g tt tk tv (own.map (·.2))) :=
  ⟨pe_imp (pe_dc hc hN hi.pi (blkOk_by ok) (fun s H C cl fp => (hg s H C cl fp).pg) (fun s H C cl fp => (ht s H C cl fp).pts) (fun s H C cl fp => (hk s H C cl fp).pe) (fun s H C cl fp => (he s H C cl fp).pe) hs) fun σ H Q h =>
    dc_low (fin := fun R acc M2 => R (.dK acc) M2) hv (fun R acc M M' G G' H H' D av p hD g1 m1 hD' hk ha q c => c _ M' _ H' _ (p.adopt hD g1 m1 hD' nofz_dK) (.dK (.inl upd_same) hk (ha.mono (Ge.neu g1))) q) h⟩
theorem de_dcM (own : List (Str × Nat)) (hc : X.calm = true) (hN : X.N.Nodup) (hi : DI X tg iter ti) (ok : blkC X.N X.env.scope scope own = true) (hg : Blk X scope fun Y => DG Y tg g ws) (ht : Blk X scope fun Y => DTs Y ifs tt) (hk : Blk X scope fun Y => DE Y kx tk) (he : Blk X scope fun Y => DE Y vx tv)
    (hv : ∀ i ∈ ws, i ∈ own.map (·.2) := by decide) (hs : ∀ x, foldedSetIterable iter X.env x = pure x := by intro _; rfl) : DE X (.DictComp kx vx [⟨tg, iter, ifs, 0⟩] scope pos) (dDcM ti g tt tk tv (own.map (·.2))) :=
  ⟨pe_imp (pe_dc hc hN hi.pi (blkOk_by ok) (fun s H C cl fp => (hg s H C cl fp).pg) (fun s H C cl fp => (ht s H C cl fp).pts) (fun s H C cl fp => (hk s H C cl fp).pe) (fun s H C cl fp => (he s H C cl fp).pe) hs) fun σ H Q h =>
    dc_low (fin := fun R acc M2 => ∀ p, M2 p = none → R (.adr p) (updM M2 p (.dK acc))) hv (fun R acc M M' G G' H H' D av p hD g1 m1 hD' hk ha q c => c _ _ _ H' _ (p.adoptM hD g1 hD' (.dK hk ha)) (.adr D) (q D m1)) h⟩
end
end D

set_option Elab.async false
set_option linter.all false
set_option maxRecDepth 100000
/-! D6: defs, calls, classes. -/
namespace D
open PySem PySem.Spec PyProof.Rows L2

/-- what is wanted of an exception: its class, its fields -/
abbrev DX := Addr → List (Str × DV) → MM → Prop
abbrev DSp := List DV → MM → DK → DX → Prop
def DXok (G : Hp) (M : MM) (H : Hp) (F : DX) (E : XK) : Prop := ∀ C fs M' G' H' d gs, Stp G M H G' M' H' → H' d = some (.xd gs) → fs.map Prod.fst = gs.map Prod.fst → AtL G' (fs.map Prod.snd) (gs.map Prod.snd) → F C fs M' → E (.ref C) (some d) H'
abbrev X0 : DX := fun _ _ _ => False
theorem dx0 {G : Hp} {M : MM} {H : Hp} {E : XK} : DXok G M H X0 E := fun _ _ _ _ _ _ _ _ _ _ _ z => z.elim
def liftSp (sp : DSp) : Sp := fun vs H Q E => ∃ (G : Hp) (M : MM) (ds : List DV) (R : DK) (F : DX), Rep G M H ∧ AtL G ds vs ∧ sp ds M R F ∧ (∀ d M' G' H' v, Stp G M H G' M' H' → At G' d v → R d M' → Q v H') ∧ DXok G M H F E
/-- changing objects that nobody asks for are forgotten at a def's end -/
def Rt (R : DK) (d : DV) (M' : MM) : Prop := ∃ M0, SubM M0 M' ∧ R d M0
theorem Rt.of {R : DK} {d : DV} {M : MM} (h : R d M) : Rt R d M := ⟨M, SubM.refl M, h⟩
theorem Rt.sub {R : DK} {d : DV} {M M0 : MM} (s : SubM M0 M) (h : R d M0) : Rt R d M := ⟨M0, s, h⟩
abbrev startD (n : Nat) (ds : List DV) : DSt := ds.map some ++ List.replicate (n - ds.length) none
theorem slots_start {G : Hp} {N : List Str} {ds : List DV} {vs : List V} (h : AtL G ds vs) : Slots G (startD N.length ds) (L2.start N vs) := by
  unfold startD L2.start
  rw [h.length]
  have rep : ∀ n : Nat, Slots G (List.replicate n none) (List.replicate n none) := fun n => by
    induction n with
    | zero => exact .nil
    | succ n ih => exact .cons (.no _) ih
  have ap : ∀ {ds : List DV} {vs : List V} {s : DSt} {σ : L2.St}, AtL G ds vs → Slots G s σ → Slots G (ds.map some ++ s) (vs.map some ++ σ) := by
    intro ds vs s σ h
    induction h using AtL.rec (motive_1 := fun _ _ _ => True) with
    | nil => exact fun z => z
    | cons h t _ ih => exact fun z => .cons (.so h) (ih z)
    | _ => trivial
  exact ap h (rep _)
section
variable {P : Program} {w : World} {K : PySem.W.Frag} {mg : Str → Option Value} {base : Heap}
/-- THE RULE for a def -/
theorem ok_def {x qual : Str} {st : Stmt} {f : Addr} {fd : FuncData} {N ps : List Str} {k : Nat} {sp : DSp} (F : Fun K x qual st f fd) (S : FnScope N ps (defScope st)) (len : ∀ ds M R E, sp ds M R E → ds.length = ps.length)
    (hbody : ∀ (cdv : Value) (A : Around) (outer : List Env) (s : Shared) (H : Hp) (E : XK), Room k (A.deeper (envOfC qual (defScope st) s.heap.objs.size f cdv)) →
      ∃ t, DSs (cxOf CX0 P w K mg base N qual (defScope st) f cdv A outer s H E).nox (defBody st) t ∧ ∀ ds M R F, sp ds M R F → t { nx := fun _ M' => Rt R .non M', rt := Rt R } (startD N.length ds) M) : FnOk P w K mg base CX0 (k + 1) f fd ps (liftSp sp) := by
  refine F.ok S (fun vs H Q E h => ?_) (fun cdv A outer s H vs Q E hr h => ?_)
  · obtain ⟨G, M, ds, R, F', rp, a, q, _⟩ := h
    rw [← a.length]; exact len _ _ _ _ q
  · obtain ⟨t, ht, hq⟩ := hbody cdv A outer s H E hr
    obtain ⟨G, M, ds, R, F', rp, a, q, c, _⟩ := h
    have fin : ∀ d M' G' H' v, Stp G M H G' M' H' → At G' d v → Rt R d M' → Q v H' := fun d M' G' H' v p av ⟨M0, sb, hR⟩ => c d M0 G' H' v (p.trans (Stp.forget p.rep sb)) av hR
    exact ⟨_, ht.pss, G, M, _, _, rp, slots_start a, hq ds M R F' q, ⟨fun s' M' G' H' σ' p _ z => fin .non M' G' H' .non p .non z, fin, fun _ _ _ _ _ _ _ z => z.elim, fun _ _ _ _ _ _ _ z => z.elim⟩⟩
end
section
variable {X : Cx} {CX : CXT} {k : Nat} {f C : Addr} {fd : FuncData} {ps : List Str} {sp : DSp} {x m : Str} {p pos apos : Pos} {e o : Expr} {es : List Expr} {ta te : DTE} {t : DTA}
abbrev dCall (sp : DSp) (t : DTA) : DTE := fun s M Q => t s M fun ds M1 => sp ds M1 Q X0
theorem low_call {σ : L2.St} {H : Hp} {Q : VK} (h : low (dCall sp t) σ H Q) : tCall (liftSp sp) [] E0 (lowA t) σ H Q := by
  obtain ⟨G, M, s, R, r, sl, q, c⟩ := h
  refine ⟨G, M, s, _, r, sl, q, fun ds M1 G1 H1 vs p1 a1 q1 => ?_⟩
  show liftSp sp (vs ++ []) H1 Q E0
  rw [List.append_nil]
  exact ⟨G1, M1, ds, R, X0, p1.rep, a1, q1, fun d M2 G2 H2 v p2 => c d M2 G2 H2 v (p1.trans p2), dx0⟩
theorem de_call (F : FnOk X.prog X.w X.K X.mg X.base CX0 k f fd ps (liftSp sp)) (hr : Room k X.A) (hg : Gl X x) (hm : X.mg x = some (.ref f)) (hk : PySem.W.keepIn X.K (.ref f) = true) (hb : Binds X.K fd ps [])
    (ha : DA X (e :: es) t) (hdb : (x == ("__debug__" : Str)) = false := by decide) (he : starEach (e :: es) X.env = (false, eval e X.env) :: starEach es X.env := by rfl) (hpl : (backTo pos (starEach es X.env)).any (·.1) = false := by rfl) :
    DE X (.Call (.Name x p) (e :: es) [] pos) (dCall sp t) := ⟨pe_imp (pe_call F hr hg hm hk hb .nil pass0 ha.pa hdb he hpl) fun _ _ _ => low_call⟩
theorem de_call0 (F : FnOk X.prog X.w X.K X.mg X.base CX0 k f fd ps (liftSp sp)) (hr : Room k X.A) (hg : Gl X x) (hm : X.mg x = some (.ref f)) (hk : PySem.W.keepIn X.K (.ref f) = true) (hb : Binds X.K fd ps [])
    (hdb : (x == ("__debug__" : Str)) = false := by decide) : DE X (.Call (.Name x p) [] [] pos) (dCall sp dNil) := ⟨pe_imp (pe_call0 F hr hg hm hk hb .nil pass0 hdb) fun σ H Q ⟨G, M, s, R, r, sl, q, c⟩ => ⟨G, M, [], R, X0, r, .nil, q, c, dx0⟩⟩

/-! ### objects: names is the list of an object's attributes, in order -/
abbrev nthP : List (Str × DV) → Nat → Option DV
  | [], _ => none
  | x :: _, 0 => some x.2
  | _ :: r, n + 1 => nthP r n
theorem lookup_at {names : List Str} {f : Str} : ∀ {fs : List (Str × V)} {gs : List (Str × DV)} {G : Hp} {i : Nat} {d : DV}, gs.map Prod.fst = fs.map Prod.fst → AtL G (gs.map Prod.snd) (fs.map Prod.snd) → (gs.map Prod.fst).idxOf? f = some i → nthP gs i = some d → ∃ v, fs.lookup f = some v ∧ At G d v
  | [], [], _, _, _, _, _, h, _ => by simp at h
  | [], _ :: _, _, _, _, e, _, _, _ => by simp at e
  | _ :: _, [], _, _, _, e, _, _, _ => by simp at e
  | (n, v) :: fs, (n', d') :: gs, G, i, d, e, r, h, hn => by
    simp only [List.map_cons, List.cons.injEq] at e r h
    obtain ⟨e1, e2⟩ := e
    subst e1
    cases r with
    | cons h1 t1 =>
      rw [List.idxOf?_cons] at h
      by_cases hf : n' = f
      · subst hf
        simp at h
        subst h
        cases hn
        exact ⟨v, by simp [List.lookup], h1⟩
      · have hf' : (n' == f) = false := by simp [hf]
        rw [hf'] at h
        simp only [cond_false, Bool.false_eq_true, if_false, Option.map_eq_some_iff] at h
        obtain ⟨j, hj, rfl⟩ := h
        obtain ⟨w, e3, a3⟩ := lookup_at (names := names) e2 t1 hj hn
        refine ⟨w, ?_, a3⟩
        have : (f == n') = false := by simp [Ne.symm hf]
        simp [List.lookup, this, e3]
theorem lookup_no {m : Str} : ∀ {fs : List (Str × V)}, m ∉ fs.map Prod.fst → fs.lookup m = none
  | [], _ => rfl
  | (n, v) :: fs, h => by
    simp only [List.map_cons, List.mem_cons, not_or] at h
    have : (m == n) = false := by simp [h.1]
    simp [List.lookup, this, lookup_no h.2]
/-- the receiver: a frozen object of the class at C -/
abbrev dRecv (C : Addr) (names : List Str) (x : DV) (q : List (Str × DV) → Prop) : Prop := match x with
  | .obj C' fs => (C' = C ∧ fs.map Prod.fst = names) ∧ q fs
  | _ => False
theorem dRecv.at {C : Addr} {names : List Str} {x : DV} {q : List (Str × DV) → Prop} (h : dRecv C names x q) : ∃ fs, x = .obj C fs ∧ fs.map Prod.fst = names ∧ q fs := by
  cases x <;> first | exact h.elim | (obtain ⟨⟨rfl, e⟩, q⟩ := h; exact ⟨_, rfl, e, q⟩)
abbrev dFld (C : Addr) (names : List Str) (i : Nat) (te : DTE) : DTE := fun s M Q => te s M fun x M1 => dRecv C names x fun fs => match nthP fs i with
  | some d => Q d M1
  | none => False
theorem de_fld (C : Addr) (names : List Str) (i : Nat) {f : Str} (c : Cls X.K C) (n : NoAttr X.K C f) (he : DE X e te) (hi : names.idxOf? f = some i := by decide +kernel) (hb : attributeBase e f X.env (eval e X.env) = eval e X.env := by rfl) : DE X (.Attribute e f pos) (dFld C names i te) :=
  ⟨pe_imp (pe_fld he.pe hb) fun σ H Q ⟨G, M, s, R, r, sl, q, cl⟩ => ⟨G, M, s, _, r, sl, q, fun x M1 G1 H1 v p1 a1 q1 => by
    obtain ⟨fs, rfl, en, q2⟩ := q1.at
    cases a1 with
    | obj h e2 r2 =>
      cases en2 : nthP fs i with
      | none => rw [en2] at q2; exact q2.elim
      | some d =>
        rw [en2] at q2
        obtain ⟨w, e3, a3⟩ := lookup_at (names := names) e2 r2 (by rw [en]; exact hi) en2
        exact ⟨_, C, _, _, w, rfl, p1.rep.ge.hd _ _ rfl h, c, n, e3, cl d M1 G1 H1 w p1 a3 q2⟩⟩⟩
/-- an object that still changes -/
abbrev dRecvA (C : Addr) (names : List Str) (x : DV) (M : MM) (q : Addr → List (Str × DV) → Prop) : Prop := match x with
  | .adr a => ∃ fs, M a = some (.ins C fs) ∧ fs.map Prod.fst = names ∧ q a fs
  | _ => False
abbrev dFldA (C : Addr) (names : List Str) (i : Nat) (te : DTE) : DTE := fun s M Q => te s M fun x M1 => dRecvA C names x M1 fun _ fs => match nthP fs i with
  | some d => Q d M1
  | none => False
theorem dRecvA.at {C : Addr} {names : List Str} {x : DV} {M : MM} {q : Addr → List (Str × DV) → Prop} (h : dRecvA C names x M q) : ∃ a fs, x = .adr a ∧ M a = some (.ins C fs) ∧ fs.map Prod.fst = names ∧ q a fs := by
  cases x <;> first | exact h.elim | (obtain ⟨fs, h1, h2, h3⟩ := h; exact ⟨_, fs, rfl, h1, h2, h3⟩)
theorem de_fldA (C : Addr) (names : List Str) (i : Nat) {f : Str} (c : Cls X.K C) (n : NoAttr X.K C f) (he : DE X e te) (hi : names.idxOf? f = some i := by decide +kernel) (hb : attributeBase e f X.env (eval e X.env) = eval e X.env := by rfl) : DE X (.Attribute e f pos) (dFldA C names i te) :=
  ⟨pe_imp (pe_fld he.pe hb) fun σ H Q ⟨G, M, s, R, r, sl, q, cl⟩ => ⟨G, M, s, _, r, sl, q, fun x M1 G1 H1 v p1 a1 q1 => by
    obtain ⟨a, fs, rfl, hM, en, q2⟩ := q1.at
    cases a1
    obtain ⟨_, o, ho, ma⟩ := p1.rep.mu a _ hM
    cases ma with
    | ins e2 r2 =>
      cases en2 : nthP fs i with
      | none => rw [en2] at q2; exact q2.elim
      | some d =>
        rw [en2] at q2
        obtain ⟨w, e3, a3⟩ := lookup_at (names := names) e2 r2 (by rw [en]; exact hi) en2
        exact ⟨_, C, _, _, w, rfl, ho, c, n, e3, cl d M1 G1 H1 w p1 a3 q2⟩⟩⟩
theorem MoAt.ins_inv {G : Hp} {C : Addr} {gs : List (Str × DV)} {o : HO} (h : MoAt G (.ins C gs) o) : ∃ dx fs, o = .ins C dx fs ∧ gs.map Prod.fst = fs.map Prod.fst ∧ AtL G (gs.map Prod.snd) (fs.map Prod.snd) := by
  cases h with
  | ins e r => exact ⟨_, _, rfl, e, r⟩
/-- o.f = e of an object that changes -/
abbrev putP : List (Str × DV) → Str → DV → List (Str × DV)
  | [], f, v => [(f, v)]
  | x :: r, f, v => if x.1 = f then (x.1, v) :: r else x :: putP r f v
theorem putP_rel {G : Hp} {f : Str} {d : DV} {v : V} (h : At G d v) : ∀ {fs : List (Str × V)} {gs : List (Str × DV)}, gs.map Prod.fst = fs.map Prod.fst → AtL G (gs.map Prod.snd) (fs.map Prod.snd) → (putP gs f d).map Prod.fst = (putF f v fs).map Prod.fst ∧ AtL G ((putP gs f d).map Prod.snd) ((putF f v fs).map Prod.snd)
  | [], [], _, _ => ⟨rfl, .cons h .nil⟩
  | [], _ :: _, e, _ => by simp at e
  | _ :: _, [], e, _ => by simp at e
  | (n, u) :: fs, (n', d') :: gs, e, r => by
    simp only [List.map_cons, List.cons.injEq] at e r
    obtain ⟨e1, e2⟩ := e
    subst e1
    cases r with
    | cons h1 t1 =>
      obtain ⟨b1, b2⟩ := putP_rel h e2 t1
      show ((if n' = f then (n', d) :: gs else (n', d') :: putP gs f d).map Prod.fst = (if n' = f then (n', v) :: fs else (n', u) :: putF f v fs).map Prod.fst) ∧ AtL G ((if n' = f then (n', d) :: gs else (n', d') :: putP gs f d).map Prod.snd) ((if n' = f then (n', v) :: fs else (n', u) :: putF f v fs).map Prod.snd)
      by_cases hf : n' = f
      · rw [if_pos hf, if_pos hf]
        exact ⟨by simp [e2], .cons h t1⟩
      · rw [if_neg hf, if_neg hf]
        exact ⟨by simp only [List.map_cons]; rw [b1], .cons h1 b2⟩
abbrev dsFld (C : Addr) (f : Str) (te tv : DTE) : DTS := fun D s M => tv s M fun y M1 => te s M1 fun x M2 => match x with
  | .adr a => ∃ fs, M2 a = some (.ins C fs) ∧ fs.length < 1000 ∧ D.nx s (updM M2 a (.ins C (putP fs f y)))
  | _ => False
theorem ds_fld (C : Addr) {f : Str} {value : Expr} {tv : DTE} {pos' : Pos} (c : Cls X.K C) (n : NoAttr X.K C f) (ha : DE X o te) (hv : DE X value tv) (hs : swapsWith value (some (.Attribute o f pos')) pos.line X.env = pure false := by rfl) : DS X (.Assign [.Attribute o f pos'] value pos) (dsFld C f te tv) :=
  ⟨ps_imp (ps_fld ha.pe hv.pe hs) fun E σ H ⟨G, M, s, D, r, sl, q, cl⟩ => ⟨G, M, s, _, r, sl, q, fun y M1 G1 H1 v p1 a1 q1 => ⟨G1, M1, s, _, p1.rep, smono p1.ge sl, q1, fun x M2 G2 H2 u p2 a2 q2 => by
    cases x <;> first | exact q2.elim | skip
    obtain ⟨fs, hM, hz, q3⟩ := q2
    cases a2
    obtain ⟨_, o', ho, ma⟩ := p2.rep.mu _ _ hM
    obtain ⟨dx, gs, rfl, e2, r2⟩ := ma.ins_inv
    obtain ⟨b1, b2⟩ := putP_rel (f := f) (a1.mono p2.ge) e2 r2
    refine ⟨_, C, dx, gs, rfl, ho, c, n, by rw [← len_fst e2]; exact hz, ?_⟩
    have p3 := Stp.write p2.rep hM (MoAt.ins (C := C) (dx := dx) b1 b2)
    exact cl.nx _ _ _ _ _ (p1.trans (p2.trans p3)) (smono (p1.trans p2).ge sl) q3⟩⟩⟩
/-! ### methods -/
abbrev dMeth (C : Addr) (names : List Str) (sp : DSp) (te : DTE) (t : DTA) : DTE := fun s M Q => te s M fun x M1 => dRecv C names x fun _ => t s M1 fun ds M2 => sp (x :: ds) M2 Q X0
theorem low_meth {names : List Str} (hn : m ∉ names) {σ : L2.St} {H : Hp} {Q : VK} (h : low (dMeth C names sp te t) σ H Q) : tMeth C m (liftSp sp) [] E0 (low te) (lowA t) σ H Q := by
  obtain ⟨G, M, s, R, r, sl, q, c⟩ := h
  refine ⟨G, M, s, _, r, sl, q, fun x M1 G1 H1 v p1 a1 q1 => ?_⟩
  obtain ⟨fs, rfl, en, q2⟩ := q1.at
  cases id a1 with
  | obj h e2 r2 =>
    refine ⟨_, _, _, rfl, p1.rep.ge.hd _ _ rfl h, lookup_no (by rw [← e2, en]; exact hn), G1, M1, s, _, p1.rep, smono p1.ge sl, q2, fun ds M2 G2 H2 vs p2 a2 q3 => ?_⟩
    show liftSp sp (_ :: (vs ++ [])) H2 Q E0
    rw [List.append_nil]
    exact ⟨G2, M2, _, R, X0, p2.rep, .cons (a1.mono p2.ge) a2, q3, fun d M3 G3 H3 v p3 => c d M3 G3 H3 v (p1.trans (p2.trans p3)), dx0⟩
theorem de_meth (names : List Str) {pl : Sem Bool} (c : Cls X.K C) (hm : Meth X.K C m f) (F : FnOk X.prog X.w X.K X.mg X.base CX0 k f fd ps (liftSp sp)) (hr : Room k X.A) (hb : Binds X.K fd ps []) (he : DE X o te) (ha : DA X (e :: es) t) (hn : m ∉ names := by decide +kernel)
    (hst : starEach (e :: es) X.env = (false, eval e X.env) :: starEach es X.env := by rfl) (hpl : (backTo pos (starEach es X.env)).any (·.1) = false := by rfl)
    (ht : eval (.Call (.Attribute o m apos) (e :: es) [] pos) X.env = (do
      let ov ← eval o X.env
      standAt apos.atName
      let (f, first) ← holding [ov] (getMethod ov m pl)
      callWith pos f first (backTo pos (starEach (e :: es) X.env)) (backToKw pos (keywordEach [] X.env))) := by rfl) : DE X (.Call (.Attribute o m apos) (e :: es) [] pos) (dMeth C names sp te t) :=
  ⟨pe_imp (pe_meth he.pe c hm F hr hb .nil pass0 ha.pa hst hpl ht) fun _ _ _ => low_meth hn⟩
theorem de_meth0 (names : List Str) {pl : Sem Bool} (c : Cls X.K C) (hm : Meth X.K C m f) (F : FnOk X.prog X.w X.K X.mg X.base CX0 k f fd ps (liftSp sp)) (hr : Room k X.A) (hb : Binds X.K fd ps []) (he : DE X o te) (hn : m ∉ names := by decide +kernel)
    (ht : eval (.Call (.Attribute o m apos) [] [] pos) X.env = (do
      let ov ← eval o X.env
      standAt apos.atName
      let (f, first) ← holding [ov] (getMethod ov m pl)
      callWith pos f first (backTo pos (starEach [] X.env)) (backToKw pos (keywordEach [] X.env))) := by rfl) : DE X (.Call (.Attribute o m apos) [] [] pos) (dMeth C names sp te dNil) :=
  ⟨pe_imp (pe_meth0 he.pe c hm F hr hb .nil pass0 ht) fun σ H Q h => by
    obtain ⟨G, M, s, R, r, sl, q, c⟩ := h
    refine ⟨G, M, s, _, r, sl, q, fun x M1 G1 H1 v p1 a1 q1 => ?_⟩
    obtain ⟨fs, rfl, en, q2⟩ := q1.at
    cases id a1 with
    | obj h e2 r2 =>
      exact ⟨_, _, _, rfl, p1.rep.ge.hd _ _ rfl h, lookup_no (by rw [← e2, en]; exact hn), G1, M1, _, R, X0, p1.rep, .cons a1 .nil, q2, fun d M3 G3 H3 v p3 => c d M3 G3 H3 v (p1.trans p3), dx0⟩⟩
/-- e.f, a property of a frozen object -/
abbrev dProp (C : Addr) (sp : DSp) (te : DTE) : DTE := fun s M Q => te s M fun x M1 => match x with
  | .obj C' fs => C' = C ∧ sp [.obj C' fs] M1 Q X0
  | _ => False
theorem de_prop {g pr : Addr} {f : Str} (c : Cls X.K C) (hp : PropOf X.K C f pr g) (F : FnOk X.prog X.w X.K X.mg X.base CX0 k g fd ps (liftSp sp)) (hr : Room (k + 1) X.A) (hb : Binds X.K fd ps []) (he : DE X e te) (hab : attributeBase e f X.env (eval e X.env) = eval e X.env := by rfl) :
    DE X (.Attribute e f pos) (dProp C sp te) := ⟨pe_imp (pe_prop he.pe c hp F hr hb .nil pass0 hab) fun σ H Q ⟨G, M, s, R, r, sl, q, cl⟩ => ⟨G, M, s, _, r, sl, q, fun x M1 G1 H1 v p1 a1 q1 => by
  cases x <;> first | exact q1.elim | skip
  obtain ⟨rfl, q2⟩ := q1
  cases id a1 with
  | obj h e2 r2 => exact ⟨_, _, _, rfl, p1.rep.ge.hd _ _ rfl h, G1, M1, _, R, X0, p1.rep, .cons a1 .nil, q2, fun d M3 G3 H3 v p3 => cl d M3 G3 H3 v (p1.trans p3), dx0⟩⟩⟩
/-! ### making -/
theorem stp_made {G : Hp} {M : MM} {H : Hp} {x dx : Addr} (r : Rep G M H) (hx : H x = none) (hd : H dx = none) (ne : dx ≠ x) : Stp G M H G (updM M x (.ins C [])) (upd (upd H dx (.own x)) x (.ins C dx [])) := by
  have p1 := Stp.extra (o := .own x) r hd
  have hx2 : upd H dx (.own x) x = none := by rw [upd_ne (Ne.symm ne)]; exact hx
  exact p1.trans (Stp.newM p1.rep hx2 (.ins rfl .nil))
/-- C(..): sp is __init__'s promise; mk what it comes to -/
def Makes (C : Addr) (sp mk : DSp) : Prop := ∀ ds M Q x, M x = none → mk ds M Q X0 → sp (.adr x :: ds) (updM M x (.ins C [])) (fun v M2 => v = .non ∧ ∃ fs, M2 x = some (.ins C fs) ∧ Q (.obj C fs) (delM M2 x)) X0
theorem low_made {mk : DSp} (hmk : Makes C sp mk) {σ : L2.St} {H : Hp} {Q : VK} (h : low (dCall mk t) σ H Q) : lowA t σ H fun vs H1 => ∀ x dx, H1 x = none → H1 dx = none → dx ≠ x → liftSp sp (.ref x :: vs) (upd (upd H1 dx (.own x)) x (.ins C dx [])) (fun v H2 => v = .non ∧ Q (.ref x) H2) E0 := by
  obtain ⟨G, M, s, R, r, sl, q, c⟩ := h
  refine ⟨G, M, s, _, r, sl, q, fun ds M1 G1 H1 vs p1 a1 q1 x dx hx hd ne => ?_⟩
  have p2 := stp_made (C := C) p1.rep hx hd ne
  refine ⟨G1, _, _, _, X0, p2.rep, .cons (.adr x) (a1.mono p2.ge), hmk ds M1 R x (p1.rep.free hx).2 q1, fun d M3 G3 H3 v p3 a3 ⟨ed, fs, hM, q3⟩ => ?_, dx0⟩
  subst ed
  cases a3
  refine ⟨rfl, ?_⟩
  obtain ⟨hg, o, ho, ma⟩ := p3.rep.mu x _ hM
  cases ma with
  | ins e2 r2 =>
    have p4 := Stp.freeze p3.rep hM ho nofz_ins
    exact c _ _ _ _ _ (p1.trans (p2.trans (p3.trans p4))) (.obj upd_same e2 (r2.mono p4.ge)) q3
theorem de_make {mk : DSp} (hmk : Makes C sp mk) (Mk' : Mk X.K C f) (F : FnOk X.prog X.w X.K X.mg X.base CX0 k f fd ps (liftSp sp)) (hr : Room (k + 1) X.A) (hg : Gl X x) (hm : X.mg x = some (.ref C)) (hb : Binds X.K fd ps [])
    (ha : DA X (e :: es) t) (hdb : (x == ("__debug__" : Str)) = false := by decide) (he : starEach (e :: es) X.env = (false, eval e X.env) :: starEach es X.env := by rfl) (hpl : (backTo pos (starEach es X.env)).any (·.1) = false := by rfl) :
    DE X (.Call (.Name x p) (e :: es) [] pos) (dCall mk t) := ⟨pe_imp (pe_make Mk' F hr hg hm hb .nil pass0 ha.pa hdb he hpl) fun σ H Q h => by
  obtain ⟨G, M, s, R, r, sl, q, c⟩ := low_made hmk h
  refine ⟨G, M, s, R, r, sl, q, fun ds M1 G1 H1 vs p1 a1 q1 y dy hy hd ne => ?_⟩
  rw [List.append_nil]
  exact c ds M1 G1 H1 vs p1 a1 q1 y dy hy hd ne⟩
theorem de_makeR {mk : DSp} (hmk : Makes C sp mk) (Mk' : Mk X.K C f) (F : FnR X.prog X.w X.K X.mg X.base CX0 k f (liftSp sp)) (hr : Room (k + 1) X.A) (hg : Gl X x) (hm : X.mg x = some (.ref C))
    (ha : DA X (e :: es) t) (hdb : (x == ("__debug__" : Str)) = false := by decide) (he : starEach (e :: es) X.env = (false, eval e X.env) :: starEach es X.env := by rfl) (hpl : (backTo pos (starEach es X.env)).any (·.1) = false := by rfl) :
    DE X (.Call (.Name x p) (e :: es) [] pos) (dCall mk t) := ⟨pe_imp (StX.pe_makeR Mk' F hr hg hm pass0 ha.pa hdb he hpl) fun σ H Q h => low_made hmk h⟩
end
end D

set_option Elab.async false
set_option linter.all false
set_option maxRecDepth 100000
/-! D7: operators, subscripts, built-ins by deep values. -/
namespace D
open PySem PySem.Spec PyProof.Rows L2

/-- a changing container is read as if it were frozen -/
abbrev view (M : MM) : DV → DV
  | .adr a => match M a with
    | some (.lst xs) => .lst xs
    | some (.dK ks) => .dK ks
    | some (.dT ks) => .dT ks
    | _ => .adr a
  | d => d
inductive VAt (G H : Hp) : DV → V → Prop where
  | non : VAt G H .non .non
  | bl (b : Bool) : VAt G H (.bl b) (.bl b)
  | int (i : Int) : VAt G H (.int i) (.int i)
  | str (x : Str) : VAt G H (.str x) (.str x)
  | byt (b : Array UInt8) : VAt G H (.byt b) (.byt b)
  | ty (n : String) : VAt G H (.ty n) (.ty n)
  | adr (a : Addr) : VAt G H (.adr a) (.ref a)
  | lst {a : Addr} {vs : List V} {xs : List DV} (h : Rd H a (.lst vs)) (r : AtL G xs vs) : VAt G H (.lst xs) (.ref a)
  | tup {a : Addr} {vs : List V} {xs : List DV} (h : Rd H a (.tup vs)) (r : AtL G xs vs) : VAt G H (.tup xs) (.ref a)
  | dK {a : Addr} {kvs : List (Key × V)} {ks : List (Key × DV)} (h : Rd H a (.dK kvs)) (e : ks.map Prod.fst = kvs.map Prod.fst) (r : AtL G (ks.map Prod.snd) (kvs.map Prod.snd)) : VAt G H (.dK ks) (.ref a)
  | dT {a : Addr} {kvs : List (List Key × V)} {ks : List (List Key × DV)} (h : Rd H a (.dT kvs)) (e : ks.map Prod.fst = kvs.map Prod.fst) (r : AtL G (ks.map Prod.snd) (kvs.map Prod.snd)) : VAt G H (.dT ks) (.ref a)
  | obj {a C dx : Addr} {fs : List (Str × V)} {gs : List (Str × DV)} (h : H a = some (.ins C dx fs)) (e : gs.map Prod.fst = fs.map Prod.fst) (r : AtL G (gs.map Prod.snd) (fs.map Prod.snd)) : VAt G H (.obj C gs) (.ref a)
theorem view_at {G : Hp} {M : MM} {H : Hp} (rp : Rep G M H) {d : DV} {v : V} (h : At G d v) : VAt G H (view M d) v := by
  cases h with
  | non => exact .non
  | bl b => exact .bl b
  | int i => exact .int i
  | str x => exact .str x
  | byt b => exact .byt b
  | ty n => exact .ty n
  | lst h r => exact .lst (rp.ge.rd _ _ h) r
  | tup h r => exact .tup (rp.ge.rd _ _ h) r
  | dK h e r => exact .dK (rp.ge.rd _ _ h) e r
  | dT h e r => exact .dT (rp.ge.rd _ _ h) e r
  | obj h e r => exact .obj (rp.ge.hd _ _ rfl h) e r
  | adr a =>
    show VAt G H (match M a with
    | some (.lst xs) => .lst xs
    | some (.dK ks) => .dK ks
    | some (.dT ks) => .dT ks
    | _ => .adr a) (.ref a)
    cases em : M a with
    | none => exact .adr a
    | some m =>
      obtain ⟨_, o, ho, ma⟩ := rp.mu a m em
      cases ma with
      | lst r => exact .lst (.inl ho) r
      | dK e r => exact .dK (.inl ho) e r
      | dT e r => exact .dT (.inl ho) e r
      | ins e r => exact .adr a
section
variable {X : Cx}

/-! ### ints -/
abbrev rAddD : DR2 := fun x y M Q => match x, y with
  | .int i, .int j => Q (.int (i + j)) M
  | .str a, .str b => a.length + b.length ≤ sizeLine ∧ Q (.str (a ++ b)) M
  | _, _ => False
theorem od_add : OpR X (binaryOp .Add) (low2 rAddD) := D.OpR.imp (L2.OpR.or op_add op_add_str) fun x y H Q ⟨G, M, d, e, R, rp, ax, ay, q, c⟩ => by
  cases ax <;> cases ay <;> first | exact q.elim | skip
  · exact .inl ⟨_, _, rfl, rfl, c _ M G H _ (Stp.refl rp) (.int _) q⟩
  · exact .inr ⟨_, _, rfl, rfl, q.1, c _ M G H _ (Stp.refl rp) (.str _) q.2⟩
theorem low_i2 {C : Int → Int → Prop} {g : Int → Int → DV} {g' : Int → Int → V} (hg : ∀ G i j, At G (g i j) (g' i j)) {f : Value → Value → Sem Value} (h : OpR X f (rI C g')) :
    OpR X f (low2 fun x y M Q => match x, y with
      | .int i, .int j => C i j ∧ Q (g i j) M
      | _, _ => False) := D.OpR.imp h fun x y H Q ⟨G, M, d, e, R, rp, ax, ay, q, c⟩ => by
  cases ax <;> cases ay <;> first | exact q.elim | exact ⟨_, _, rfl, rfl, q.1, c _ M G H _ (Stp.refl rp) (hg _ _ _) q.2⟩
theorem low_i0 {g : Int → Int → DV} {g' : Int → Int → V} (hg : ∀ G i j, At G (g i j) (g' i j)) {f : Value → Value → Sem Value} (h : OpR X f (rI0 g')) :
    OpR X f (low2 fun x y M Q => match x, y with
      | .int i, .int j => Q (g i j) M
      | _, _ => False) := D.OpR.imp h fun x y H Q ⟨G, M, d, e, R, rp, ax, ay, q, c⟩ => by
  cases ax <;> cases ay <;> first | exact q.elim | exact ⟨_, _, rfl, rfl, c _ M G H _ (Stp.refl rp) (hg _ _ _) q⟩
abbrev rI2 (C : Int → Int → Prop) (g : Int → Int → DV) : DR2 := fun x y M Q => match x, y with
  | .int i, .int j => C i j ∧ Q (g i j) M
  | _, _ => False
abbrev rI1 (g : Int → Int → DV) : DR2 := fun x y M Q => match x, y with
  | .int i, .int j => Q (g i j) M
  | _, _ => False
theorem od_sub : OpR X (binaryOp .Sub) (low2 (rI1 fun i j => .int (i - j))) := low_i0 (fun _ _ _ => .int _) op_sub
theorem od_mul : OpR X (binaryOp .Mult) (low2 (rI2 CMul fun i j => .int (i * j))) := low_i2 (fun _ _ _ => .int _) op_mul
theorem od_mod : OpR X (binaryOp .Mod) (low2 (rI2 (fun _ j => 0 < j) fun i j => .int (i % j))) := low_i2 (fun _ _ _ => .int _) op_mod
theorem od_pow : OpR X (binaryOp .Pow) (low2 (rI2 CPow fun i j => .int (i ^ j.toNat))) := low_i2 (fun _ _ _ => .int _) op_pow
theorem od_fdiv : OpR X (binaryOp .FloorDiv) (low2 (rI2 CDiv fun i j => .int (i / j))) := low_i2 (fun _ _ _ => .int _) op_fdiv
theorem od_lt : OpR X (compareOp .Lt) (low2 (rI1 fun i j => .bl (decide (i < j)))) := low_i0 (fun _ _ _ => .bl _) op_lt
theorem od_le : OpR X (compareOp .LtE) (low2 (rI1 fun i j => .bl (decide (i ≤ j)))) := low_i0 (fun _ _ _ => .bl _) op_le
theorem od_gt : OpR X (compareOp .Gt) (low2 (rI1 fun i j => .bl (decide (j < i)))) := low_i0 (fun _ _ _ => .bl _) op_gt
theorem od_ge : OpR X (compareOp .GtE) (low2 (rI1 fun i j => .bl (decide (j ≤ i)))) := low_i0 (fun _ _ _ => .bl _) op_ge
abbrev uNegD (te : DTE) : DTE := fun s M Q => te s M fun x M1 => match x with
  | .int i => Q (.int (-i)) M1
  | _ => False
theorem de_neg {a : Expr} {ta : DTE} {pos : Pos} (ha : DE X a ta) : DE X (.UnaryOp .USub a pos) (uNegD ta) := ⟨pe_imp (pe_un un_neg ha.pe) fun σ H Q ⟨G, M, s, R, r, sl, q, c⟩ => ⟨G, M, s, _, r, sl, q, fun x M1 G1 H1 v p1 a1 q1 => by
  cases a1 <;> first | exact q1.elim | exact ⟨_, rfl, c _ M1 G1 H1 _ p1 (.int _) q1⟩⟩⟩

/-! ### == and != -/
theorem rc_lst0 {A : Around} {s : Shared} {l b : Addr} {its : List Value} (hu : A.units < cLine) (hl : s.heap.IsList l its.toArray) (hb : s.heap.IsList b (#[] : Array Value)) : SeqAt.RcAt A s (.ref l) (.ref b) its.isEmpty := by
  cases its with
  | nil => exact SeqAt.RcAt.lists (e := fun _ => true) hl hb rfl hu (fun j h1 _ => absurd h1 (Nat.not_lt_zero _))
  | cons x r => exact SeqAt.RcAt.lists_lengths hl hb (by simp) hu
theorem rc_tup0 {A : Around} {s : Shared} {l b : Addr} {its : List Value} (hu : A.units < cLine) (hl : s.heap.IsTuple l its.toArray) (hb : s.heap.IsTuple b (#[] : Array Value)) : SeqAt.RcAt A s (.ref l) (.ref b) its.isEmpty := by
  have z := SeqAt.RcAt.tuples (e := fun _ => true) hl hb hu (fun j _ h2 => absurd h2 (Nat.not_lt_zero _))
  have e : ((List.range (min its.toArray.size (#[] : Array Value).size)).all (fun _ => true) && its.toArray.size == (#[] : Array Value).size) = its.isEmpty := by
    cases its <;> simp
  rw [e] at z; exact z
theorem rn_lst0 {A : Around} {s : Shared} {l b : Addr} {its : List Value} (hu : A.units < cLine) (hl : s.heap.IsList l its.toArray) (hb : s.heap.IsList b (#[] : Array Value)) : SeqAt.RcNeAt A s (.ref l) (.ref b) (!its.isEmpty) := by
  cases its with
  | nil => exact SeqAt.RcNeAt.lists (e := fun _ => true) hl hb rfl hu (fun j h1 _ => absurd h1 (Nat.not_lt_zero _))
  | cons x r => exact SeqAt.RcNeAt.lists_lengths hl hb (by simp) hu
theorem rn_tup0 {A : Around} {s : Shared} {l b : Addr} {its : List Value} (hu : A.units < cLine) (hl : s.heap.IsTuple l its.toArray) (hb : s.heap.IsTuple b (#[] : Array Value)) : SeqAt.RcNeAt A s (.ref l) (.ref b) (!its.isEmpty) := by
  have z := SeqAt.RcNeAt.tuples (e := fun _ => true) hl hb hu (fun j _ h2 => absurd h2 (Nat.not_lt_zero _))
  have e : ((List.range (min its.toArray.size (#[] : Array Value).size)).all (fun _ => true) && its.toArray.size == (#[] : Array Value).size) = its.isEmpty := by
    cases its <;> simp
  rw [e] at z; exact z
theorem isE {α β : Type} {xs : List α} {ys : List β} (h : xs.length = ys.length) : xs.isEmpty = ys.isEmpty := by
  cases xs <;> cases ys <;> simp_all
theorem keq_e {P : Program} {w : World} {A : Around} {s : Shared} {ka : List (Key × Value)} (h : ka.length = ([] : List (Key × Value)).length) : PySem.W.KeqHits A s ([] : List (Key × Value)) ka true := by
  cases ka with
  | nil => exact .nil
  | cons _ _ => simp at h
abbrev rEqG2 : DR2 := fun x y M Q => match view M x, view M y with
  | .int i, .int j => Q (.bl (decide (i = j))) M
  | .str i, .str j => Q (.bl (decide (i = j))) M
  | .bl i, .bl j => Q (.bl (decide (i = j))) M
  | .non, .non => Q (.bl true) M
  | .lst xs, .lst [] => Q (.bl xs.isEmpty) M
  | .tup xs, .tup [] => Q (.bl xs.isEmpty) M
  | .dK xs, .dK [] => Q (.bl xs.isEmpty) M
  | _, _ => False
abbrev rNeG2 : DR2 := fun x y M Q => match view M x, view M y with
  | .int i, .int j => Q (.bl (!decide (i = j))) M
  | .str i, .str j => Q (.bl (!decide (i = j))) M
  | .bl i, .bl j => Q (.bl (!decide (i = j))) M
  | .non, .non => Q (.bl false) M
  | .lst xs, .lst [] => Q (.bl (!xs.isEmpty)) M
  | .tup xs, .tup [] => Q (.bl (!xs.isEmpty)) M
  | .dK xs, .dK [] => Q (.bl (!xs.isEmpty)) M
  | _, _ => False
theorem dec_v {α : Type} [DecidableEq α] {f : α → V} (hf : ∀ a b, f a = f b → a = b) (a b : α) : decide (f a = f b) = decide (a = b) := by
  by_cases h : a = b
  · subst h; simp
  · rw [decide_eq_false h, decide_eq_false fun e => h (hf _ _ e)]
theorem od_eq (hu : X.A.units < cLine) : OpR X (compareOp .Eq) (low2 rEqG2) := by
  intro pins s σ H x y v u Q I rx ry ⟨G, M, d, e, R, rp, ax, ay, q, c⟩
  have fin : ∀ {b : Bool}, R (.bl b) M → Q (.bl b) H := fun q => c _ M G H _ (Stp.refl rp) (.bl _) q
  have bx := view_at rp ax
  have bY := view_at rp ay
  unfold rEqG2 at q
  generalize view M d = d' at q bx
  generalize view M e = e' at q bY
  cases bx <;> cases bY <;> first | exact q.elim | skip
  · exact op_eq pins s σ H _ _ v u Q I rx ry ⟨rfl, by simpa using fin q⟩
  · exact op_eq pins s σ H _ _ v u Q I rx ry ⟨rfl, by rw [dec_v fun _ _ => V.bl.inj]; exact fin q⟩
  · exact op_eq pins s σ H _ _ v u Q I rx ry ⟨rfl, by rw [dec_v fun _ _ => V.int.inj]; exact fin q⟩
  · exact op_eq pins s σ H _ _ v u Q I rx ry ⟨rfl, by rw [dec_v fun _ _ => V.str.inj]; exact fin q⟩
  · rename_i a vs xs h r b ws ys h2 r2
    cases ys with
    | cons _ _ => exact q.elim
    | nil =>
      obtain rfl := r2.nil_inv
      obtain rfl : v = Value.ref a := rx
      obtain rfl : u = Value.ref b := ry
      obtain ⟨its, rv, p, _⟩ := I.list (.inl h)
      obtain ⟨its2, rv2, p2, _⟩ := I.list (.inl h2)
      cases rv2
      refine rc_lst0 hu p.isList p2.isList X.prog X.w _ _ ⟨.bl _, H, I, rfl, ?_⟩
      rw [← isE (r.length.trans rv.length)]; exact fin q
  · rename_i a vs xs h r b ws ys h2 r2
    cases ys with
    | cons _ _ => exact q.elim
    | nil =>
      obtain rfl := r2.nil_inv
      obtain rfl : v = Value.ref a := rx
      obtain rfl : u = Value.ref b := ry
      obtain ⟨its, rv, p, _⟩ := I.tuple (.inl h)
      obtain ⟨its2, rv2, p2, _⟩ := I.tuple (.inl h2)
      cases rv2
      refine rc_tup0 hu p p2 X.prog X.w _ _ ⟨.bl _, H, I, rfl, ?_⟩
      rw [← isE (r.length.trans rv.length)]; exact fin q
  · rename_i a vs xs h e1 r b ws ys h2 e2 r2
    cases ys with
    | cons _ _ => exact q.elim
    | nil =>
      have hw : ws = [] := by cases ws with
        | nil => rfl
        | cons _ _ => simp at e2
      subst hw
      obtain rfl : v = Value.ref a := rx
      obtain rfl : u = Value.ref b := ry
      obtain ⟨_, ya, va, ra, da⟩ := dk_rd I.hok h
      obtain ⟨_, yb, vb, rb, db⟩ := dk_rd I.hok h2
      cases rb
      refine PySem.W.keq_eq (knd := mixKind X.prog X.w) (r := true) ya yb da db hu (fun z => keq_e (P := X.prog) (w := X.w) z) ⟨.bl _, H, I, rfl, ?_⟩
      have : (va.length == ([] : List (Key × Value)).length && true) = xs.isEmpty := by
        rw [isE ((len_fst e1).trans ra.length)]; cases va <;> simp
      rw [this]; exact fin q
theorem od_ne (hu : X.A.units < cLine) : OpR X (compareOp .NotEq) (low2 rNeG2) := by
  intro pins s σ H x y v u Q I rx ry ⟨G, M, d, e, R, rp, ax, ay, q, c⟩
  have fin : ∀ {b : Bool}, R (.bl b) M → Q (.bl b) H := fun q => c _ M G H _ (Stp.refl rp) (.bl _) q
  have bx := view_at rp ax
  have bY := view_at rp ay
  unfold rNeG2 at q
  generalize view M d = d' at q bx
  generalize view M e = e' at q bY
  cases bx <;> cases bY <;> first | exact q.elim | skip
  · exact op_ne pins s σ H _ _ v u Q I rx ry ⟨rfl, by simpa using fin q⟩
  · exact op_ne pins s σ H _ _ v u Q I rx ry ⟨rfl, by rw [dec_v fun _ _ => V.bl.inj]; exact fin q⟩
  · exact op_ne pins s σ H _ _ v u Q I rx ry ⟨rfl, by rw [dec_v fun _ _ => V.int.inj]; exact fin q⟩
  · exact op_ne pins s σ H _ _ v u Q I rx ry ⟨rfl, by rw [dec_v fun _ _ => V.str.inj]; exact fin q⟩
  · rename_i a vs xs h r b ws ys h2 r2
    cases ys with
    | cons _ _ => exact q.elim
    | nil =>
      obtain rfl := r2.nil_inv
      obtain rfl : v = Value.ref a := rx
      obtain rfl : u = Value.ref b := ry
      obtain ⟨its, rv, p, _⟩ := I.list (.inl h)
      obtain ⟨its2, rv2, p2, _⟩ := I.list (.inl h2)
      cases rv2
      refine rn_lst0 hu p.isList p2.isList X.prog X.w _ _ ⟨.bl _, H, I, rfl, ?_⟩
      rw [← isE (r.length.trans rv.length)]; exact fin q
  · rename_i a vs xs h r b ws ys h2 r2
    cases ys with
    | cons _ _ => exact q.elim
    | nil =>
      obtain rfl := r2.nil_inv
      obtain rfl : v = Value.ref a := rx
      obtain rfl : u = Value.ref b := ry
      obtain ⟨its, rv, p, _⟩ := I.tuple (.inl h)
      obtain ⟨its2, rv2, p2, _⟩ := I.tuple (.inl h2)
      cases rv2
      refine rn_tup0 hu p p2 X.prog X.w _ _ ⟨.bl _, H, I, rfl, ?_⟩
      rw [← isE (r.length.trans rv.length)]; exact fin q
  · rename_i a vs xs h e1 r b ws ys h2 e2 r2
    cases ys with
    | cons _ _ => exact q.elim
    | nil =>
      have hw : ws = [] := by cases ws with
        | nil => rfl
        | cons _ _ => simp at e2
      subst hw
      obtain rfl : v = Value.ref a := rx
      obtain rfl : u = Value.ref b := ry
      obtain ⟨_, ya, va, ra, da⟩ := dk_rd I.hok h
      obtain ⟨_, yb, vb, rb, db⟩ := dk_rd I.hok h2
      cases rb
      refine PySem.W.keq_ne (knd := mixKind X.prog X.w) (r := true) ya yb da db hu (fun z => keq_e (P := X.prog) (w := X.w) z) ⟨.bl _, H, I, rfl, ?_⟩
      have : (!(va.length == ([] : List (Key × Value)).length && true)) = !xs.isEmpty := by
        rw [isE ((len_fst e1).trans ra.length)]; cases va <;> simp
      rw [this]; exact fin q
end
end D

set_option Elab.async false
set_option linter.all false
set_option maxRecDepth 100000
set_option maxHeartbeats 1000000
/-! S1: sets of ints and texts, made from a list, a tuple, a dict; their sorted list. -/
namespace D
open PySem PySem.Spec PyProof.Rows L2

def hasKey (ks : List Key) (k : Key) : Bool := ks.any fun j => decide (j = k)
theorem hasKey_iff {ks : List Key} {k : Key} : hasKey ks k = true ↔ k ∈ ks := by
  unfold hasKey
  rw [List.any_eq_true]
  constructor
  · rintro ⟨j, hj, e⟩; rw [← of_decide_eq_true e]; exact hj
  · intro h; exact ⟨k, h, decide_eq_true rfl⟩
def addK (ks : List Key) (k : Key) : List Key := if hasKey ks k = true then ks else ks ++ [k]
def dedup (ks : List Key) : List Key := ks.foldl addK []
theorem addK_in {ks : List Key} {k : Key} (h : k ∈ ks) : addK ks k = ks := if_pos (hasKey_iff.mpr h)
theorem addK_new {ks : List Key} {k : Key} (h : k ∉ ks) : addK ks k = ks ++ [k] := if_neg fun z => h (hasKey_iff.mp z)
theorem addK_nodup {ks : List Key} (h : ks.Nodup) (k : Key) : (addK ks k).Nodup := by
  by_cases hk : k ∈ ks
  · rw [addK_in hk]; exact h
  · rw [addK_new hk, List.nodup_append]
    exact ⟨h, by simp, fun a ha b hb e => by simp at hb; subst hb; exact hk (e ▸ ha)⟩
theorem addK_length (ks : List Key) (k : Key) : (addK ks k).length ≤ ks.length + 1 := by
  by_cases hk : k ∈ ks
  · rw [addK_in hk]; omega
  · rw [addK_new hk]; simp
theorem mem_addK {ks : List Key} {k j : Key} : j ∈ addK ks k ↔ j ∈ ks ∨ j = k := by
  by_cases hk : k ∈ ks
  · rw [addK_in hk]
    exact ⟨.inl, fun h => h.elim id fun e => e ▸ hk⟩
  · rw [addK_new hk]; simp
/-- the set at a has just the keys ks; it can be walked -/
def SetG (P : Program) (w : World) (h : Heap) (a : Addr) (ks : List Key) : Prop :=
  ∃ o es ep t, h.get? a = some o ∧ o.ExactSet ∧ o.data = .set es ep t ∧ ElemsOf (mixKind P w) es.toList ∧ (∃ js : List Key, js.Perm ks ∧ Paired (fun (k : Key) (e : Int × Value) => keyIs k e.2 = true) js es.toList) ∧ ks.Nodup ∧
    es.size < scanBound ∧ t.fits es.size = true ∧ Ris t.place.toList ∧ (w.params.followText "set-order" = true ∨ t.led = true)
section
variable {P : Program} {w : World} {A : Around} {E : Value → Shared → Prop} {s : Shared} {a : Addr} {ks : List Key}
theorem SetG.keep {h h' : Heap} (R : SetG P w h a ks) (k : ∀ o, h.get? a = some o → h'.get? a = some o) : SetG P w h' a ks := by
  obtain ⟨o, es, ep, t, ho, r⟩ := R
  exact ⟨o, es, ep, t, k o ho, r⟩
theorem SetG.size {h : Heap} (R : SetG P w h a ks) : ∃ o es ep t, h.get? a = some o ∧ o.data = .set es ep t ∧ es.size = ks.length := by
  obtain ⟨o, es, ep, t, ho, _, hd, _, ⟨js, p, q⟩, _⟩ := R
  exact ⟨o, es, ep, t, ho, hd, by rw [← p.length_eq, q.length, Array.length_toList]⟩
theorem paired_perm {α β : Type} {F : α → β → Prop} : ∀ {l₂ l₂' : List β}, l₂'.Perm l₂ → ∀ {l₁ : List α}, Paired F l₁ l₂ → ∃ l₁', l₁'.Perm l₁ ∧ Paired F l₁' l₂' := by
  intro l₂ l₂' h
  induction h with
  | nil => intro l₁ q; cases q; exact ⟨[], .nil, .nil⟩
  | cons x _ ih =>
    intro l₁ q
    cases q with
    | cons a t =>
      obtain ⟨m, p, r⟩ := ih t
      exact ⟨_, p.cons _, .cons a r⟩
  | swap x y l =>
    intro l₁ q
    cases q with
    | cons a t =>
      cases t with
      | cons b u => exact ⟨_, List.Perm.swap _ _ _, .cons b (.cons a u)⟩
  | trans _ _ ih1 ih2 =>
    intro l₁ q
    obtain ⟨m, p, r⟩ := ih2 q
    obtain ⟨m2, p2, r2⟩ := ih1 r
    exact ⟨m2, p2.trans p, r2⟩
theorem paired_mem {α β : Type} {F : α → β → Prop} : ∀ {l₁ : List α} {l₂ : List β}, Paired F l₁ l₂ → ∀ {b : β}, b ∈ l₂ → ∃ a ∈ l₁, F a b
  | _, _, .nil, b, h => by cases h
  | _, _, .cons a t, b, h => by
    rcases List.mem_cons.mp h with e | e
    · subst e; exact ⟨_, List.mem_cons_self, a⟩
    · obtain ⟨x, hx, q⟩ := paired_mem t e
      exact ⟨x, List.mem_cons_of_mem _ hx, q⟩
theorem paired_mem' {α β : Type} {F : α → β → Prop} : ∀ {l₁ : List α} {l₂ : List β}, Paired F l₁ l₂ → ∀ {a : α}, a ∈ l₁ → ∃ b ∈ l₂, F a b
  | _, _, .nil, b, h => by cases h
  | _, _, .cons a t, b, h => by
    rcases List.mem_cons.mp h with e | e
    · subst e; exact ⟨_, List.mem_cons_self, a⟩
    · obtain ⟨x, hx, q⟩ := paired_mem' t e
      exact ⟨x, List.mem_cons_of_mem _ hx, q⟩
theorem keyIs_inj {j k : Key} {v : Value} (h1 : keyIs j v = true) (h2 : keyIs k v = true) : j = k := by
  rcases keyIs_shape h1 with ⟨i, t, rfl, rfl⟩ | ⟨x, t, rfl, rfl⟩ <;> rcases keyIs_shape h2 with ⟨i2, t2, rfl, e⟩ | ⟨x2, t2, rfl, e⟩ <;> cases e <;> rfl
theorem scan_of_key {k : Key} {v : Value} (h : keyIs k v = true) : v.scannable = true := by
  rcases keyIs_shape h with ⟨i, t, _, rfl⟩ | ⟨x, t, _, rfl⟩ <;> rfl
/-- what is stored -/
theorem setG_store {o : Obj} {es : Array (Int × Value)} {ep : Nat} {t : SetTable} (ho : s.heap.get? a = some o) (hex : o.ExactSet) (hd : o.data = .set es ep t) {es1 : Array (Int × Value)} {t1 : SetTable}
    (hel : ElemsOf (mixKind P w) es1.toList) (hj : ∃ js : List Key, js.Perm ks ∧ Paired (fun (k : Key) (e : Int × Value) => keyIs k e.2 = true) js es1.toList) (nd : ks.Nodup) (hb : es1.size < scanBound) (hf : t1.fits es1.size = true) (hr : Ris t1.place.toList)
    (hl : w.params.followText "set-order" = true ∨ t1.led = true) : ∃ o1, (s.heap.update a (Obj.putSet es1 t1)).get? a = some o1 ∧ o1.ExactSet ∧ o1.data = .set es1 (ep + 1) t1 ∧ SetG P w (s.heap.update a (Obj.putSet es1 t1)) a ks :=
  have h1 := L2.store_at (es' := es1) (t' := t1) ho hd
  ⟨_, h1, hex, rfl, _, es1, _, t1, h1, hex, rfl, hel, hj, nd, hb, hf, hr, hl⟩
theorem setG_add {k : Key} {v : Value} {Q : Bool → Shared → Prop} (R : SetG P w s.heap a ks) (hk : keyIs k v = true) (room : ks.length + 1 < scanBound)
    (hQ : ∀ h' b, Heap.SameBut a s.heap h' → SetG P w h' a (addK ks k) → Q b { s with heap := h' }) : wpAny (model P w) A (setAddHashed a v (keyH w k)) Q E s := by
  obtain ⟨o, es, ep, t, ho, hex, hd, hel, ⟨js, pj, qj⟩, nd, hb, hf, hr, hl⟩ := id R
  have hn : es.size = ks.length := by rw [← pj.length_eq, qj.length, Array.length_toList]
  have hsc := scan_of_key hk
  have hkey : (mixKind P w).is k v = true := hk
  have hash : keyH w k = (mixKind P w).hash k := rfl
  unfold setAddHashed setAddHashedIn
  refine wpAny_holding (wpAny_bind (wpAny_setState_of ho hd hf ?_))
  dsimp only
  rw [byScan_of hsc hb hel, if_pos rfl]
  unfold setAddByScan
  refine wpAny_bind (wpAny_bind (wpAny_rule (wpAny_bind ?_)))
  rw [hash]
  refine wpAny_setScan_of hkey ho hd hf hel ?_
  cases hfi : List.findIdx? (fun e => (mixKind P w).is k e.2) es.toList with
  | some j =>
    obtain ⟨hjl, pjk, _⟩ := List.findIdx?_eq_some_iff_getElem.mp hfi
    have hin : k ∈ ks := by
      obtain ⟨i, hi, q⟩ := paired_mem qj (List.getElem_mem hjl)
      have e : i = k := keyIs_inj q pjk
      subst e
      exact pj.mem_iff.mp hi
    refine wpAny_pure (wpAny_pure (hQ s.heap false (Heap.SameBut.refl a s.heap) ?_))
    rw [addK_in hin]
    exact R
  | none =>
    have hno : k ∉ ks := fun z => by
      obtain ⟨e, he, q⟩ := paired_mem' qj (pj.mem_iff.mpr z)
      have c := List.findIdx?_eq_none_iff.mp hfi e he
      have q' : (mixKind P w).is k e.2 = true := q
      rw [q'] at c; cases c
    have ea : addK ks k = ks ++ [k] := addK_new hno
    dsimp only
    have pm := layNew_perm t es ((mixKind P w).hash k) v
    have f1 := layNew_fits t es ((mixKind P w).hash k) v
    have r1 := L2.layNew_ris t es ((mixKind P w).hash k) v hr
    have l1 := L2.layNew_led t es ((mixKind P w).hash k) v
    generalize layNew t es ((mixKind P w).hash k) v = Z at pm f1 r1 l1 ⊢
    obtain ⟨es1, t1, wasDummy, gave⟩ := Z
    dsimp only at pm f1 r1 l1 ⊢
    rw [Array.toList_push] at pm
    have hel1 : ElemsOf (mixKind P w) es1.toList := (hel.push hkey hsc).perm pm
    have hj1 : ∃ js' : List Key, js'.Perm (ks ++ [k]) ∧ Paired (fun (k : Key) (e : Int × Value) => keyIs k e.2 = true) js' es1.toList := by
      obtain ⟨l, p, q⟩ := paired_perm pm (qj.snoc (a := k) (b := ((mixKind P w).hash k, v)) hk)
      exact ⟨l, p.trans (pj.append_right _), q⟩
    have hsz : es1.size = ks.length + 1 := by rw [← Array.length_toList, pm.length_eq, List.length_append, Array.length_toList, hn] <;> rfl
    have hb1 : es1.size < scanBound := by rw [hsz]; exact room
    have nd1 : (ks ++ [k]).Nodup := by rw [← ea]; exact addK_nodup nd k
    have hl1 : w.params.followText "set-order" = true ∨ t1.led = true := hl.imp id fun z => by rw [l1]; exact z
    rw [ea] at hQ
    have gw : ∀ (b : Bool) {s₁ : Shared} {Q' : Unit → Shared → Prop}, Q' () s₁ → wpAny (model P w) A (match b with | true => rule "set.scan.the-table-gave-way" | false => pure ()) Q' E s₁ := fun b s₁ Q' q => by
      cases b
      · exact wpAny_pure q
      · exact wpAny_rule q
    -- the two stores, whatever the table's plain mark
    have tail : ∀ t2 : SetTable, t2.fits es1.size = true → Ris t2.place.toList → (w.params.followText "set-order" = true ∨ t2.led = true) →
        wpAny (model P w) A (do
          storeSet a es1 t2
          if !wasDummy && t2.tooFull then
            let (es, t, gave) := relayAll t2 es1 (SetTable.grown es1.size)
            (match gave with | true => rule "set.scan.the-table-gave-way" | false => pure ())
            storeSet a es t
          return some true) (fun r s' => wpAny (model P w) A (match r with | some added => pure added | none => setAddHashedIn a v ((mixKind P w).hash k) 99999) Q E s') E s := by
      intro t2 f2 r2 l2
      have sb1 := Heap.SameBut.update s.heap a (Obj.putSet es1 t2)
      obtain ⟨o1, ho1, hex1, hd1, R1⟩ := setG_store (s := s) ho hex hd hel1 hj1 nd1 hb1 f2 r2 l2
      refine wpAny_bind (wpAny_storeSet_of ho hd ?_ (fits_of_scanBound hb1))
      by_cases hc : (!wasDummy && t2.tooFull) = true
      · rw [if_pos hc]
        have pm2 := relayAll_perm t2 es1 (SetTable.grown es1.size)
        have f3 := relayAll_fits t2 es1 (SetTable.grown es1.size)
        have r3 := L2.relayAll_ris t2 es1 (SetTable.grown es1.size)
        have l3 := L2.relayAll_led t2 es1 (SetTable.grown es1.size)
        generalize relayAll t2 es1 (SetTable.grown es1.size) = Y at pm2 f3 r3 l3 ⊢
        obtain ⟨es2, t3, gave2⟩ := Y
        dsimp only at pm2 f3 r3 l3 ⊢
        have hb2 : es2.size < scanBound := by rw [← Array.length_toList, pm2.length_eq, Array.length_toList]; exact hb1
        obtain ⟨l, p, q⟩ := paired_perm pm2 hj1.choose_spec.2
        have hj2 : ∃ js' : List Key, js'.Perm (ks ++ [k]) ∧ Paired (fun (k : Key) (e : Int × Value) => keyIs k e.2 = true) js' es2.toList := ⟨l, p.trans hj1.choose_spec.1, q⟩
        obtain ⟨o2, ho2, hex2, hd2, R2⟩ := setG_store (s := { s with heap := s.heap.update a (Obj.putSet es1 t2) }) ho1 hex1 hd1 (hel1.perm pm2) hj2 nd1 hb2 f3 r3 (l2.imp id fun z => by rw [l3]; exact z)
        refine wpAny_bind (gw _ (wpAny_bind (wpAny_storeSet_of ho1 hd1 ?_ (fits_of_scanBound hb2))))
        exact wpAny_pure (wpAny_pure (hQ _ true (sb1.trans (Heap.SameBut.update _ a _)) R2))
      · rw [if_neg hc]
        exact wpAny_pure (wpAny_pure (hQ _ true sb1 R1))
    refine wpAny_bind (gw _ ?_)
    by_cases hpl : t1.plain = true
    · rw [if_pos hpl]
      refine wpAny_bind ?_
      rw [hashByValue_scannable 8 hsc]
      refine wpAny_pure ?_
      by_cases hv : plainKind v = true
      · rw [if_pos hv]; exact tail t1 f1 r1 hl1
      · rw [if_neg hv]; exact tail _ (SetTable.fits_plain_off f1) r1 hl1
    · rw [if_neg hpl]
      refine wpAny_bind (wpAny_pure ?_)
      rw [if_pos rfl]
      exact tail t1 f1 r1 hl1
end
end D

set_option Elab.async false
set_option linter.all false
set_option maxRecDepth 100000
set_option maxHeartbeats 4000000
/-! S2: set(x) for x a list, a tuple, a dict. -/
namespace D
open PySem PySem.Spec PyProof.Rows L2
section
variable {P : Program} {w : World} {A : Around} {E : Value → Shared → Prop} {s : Shared}
theorem fold_length : ∀ (xs acc : List Key), (xs.foldl addK acc).length ≤ acc.length + xs.length
  | [], acc => by simp
  | x :: xs, acc => by
    have h1 := fold_length xs (addK acc x)
    have h2 := addK_length acc x
    simp only [List.foldl_cons, List.length_cons]
    omega
theorem dedup_length (xs : List Key) : (dedup xs).length ≤ xs.length := by
  have := fold_length xs []
  simpa [dedup] using this
theorem fold_nodup : ∀ (xs : List Key) {acc : List Key}, acc.Nodup → (xs.foldl addK acc).Nodup
  | [], _, h => h
  | x :: xs, _, h => fold_nodup xs (addK_nodup h x)
theorem dedup_nodup (xs : List Key) : (dedup xs).Nodup := fold_nodup xs List.nodup_nil
theorem mem_fold : ∀ (xs : List Key) {acc : List Key} {k : Key}, k ∈ xs.foldl addK acc ↔ k ∈ acc ∨ k ∈ xs
  | [], _, _ => by simp
  | x :: xs, acc, k => by
    rw [List.foldl_cons, mem_fold xs, mem_addK, List.mem_cons]
    exact or_assoc
theorem mem_dedup {xs : List Key} {k : Key} : k ∈ dedup xs ↔ k ∈ xs := by
  unfold dedup
  rw [mem_fold]; simp
theorem take_fold {xs : List Key} {i : Nat} {k : Key} (h : xs[i]? = some k) : (xs.take (i + 1)).foldl addK [] = addK ((xs.take i).foldl addK []) k := by
  rw [List.take_add_one, h, Option.toList_some, List.foldl_append]
  rfl
/-- the loop that fills a set from a walk -/
theorem setG_loop {I : Addr} {fp wr : List Addr} {G : Array GenState → Array GenState → Prop} {n : Nat} {Pv : Nat → Value → Prop} {St : Nat → Shared → Prop} {R : Result → Shared → Prop}
    (W : WalksS P w A.in1 I fp wr G n Pv St) (S : Addr) (hSf : S ∉ fp) (xs : List Key) (hn : n = xs.length) (hb : xs.length + 1 < scanBound) (hval : ∀ i v, Pv i v → ∃ k, xs[i]? = some k ∧ keyIs k v = true)
    (s0 : Shared)
    (hfin : ∀ s', Moved (S :: wr) G s0 s' → SetG P w s'.heap S (dedup xs) → R (.ok (.ret .none)) s') :
    ∀ (k i : Nat) (s : Shared), n - i = k → i ≤ n → St i s → SetG P w s.heap S ((xs.take i).foldl addK []) → Moved (S :: wr) G s0 s → codeAny (model P w) A (.builtin "set.update.loop" ⟨[.ref S, .ref I], []⟩) R s := by
  have hSw : S ∉ wr := fun h => hSf (W.sub _ h)
  have up : ∀ {s s' : Shared}, Moved wr G s s' → Moved (S :: wr) G s s' := fun m => m.mono fun b hb => List.mem_cons_of_mem _ hb
  intro k
  induction k with
  | zero =>
    intro i s hk hi hst hS hm0
    have e : i = n := by omega
    subst e
    refine codeAny_builtin F.entry_set_update_loop ?_
    rw [Around.under_plainId F.plain_set_update_loop _]
    show wpAny _ A.in1 (pyNext (.ref I) >>= _) _ _ s
    refine wpAny_bind (W.done s _ _ hst fun s' hm => wpAny_pure ?_)
    have eq : xs.take i = xs := List.take_of_length_le (by omega)
    rw [eq] at hS
    exact hfin s' (Moved.trans W.gtrans hm0 (up hm)) (hS.keep fun o q => hm.heap S o hSw q)
  | succ k ih =>
    intro i s hk hi hst hS hm0
    have hlt : i < n := by omega
    refine codeAny_builtin F.entry_set_update_loop ?_
    rw [Around.under_plainId F.plain_set_update_loop _]
    show wpAny _ A.in1 (pyNext (.ref I) >>= _) _ _ s
    refine wpAny_bind (W.item i s _ _ hlt hst fun v s' hP hst' hm => ?_)
    obtain ⟨key, ex, hkey⟩ := hval i v hP
    show wpAny _ A.in1 (holding [v] (setAdd S v) >>= _) _ _ s'
    refine wpAny_bind (wpAny_holding ?_)
    unfold setAdd
    refine wpAny_holding (wpAny_bind ((mixKind P w).pyHash (k := key) hkey ?_))
    have hl := fold_length (xs.take i) []
    rw [List.length_take] at hl
    simp only [List.length_nil, Nat.zero_add] at hl
    refine setG_add (s := { s' with toks := s'.toks + 1 }) (hS.keep fun o q => hm.heap S o hSw q) hkey (by omega) fun h' b sb hS2 => ?_
    rw [← take_fold ex] at hS2
    have hm1 : Moved (S :: wr) G s { s' with toks := s'.toks + 1, heap := h' } := (up hm).then_heap (Nat.le_succ _) fun b o hb e => by
      rw [sb.2 b fun h : b = S => hb (by rw [h]; exact List.mem_cons_self)]; exact e
    refine wpAny_pure ⟨plainId_quiet F.plain_set_update_loop _, ih (i + 1) _ (by omega) hlt (W.frame _ s' _ _ hst' (Nat.le_succ _) fun b hb o e => ?_) hS2 (Moved.trans W.gtrans hm0 hm1)⟩
    rw [sb.2 b fun h : b = S => hSf (by rw [← h]; exact hb)]; exact e

def freshSet (w : World) : Obj := { cls := .type "set", dict := none, data := .set #[] 0 (.fresh 0 0 (!w.params.followText "set-order")) }
theorem setG_fresh {h : Heap} {a : Addr} (ho : h.get? a = some (freshSet w)) : SetG P w h a [] :=
  ⟨_, #[], 0, _, ho, ⟨rfl, rfl, rfl⟩, rfl, (fun e he => by simp at he), ⟨[], .nil, .nil⟩, List.nodup_nil, by decide, rfl, List.Pairwise.nil, by
    cases e : w.params.followText "set-order"
    · exact .inr rfl
    · exact .inl rfl⟩
/-- set(v), where the filling from v is known -/
theorem call_setG {v : Value} {xs : List Key} {Q : Value → Shared → Prop}
    (hupd : ∀ (A' : Around) (E' : Value → Shared → Prop) (Q' : Unit → Shared → Prop), A'.handled = A.handled → (∀ h' tk, SetG P w h' s.heap.objs.size (dedup xs) → (∀ b o, s.heap.get? b = some o → h'.get? b = some o) → Q' () { s with heap := h', toks := tk }) →
      wpAny (model P w) A' (Builtin.Frozenset.updateFrom "set.__init__" s.heap.objs.size v) Q' E' { s with heap := s.heap.push (freshSet w) })
    (h : ∀ h' tk, SetG P w h' s.heap.objs.size (dedup xs) → (∀ b o, s.heap.get? b = some o → h'.get? b = some o) → Q (.ref s.heap.objs.size) { s with heap := h', toks := tk }) :
    wpAny (model P w) A (call (.type "set") [v]) Q E s := by
  obtain ⟨c, tl, hmro⟩ := F.called_set.mro
  have hmade := F.called_set.made
  have hsub := F.called_set.sub
  refine wpAny_call (codeAny_of_tree ?_)
  show wpAny _ _ (callAny (.type "set") _) _ _ _
  refine wpAny_pure ⟨Code.quiet_builtin _ (by decide +kernel), codeAny_builtin F.entry_type_call ?_⟩
  rw [Around.under_plain (weight_type_call_type "set" [v] []) rfl]
  have h1 := F.called_set.notType
  have h2 := F.called_set.canCreate
  have hct := F.typeCall_set_1 v
  repeat (any_goals (first | assumption | wp_step))
  refine codeAny_mono (L2.code_set_led1 v (E := E) (Q₁ := fun obj s₁ => obj = .ref s.heap.objs.size ∧ s₁ = { s with heap := s.heap.push (freshSet w) }) ⟨rfl, rfl⟩) fun r s₁ hr => ?_
  cases r with
  | error e => exact hr
  | ok fl =>
    cases fl <;> try exact hr.elim
    obtain ⟨rfl, rfl⟩ := hr
    have hS : (s.heap.push (freshSet w)).get? s.heap.objs.size = some (freshSet w) := Heap.get?_push_size _ rfl
    have hT : Shared.TypeIs { s with heap := s.heap.push (freshSet w) } (.ref s.heap.objs.size) "set" := ⟨_, hS, rfl⟩
    have hS' : (s.heap.push (freshSet w)).get? s.heap.objs.size = some { cls := .type "set", dict := none, data := .set #[] 0 (.fresh 0 0 (!w.params.followText "set-order")) } := hS
    have hli := F.called_set.init.lookup
    have hbi := F.called_set.init.bind (.ref s.heap.objs.size)
    repeat (any_goals (first | assumption | wp_step))
    refine codeAny_mono (codeAny_call_builtin (R := wants (fun r s₂ => r = .none ∧ ∃ h' tk, s₂ = { s with heap := h', toks := tk } ∧ SetG P w h' s.heap.objs.size (dedup xs) ∧ (∀ b o, s.heap.get? b = some o → h'.get? b = some o)) E)
      F.called_set.init.plain F.entry_set_init (check_set_init_1 hT ?_)) fun r₂ s₂ hr₂ => ?_
    · unfold Builtin.«set.__init__» noKeywords
      generalize hU : Builtin.Frozenset.updateFrom = U
      wp_walk
      subst hU
      refine hupd _ _ _ ?_ fun h' tk hS2 kp => ?_
      · simp
      · refine wpAny_pure ⟨rfl, h', tk, rfl, hS2, kp⟩
    · cases r₂ with
      | error e => exact hr₂
      | ok fl₂ =>
        cases fl₂ <;> try exact hr₂.elim
        obtain ⟨rfl, h', tk, rfl, hS2, kp⟩ := hr₂
        repeat (any_goals (first | assumption | wp_step))
        exact h _ _ hS2 kp
end
end D

set_option Elab.async false
set_option linter.all false
set_option maxRecDepth 100000
set_option maxHeartbeats 4000000
/-! S3: set(d) of a dict; set(x) of a list, a tuple. -/
namespace D
open PySem PySem.Spec PyProof.Rows L2
section
variable {P : Program} {w : World} {A : Around} {E : Value → Shared → Prop} {s : Shared}
theorem size_go (n : Nat) : ∀ fuel size, SetTable.sizeAbove.go n fuel size ≤ max size (2 * n)
  | 0, size => by unfold SetTable.sizeAbove.go; omega
  | fuel + 1, size => by
    unfold SetTable.sizeAbove.go
    split
    · have := size_go n fuel (size * 2); omega
    · omega
theorem size_le (n : Nat) : SetTable.sizeAbove n ≤ max 8 (2 * n) := size_go n 64 8
theorem relaid_nil (t : SetTable) (wanted : Nat) : ∃ t', t.relaid #[] wanted = some (t', #[]) ∧ t'.place = #[] ∧ t'.dummies = #[] ∧ t'.led = t.led := by
  have h : SetTable.layClean (SetTable.sizeAbove wanted - 1) #[] = some (Array.replicate (SetTable.sizeAbove wanted - 1 + 1) none) := by
    rw [layClean_eq]; rfl
  have hl : liveOf (SetTable.sizeAbove wanted - 1) (Array.replicate (SetTable.sizeAbove wanted - 1 + 1) none) = [] := by
    unfold liveOf
    rw [List.filterMap_eq_nil_iff]
    intro j _
    simp [Array.getD_eq_getD_getElem?, Array.getElem?_replicate]
    split <;> rfl
  refine ⟨tabOf t (SetTable.sizeAbove wanted - 1) (Array.replicate (SetTable.sizeAbove wanted - 1 + 1) none), ?_, ?_, rfl, rfl⟩
  · rw [relaid_eq, h]
    show some _ = some _
    rw [hl] <;> rfl
  · show ((liveOf _ _).map (·.1)).toArray = #[]
    rw [hl] <;> rfl
/-- the room that is made in an empty set -/
theorem room_nil {S : Addr} {n : Nat} (hn : n < scanBound) (R : SetG P w s.heap S []) {Q : Unit → Shared → Prop}
    (hQ : ∀ h', Heap.SameBut S s.heap h' → SetG P w h' S [] → Q () { s with heap := h' }) : wpAny (model P w) A (setRoomFor S n) Q E s := by
  obtain ⟨o, es, ep, t, ho, hex, hd, hel, ⟨js, pj, qj⟩, nd, hb, hf, hr, hl⟩ := id R
  have ej : js = [] := List.Perm.eq_nil pj
  subst ej
  have he : es = #[] := by
    have z := qj.length
    have : es.toList = [] := List.eq_nil_of_length_eq_zero (by simpa using z.symm)
    exact Array.toList_eq_nil_iff.mp this
  subst he
  unfold setRoomFor
  refine wpAny_bind (wpAny_setState_of ho hd hf ?_)
  dsimp only
  have hp : t.place.size = 0 := by
    unfold SetTable.fits at hf
    rw [Bool.and_eq_true, beq_iff_eq] at hf
    exact hf.1
  cases hrf : t.roomFor n with
  | none => exact wpAny_pure (hQ s.heap (Heap.SameBut.refl S s.heap) R)
  | some wanted =>
    have hw : wanted = n * 2 := by
      unfold SetTable.roomFor at hrf
      split at hrf
      · have := Option.some.inj hrf; omega
      · cases hrf
    dsimp only
    rw [setRelay_eq]
    refine wpAny_bind (wpAny_setState_of ho hd hf ?_)
    dsimp only
    have hsz : ¬ (SetTable.sizeAbove wanted > sizeLine) := by
      have := size_le wanted
      have hs : scanBound * 4 ≤ sizeLine := by decide
      have h8 : 8 ≤ sizeLine := by decide
      subst hw
      omega
    refine wp_if_neg hsz ?_
    try refine wpAny_bind (wpAny_pure ?_)
    obtain ⟨t', e, h1, h2, h3⟩ := relaid_nil t wanted
    have e' : t.relaid ((#[] : Array (Int × Value)).map (·.1)) wanted = some (t', #[]) := by
      rw [show (#[] : Array (Int × Value)).map (·.1) = #[] from by simp]; exact e
    rw [e']
    dsimp only
    refine wpAny_bind ?_
    refine wp_if_neg (by simp) ?_
    try refine wpAny_bind (wpAny_pure ?_)
    refine wpAny_pure ?_
    dsimp only
    have sb : Heap.SameBut S s.heap (s.heap.update S (Obj.putSet #[] t')) := Heap.SameBut.update ..
    refine wpAny_storeSet_of ho hd ?_ (by decide)
    have hf' : t'.fits (#[] : Array (Int × Value)).size = true := by
      unfold SetTable.fits SetTable.fill
      rw [h1, h2]; simp
    have hr' : Ris t'.place.toList := by rw [h1]; exact List.Pairwise.nil
    obtain ⟨o1, ho1, hex1, hd1, R1⟩ := setG_store (ks := []) (s := s) ho hex hd (es1 := #[]) (t1 := t') hel ⟨[], .nil, .nil⟩ List.nodup_nil (by decide) hf' hr' (hl.imp id fun z => by rw [h3]; exact z)
    exact hQ _ sb R1
theorem updSet_dict {d S : Addr} {kvs : List (Key × Value)} {Q : Unit → Shared → Prop} {nm : String} (hne : d ≠ S) (hsys : (d == sysModules) = false) (hd : s.heap.DictOf (mixKind P w) d kvs) (hl : kvs.length + 1 < scanBound) (R : SetG P w s.heap S [])
    (hQ : ∀ h', Heap.SameBut S s.heap h' → SetG P w h' S (dedup (kvs.map (·.1))) → Q () { s with heap := h' }) : wpAny (model P w) A (Builtin.Frozenset.updateFrom nm S (.ref d)) Q E s := by
  obtain ⟨o, es, ep, ho, hc, hdat, hk, hp, hn⟩ := id hd
  have hlen : kvs.length = es.size := by rw [← hp.length]; simp
  unfold Builtin.Frozenset.updateFrom Builtin.Frozenset.isAnySet
  refine wpAny_bind ?_
  refine wpAny_bind (wpAny_isInstance hd.typeIs F.sub_dict_set ?_)
  refine wpAny_isInstance hd.typeIs F.sub_dict_frozenset ?_
  refine wp_if_neg (by decide) ?_
  refine wpAny_bind (wpAny_typeOf hd.typeIs ?_)
  refine wp_if_pos rfl ?_
  refine wpAny_bind (wpAny_rule ?_)
  refine wpAny_bind (wpAny_pure ?_)
  refine wp_if_neg (by rw [hsys]; decide) ?_
  try refine wpAny_bind (wpAny_pure ?_)
  refine wpAny_bind (wpAny_dictEpoch ho hdat ?_)
  refine wpAny_bind (wpAny_dictEntries ho hdat ?_)
  refine wpAny_bind (room_nil (by rw [← hlen]; omega) R fun h1 sb1 R1 => ?_)
  have ho1 : h1.get? d = some o := (sb1.2 d hne).trans ho
  refine wpAny_bind (wpAny_dictEntries ho1 hdat ?_)
  refine wpAny_bind (m := forIn _ _ _) ?_
  refine TI.forIn_rng _ (fun rest _ s' => ∃ h' i, s' = { s with heap := h' } ∧ rest = List.range' i (es.size - i) ∧ i ≤ es.size ∧ SetG P w h' S (((kvs.map (·.1)).take i).foldl addK []) ∧ Heap.SameBut S s.heap h') _ ?_ ?_ _ ⟨h1, 0, rfl, by simp, Nat.zero_le _, by simpa using R1, sb1⟩
  · rintro x rest b s' ⟨h', i, rfl, hr, hi, R', hs'⟩
    have hlt : i < es.size := by
      rcases Nat.lt_or_ge i es.size with h | h
      · exact h
      · rw [Nat.sub_eq_zero_of_le h] at hr; simp at hr
    obtain ⟨rfl, hrest⟩ : x = i ∧ rest = List.range' (i + 1) (es.size - (i + 1)) := by
      have e : es.size - i = (es.size - (i + 1)) + 1 := by omega
      rw [e, List.range'_succ] at hr
      injection hr with h1 h2
      exact ⟨h1, h2⟩
    have ho' : h'.get? d = some o := (hs'.2 d hne).trans ho
    refine wpAny_bind (wpAny_dictEntries (s := { s with heap := h' }) ho' hdat ?_)
    obtain ⟨⟨k, v⟩, hkv⟩ : ∃ kv, kvs[x]? = some kv := ⟨kvs[x]'(by rw [hlen]; exact hlt), List.getElem?_eq_getElem _⟩
    have hes : es[x]? = some es[x] := Array.getElem?_eq_getElem hlt
    have hg := hp.get? (i := x) (by rw [Array.getElem?_toList]; exact hes) hkv
    rw [hes]
    obtain ⟨k', hk1, hk2⟩ := hk es[x] (Array.getElem_mem hlt)
    have ek : k' = k := (mixKind P w).inj _ _ _ hk1 hg.1
    subst ek
    show wpAny _ _ (holding [es[x].key] (setAddHashed S es[x].key es[x].hash) >>= _) _ _ _
    have hh : es[x].hash = keyH w k' := hk2
    rw [hh]
    have hlx := fold_length ((kvs.map (·.1)).take x) []
    rw [List.length_take] at hlx
    simp only [List.length_nil, Nat.zero_add] at hlx
    refine wpAny_bind (wpAny_holding (setG_add (s := { s with heap := h' }) R' hk1 (by omega) fun h2 b sb2 R2 => ?_))
    have ho2 : h2.get? d = some o := (sb2.2 d hne).trans ho'
    refine wpAny_bind (wpAny_dictEpoch (s := { s with heap := h2 }) ho2 hdat ?_)
    refine wp_if_neg (by simp) ?_
    refine wpAny_pure ⟨h2, x + 1, rfl, hrest, hlt, ?_, hs'.trans sb2⟩
    rw [take_fold (k := k') (by rw [List.getElem?_map, hkv] <;> rfl)]
    exact R2
  · rintro b s' ⟨h', i, rfl, hr, hi, R', hs'⟩
    have e : i = es.size := by
      rcases Nat.lt_or_ge i es.size with h | h
      · have e : es.size - i = (es.size - (i + 1)) + 1 := by omega
        rw [e, List.range'_succ] at hr; cases hr
      · omega
    subst e
    refine wpAny_pure (hQ h' hs' ?_)
    have : (kvs.map (·.1)).take es.size = kvs.map (·.1) := List.take_of_length_le (by rw [List.length_map, hlen]; exact Nat.le_refl _)
    rw [this] at R'
    exact R'
end
end D

set_option Elab.async false
set_option linter.all false
set_option maxRecDepth 100000
set_option maxHeartbeats 4000000
/-! S4: sorted(set(d)). -/
namespace D
open PySem PySem.Spec PyProof.Rows L2
def SetGO (P : Program) (w : World) (a : Addr) (ks : List Key) : HO := .ext fun h => SetG P w h a ks
abbrev leS (a b : Str) : Bool := decide (a.cps.toList ≤ b.cps.toList)
abbrev leI (a b : Int) : Bool := decide (a ≤ b)
def sortS (xs : List Str) : List Str := xs.mergeSort leS
def sortI (xs : List Int) : List Int := xs.mergeSort leI
theorem leS_trans (a b c : Str) (h1 : leS a b = true) (h2 : leS b c = true) : leS a c = true := by
  simp only [leS, decide_eq_true_eq] at *
  exact List.le_trans h1 h2
theorem leS_total (a b : Str) : (leS a b || leS b a) = true := by
  simp only [leS, Bool.or_eq_true, decide_eq_true_eq]
  exact List.le_total _ _
theorem leS_anti {a b : Str} (h1 : leS a b = true) (h2 : leS b a = true) : a = b := by
  simp only [leS, decide_eq_true_eq] at *
  have e : a.cps.toList = b.cps.toList := List.le_antisymm h1 h2
  cases a; cases b
  congr 1
  exact Array.toList_inj.mp e
theorem leI_trans (a b c : Int) (h1 : leI a b = true) (h2 : leI b c = true) : leI a c = true := by
  simp only [leI, decide_eq_true_eq] at *
  omega
theorem leI_total (a b : Int) : (leI a b || leI b a) = true := by
  simp only [leI, Bool.or_eq_true, decide_eq_true_eq]
  omega
theorem leI_anti {a b : Int} (h1 : leI a b = true) (h2 : leI b a = true) : a = b := by
  simp only [leI, decide_eq_true_eq] at *
  omega
theorem sortS_perm (xs : List Str) : (sortS xs).Perm xs := List.mergeSort_perm xs leS
theorem sortI_perm (xs : List Int) : (sortI xs).Perm xs := List.mergeSort_perm xs leI
theorem sortS_sorted (xs : List Str) : (sortS xs).Pairwise fun a b => leS a b = true := List.pairwise_mergeSort leS_trans leS_total xs
theorem sortI_sorted (xs : List Int) : (sortI xs).Pairwise fun a b => leI a b = true := List.pairwise_mergeSort leI_trans leI_total xs
theorem sortS_eq {xs ys : List Str} (h : xs.Perm ys) : sortS xs = sortS ys :=
  List.Perm.eq_of_pairwise (le := fun a b => leS a b = true) (fun a b _ _ h1 h2 => leS_anti h1 h2) (sortS_sorted xs) (sortS_sorted ys) ((sortS_perm xs).trans (h.trans (sortS_perm ys).symm))
theorem sortI_eq {xs ys : List Int} (h : xs.Perm ys) : sortI xs = sortI ys :=
  List.Perm.eq_of_pairwise (le := fun a b => leI a b = true) (fun a b _ _ h1 h2 => leI_anti h1 h2) (sortI_sorted xs) (sortI_sorted ys) ((sortI_perm xs).trans (h.trans (sortI_perm ys).symm))
theorem dedup_id : ∀ {ks : List Key}, ks.Nodup → dedup ks = ks := by
  have g : ∀ (ks acc : List Key), (acc ++ ks).Nodup → ks.foldl addK acc = acc ++ ks := by
    intro ks
    induction ks with
    | nil => intro acc _; simp
    | cons k ks ih =>
      intro acc h
      have hk : k ∉ acc := by
        rw [List.nodup_append] at h
        exact fun z => h.2.2 k z k List.mem_cons_self rfl
      rw [List.foldl_cons, addK_new hk, ih (acc ++ [k]) (by simpa using h)]
      simp
  intro ks h
  have := g ks [] (by simpa using h)
  simpa [dedup] using this
section
variable {P : Program} {w : World} {A : Around} {E : Value → Shared → Prop} {s : Shared} {a : Addr}
/-- sorted(x) of such a set of one kind of things β (with keys kf b) -/
theorem sorted_setG {β : Type} {kf : β → Key} {enc : β → PySem.PyData} {bs : List β} {Q : Value → Shared → Prop} (hinj : ∀ a b, kf a = kf b → a = b) (hread : ∀ (h : Heap) b v, keyIs (kf b) v = true → ∃ as, Reads h v (enc b) as ∧ as = [])
    (hal : ∀ b b', PySem.W.alike (enc b) (enc b') = true) (hk : ∀ b, enc b ≠ .none ∧ ∀ xs, enc b ≠ .tuple xs) (hdep : ∀ b, (enc b).depth = 0) (R : SetG P w s.heap a (bs.map kf)) (hh : A.handled = none) (hu : A.units + 2 < cLine) (hlen : bs.length + 1 < scanBound)
    (hQ : ∀ s' p (out : List Value) (c : Nat) (bs' : List β), (∀ b o, s.heap.get? b = some o → s'.heap.get? b = some o) → s'.gens = s.gens → s'.os = s.os → s.heap.objs.size ≤ p →
      s'.heap.get? p = some (seqObj "list" out.toArray c) → bs'.Perm bs → PySem.W.EachIs (fun v b => keyIs (kf b) v = true) out (bs'.mergeSort (PySem.W.dataLe false enc)) → Q (.ref p) s') :
    wpAny (model P w) A (call (.builtin "sorted") [.ref a]) Q E s := by
  obtain ⟨o, es, ep, t, ho, hex, hd, hel, ⟨js, pj, qj⟩, nd, hb, hf, hr, hl⟩ := R
  refine Calls.call_function_entry kind_sorted plain_sorted entry_sorted (args_sorted1 _) ?_
  unfold Builtin.«sorted»
  refine wpAny_bind (m := checkCount "sorted" 1 1 _) (wpAny_pure ?_)
  refine wpAny_bind (collect_set (A := A.in1) hh ⟨o, ho, hex.1, hd⟩ hf hb hr hl fun s1 vs k1 hz g1 o1 pm => ?_)
  -- the keys in the order met
  have hpair : ∃ bs' : List β, bs'.Perm bs ∧ PySem.W.EachIs (fun v b => keyIs (kf b) v = true) vs bs' := by
    have q2 : Paired (fun (k : Key) (v : Value) => keyIs k v = true) js (es.toList.map (·.2)) := by
      generalize es.toList = l at qj
      clear pm hel pj
      induction qj with
      | nil => exact .nil
      | cons h t ih => exact .cons h ih
    obtain ⟨js2, p2, q3⟩ := paired_perm pm q2
    have p3 : js2.Perm (bs.map kf) := p2.trans pj
    have e : ∃ bs' : List β, js2 = bs'.map kf ∧ bs'.Perm bs := by
      have hm : ∀ k ∈ js2, ∃ b ∈ bs, kf b = k := fun k hk => by
        obtain ⟨b, hb, e⟩ := List.mem_map.mp (p3.mem_iff.mp hk)
        exact ⟨b, hb, e⟩
      have hx : ∃ bs' : List β, js2 = bs'.map kf := by
        clear p3 q3 p2
        induction js2 with
        | nil => exact ⟨[], rfl⟩
        | cons k ks ih =>
          obtain ⟨bs', e⟩ := ih fun j hj => hm j (List.mem_cons_of_mem _ hj)
          obtain ⟨b, _, e2⟩ := hm k List.mem_cons_self
          exact ⟨b :: bs', by rw [List.map_cons, e, e2]⟩
      obtain ⟨bs', e⟩ := hx
      subst e
      refine ⟨bs', rfl, ?_⟩
      have nof : ∀ l : List β, (l.map kf).Nodup → l.Nodup := fun l h => List.Pairwise.imp (fun {x y} hne e => hne (by rw [e])) (List.pairwise_map.mp h)
      refine (List.perm_ext_iff_of_nodup (nof _ (p3.nodup_iff.mpr nd)) (nof _ nd)).mpr fun b => ⟨fun hb => ?_, fun hb => ?_⟩
      · obtain ⟨c, hc, e⟩ := List.mem_map.mp (p3.mem_iff.mp (List.mem_map.mpr ⟨b, hb, rfl⟩))
        rw [← hinj _ _ e]; exact hc
      · obtain ⟨c, hc, e⟩ := List.mem_map.mp (p3.mem_iff.mpr (List.mem_map.mpr ⟨b, hb, rfl⟩))
        rw [← hinj _ _ e]; exact hc
    obtain ⟨bs', e, pb⟩ := e
    subst e
    refine ⟨bs', pb, ?_⟩
    clear p3 p2 pm pb
    induction bs' generalizing vs with
    | nil => cases q3; exact .nil
    | cons b bs' ih =>
      cases q3 with
      | cons h t => exact .cons h (ih _ t)
  obtain ⟨bs', pb, eb⟩ := hpair
  have hvl : vs.length = bs'.length := eb.length
  have hbl : bs'.length ≤ sizeLine := by
    have := pb.length_eq
    have hs : scanBound ≤ sizeLine := by decide
    omega
  refine wpAny_bind (wpAny_newList ?_ (by rw [hvl]; exact hbl))
  have hoL : (s1.heap.push (seqObj "list" vs.toArray 0)).get? s1.heap.objs.size = some (seqObj "list" vs.toArray 0) := Heap.get?_push_size _ rfl
  refine wpAny_bind (wpAny_holding (PySem.W.list_sort_data (enc := enc) (R := fun v b => keyIs (kf b) v = true) hoL eb (eb.mono fun v b h => ?_) (PySem.W.AllAlike.of hal) (PySem.W.Sortable.others hk) hbl (fun b _ => ?_) fun out e1 e2 => ?_))
  · obtain ⟨as, r, e⟩ := hread (s1.heap.push (seqObj "list" vs.toArray 0)) b v h
    exact ⟨as, r, by rw [e]; simp⟩
  · rw [hdep b]
    simp
    omega
  · obtain ⟨c, hc⟩ := sortedHeap_at (vs := vs) (out := out.toArray) hoL
    refine wpAny_pure ⟨_, rfl, hQ _ s1.heap.objs.size out c bs' (fun b u e => ?_) g1 o1 hz hc pb e2⟩
    have q := k1 b u e
    have hlt := Heap.lt_size q
    show (sortedHeap (s1.heap.push (seqObj "list" vs.toArray 0)) s1.heap.objs.size vs out.toArray).get? b = some u
    rw [sortedHeap_old (Nat.ne_of_lt hlt) (by rw [size_push']; exact Nat.lt_succ_of_lt hlt)]
    exact Heap.get?_push_of_some _ q
end
end D

set_option Elab.async false
set_option linter.all false
set_option maxRecDepth 100000
set_option maxHeartbeats 4000000
/-! S5: sorted(set(d)), sorted(set(xs)) by deep values. -/
namespace D
open PySem PySem.Spec PyProof.Rows L2
section
variable {X : Cx} {σ : L2.St} {H : Hp} {s : Shared} {pins : List (Addr × Obj)}
theorem setG_obj {P : Program} {w : World} {H : Hp} {h : Heap} {a : Addr} {ks : List Key} (R : SetG P w h a ks) : ObjOk P w H h a (SetGO P w a ks) := by
  have ⟨o, _, _, _, ho, _⟩ := R
  exact ⟨R, ⟨o, ho⟩, fun h1 h2 p k => p.keep k⟩
theorem setG_get {a : Addr} {ks : List Key} (I : Inv X pins σ H s) (ha : H a = some (SetGO X.prog X.w a ks)) : SetG X.prog X.w s.heap a ks := (I.hok a _ ha).1
theorem kv_fst {κ : Type} {kvs : List (κ × V)} {vs : List (κ × Value)} (r : KV kvs vs) : kvs.map Prod.fst = vs.map Prod.fst := by
  unfold KV at r
  induction r with
  | nil => rfl
  | cons h t ih => rw [List.map_cons, List.map_cons, ih, h.1]
/-- set(d) -/
def rSetD (P : Program) (w : World) : List V → Hp → VK → Prop := fun vs H Q => ∃ (d : Addr) (kvs : List (Key × V)), vs = [V.ref d] ∧ Rd H d (.dK kvs) ∧ kvs.length + 1 < scanBound ∧
  ((kvs.map Prod.fst).Nodup → ∀ p, H p = none → Q (.ref p) (upd H p (SetGO P w p (kvs.map Prod.fst))))
theorem cr_setD : CallR X (.type "set") (rSetD X.prog X.w) := by
  intro pins s σ H vs us Q I r h
  obtain ⟨d, kvs, rfl, hd, hl, q⟩ := h
  rw [Vals.ref1 r]
  obtain ⟨hz, hs, vs, kv, hD⟩ := (show ObjOk X.prog X.w H s.heap d (.dK kvs) from hd.ok I.hok)
  have ek := kv_fst kv
  have hnd : (kvs.map Prod.fst).Nodup := by
    obtain ⟨_, _, _, _, _, _, _, _, n⟩ := hD
    rw [ek]; exact n
  have hlt : d < s.heap.objs.size := by obtain ⟨o, _, _, ho, _⟩ := hD; exact Heap.lt_size ho
  have hn : H s.heap.objs.size = none := I.hok.fresh (Nat.le_refl _)
  have hlv : vs.length = kvs.length := by have := congrArg List.length ek; simpa using this.symm
  refine call_setG (xs := kvs.map Prod.fst) (fun A' E' Q' _ hQ => ?_) fun h' tk S keep => ?_
  · refine updSet_dict (s := { s with heap := s.heap.push (freshSet X.w) }) (kvs := vs) (Nat.ne_of_lt hlt) hs ?_ (by rw [hlv]; exact hl) (setG_fresh (Heap.get?_push_size _ rfl)) fun h2 sb R2 => ?_
    · obtain ⟨o, es, ep, ho, r⟩ := hD
      exact ⟨o, es, ep, Heap.get?_push_of_some _ ho, r⟩
    · rw [← ek] at R2
      refine hQ h2 s.toks R2 fun b o hb => ?_
      rw [sb.2 b (Nat.ne_of_lt (Heap.lt_size hb))]
      exact Heap.get?_push_of_some _ hb
  · rw [dedup_id hnd] at S
    exact ⟨.ref _, upd H s.heap.objs.size (SetGO X.prog X.w s.heap.objs.size (kvs.map Prod.fst)), I.laid (t' := tk) keep (Nat.le_refl _) (setG_obj S), rfl, q hnd _ hn⟩
/-- sorted(x), x a set of texts; of ints -/
def rSortSS (P : Program) (w : World) : List V → Hp → VK → Prop := fun vs H Q => ∃ (a : Addr) (xs : List Str), vs = [V.ref a] ∧ H a = some (SetGO P w a (xs.map .inr)) ∧ xs.length + 1 < scanBound ∧
  ∀ p, H p = none → Q (.ref p) (upd H p (.lst ((sortS xs).map V.str)))
def rSortSI (P : Program) (w : World) : List V → Hp → VK → Prop := fun vs H Q => ∃ (a : Addr) (xs : List Int), vs = [V.ref a] ∧ H a = some (SetGO P w a (xs.map .inl)) ∧ xs.length + 1 < scanBound ∧
  ∀ p, H p = none → Q (.ref p) (upd H p (.lst ((sortI xs).map V.int)))
theorem each_vals {β : Type} {kf : β → Key} : ∀ {out : List Value} {bs : List β}, PySem.W.EachIs (fun v b => keyIs (kf b) v = true) out bs → Vals (bs.map fun b => kV (kf b)) out
  | _, _, .nil => .nil
  | _, _, .cons (b := b) (a := v) h t => by
    refine .cons ?_ (each_vals t)
    rcases keyIs_shape h with ⟨i, tk, e, rfl⟩ | ⟨x, tk, e, rfl⟩
    · show L2.RelV (kV (kf b)) _; rw [e]; exact ⟨tk, rfl⟩
    · show L2.RelV (kV (kf b)) _; rw [e]; exact ⟨tk, rfl⟩
theorem sort_end {β : Type} {kf : β → Key} {bs : List β} {Q : VK} {s' : Shared} {p : Addr} {out : List Value} {c : Nat} {zs : List V} (I : Inv X pins σ H s) (k : ∀ b o, s.heap.get? b = some o → s'.heap.get? b = some o) (g : s'.gens = s.gens) (o : s'.os = s.os)
    (hp : s.heap.objs.size ≤ p) (hg : s'.heap.get? p = some (seqObj "list" out.toArray c)) (ev : Vals zs out) (hlen : zs.length ≤ sizeLine) (q : ∀ p, H p = none → Q (.ref p) (upd H p (.lst zs))) : EP X pins σ Q (.ref p) s' := by
  have hn : H p = none := I.hok.fresh hp
  have J : Inv X pins σ (upd H p (.lst zs)) { s with heap := s'.heap, gens := s'.gens, drawn := s'.drawn, toks := s'.toks } :=
    I.call (ch := []) (Un.laid k hp hn) (I.hok.laid k hp ⟨hlen, out, c, ev, hg⟩) (by rw [g]; exact I.bare) (fun _ z => nomatch z)
  have e : s' = { s with heap := s'.heap, gens := s'.gens, drawn := s'.drawn, toks := s'.toks } := by
    cases s'
    cases s
    cases o
    rfl
  rw [e]
  exact ⟨.ref p, _, J, rfl, q p hn⟩
theorem cr_sortSS (hc : X.calm = true) (hu : X.A.units + 64 < cLine) : CallR X (.builtin "sorted") (rSortSS X.prog X.w) := by
  intro pins s σ H vs us Q I r h
  obtain ⟨a, xs, rfl, ha, hl, q⟩ := h
  rw [Vals.ref1 r]
  refine sorted_setG (kf := (Sum.inr : Str → Key)) (enc := PySem.PyData.str) (bs := xs) (fun _ _ e => Sum.inr.inj e) (fun h b v hk => ?_) (fun _ _ => by simp [PySem.W.alike]) (fun _ => ⟨(fun e => nomatch e), fun _ e => nomatch e⟩) (fun _ => by simp [PySem.PyData.depth]) (setG_get I ha) (I.ok.hd hc) (by omega) hl fun s' p out c bs' k g o hp hg pm ee => ?_
  · obtain ⟨tk, rfl⟩ := Value.isStrOf_shape (x := b) (v := v) hk
    exact ⟨_, .str b tk, rfl⟩
  · have e1 : bs'.mergeSort (PySem.W.dataLe false PySem.PyData.str) = sortS xs := by
      have z := PySem.W.dataLe_str (β := Str) id
      have z2 : PySem.W.dataLe false PySem.PyData.str = leS := z
      rw [z2]; exact sortS_eq pm
    rw [e1] at ee
    refine sort_end (kf := (Sum.inr : Str → Key)) (bs := xs) I k g o hp hg (zs := (sortS xs).map V.str) (each_vals ee) ?_ q
    rw [List.length_map, (sortS_perm xs).length_eq]
    have hs : scanBound ≤ sizeLine := by decide
    omega
theorem cr_sortSI (hc : X.calm = true) (hu : X.A.units + 64 < cLine) : CallR X (.builtin "sorted") (rSortSI X.prog X.w) := by
  intro pins s σ H vs us Q I r h
  obtain ⟨a, xs, rfl, ha, hl, q⟩ := h
  rw [Vals.ref1 r]
  refine sorted_setG (kf := (Sum.inl : Int → Key)) (enc := PySem.PyData.int) (bs := xs) (fun _ _ e => Sum.inl.inj e) (fun h b v hk => ?_) (fun _ _ => by simp [PySem.W.alike]) (fun _ => ⟨(fun e => nomatch e), fun _ e => nomatch e⟩) (fun _ => by simp [PySem.PyData.depth]) (setG_get I ha) (I.ok.hd hc) (by omega) hl fun s' p out c bs' k g o hp hg pm ee => ?_
  · obtain ⟨tk, rfl⟩ := Value.isInt_shape (k := b) (v := v) hk
    exact ⟨_, .int b tk, rfl⟩
  · have e1 : bs'.mergeSort (PySem.W.dataLe false PySem.PyData.int) = sortI xs := by
      have z := PySem.W.dataLe_int (β := Int) id
      have z2 : PySem.W.dataLe false PySem.PyData.int = leI := z
      rw [z2]; exact sortI_eq pm
    rw [e1] at ee
    refine sort_end (kf := (Sum.inl : Int → Key)) (bs := xs) I k g o hp hg (zs := (sortI xs).map V.int) (each_vals ee) ?_ q
    rw [List.length_map, (sortI_perm xs).length_eq]
    have hs : scanBound ≤ sizeLine := by decide
    omega
/-- sorted(set(d)), d a dict with texts as keys -/
abbrev dSSD (te : DTE) : DTE := fun s M Q => te s M fun x M1 => match view M1 x with
  | .dK kvs => ∃ xs : List Str, kvs.map Prod.fst = xs.map .inr ∧ kvs.length + 1 < scanBound ∧ (xs.Nodup → Q (.lst ((sortS xs).map .str)) M1)
  | _ => False
theorem atl_str {G : Hp} : ∀ xs : List Str, AtL G (xs.map DV.str) (xs.map V.str)
  | [] => .nil
  | x :: xs => .cons (.str x) (atl_str xs)
theorem de_ssd {e : Expr} {te : DTE} {p p2 pos pos2 : Pos} (hc : X.calm = true) (hu : X.A.units + 64 < cLine) (hg : Gl X "sorted") (hm : X.mg "sorted" = none) (hg2 : Gl X "set") (hm2 : X.mg "set" = none) (he : DE X e te)
    (h1 : starEach [e] X.env = [(false, eval e X.env)] := by rfl)
    (h2 : starEach [Expr.Call (.Name "set" p2) [e] [] pos2] X.env = [(false, eval (.Call (.Name "set" p2) [e] [] pos2) X.env)] := by rfl) :
    DE X (.Call (.Name "sorted" p) [.Call (.Name "set" p2) [e] [] pos2] [] pos) (dSSD te) := by
  have a1 : PA X [e] (tCons (low te) tNil) := pa_cons he.pe pa_nil h1
  have b1 := pe_callTy (X := X) (p := p2) (pos := pos2) (cr_setD (X := X)) hg2 hm2 rfl a1 (by decide) (by decide) h1 (by rfl)
  have a2 := pa_cons b1 pa_nil h2
  have b2 := pe_callB (X := X) (p := p) (pos := pos) (cr_sortSS (X := X) hc hu) hg hm rfl a2 (by decide) (by decide) h2 (by rfl)
  refine ⟨pe_imp b2 fun σ H Q ⟨G, M, s, R, r, sl, q, c⟩ => ⟨G, M, s, _, r, sl, q, fun x M1 G1 H1 v s1 at1 q1 => ?_⟩⟩
  show rSetD X.prog X.w [v] H1 fun u H2 => rSortSS X.prog X.w [u] H2 Q
  have va := view_at s1.rep at1
  generalize view M1 x = y at va q1
  cases va <;> first | exact q1.elim | skip
  rename_i a kvs ks hr ee re
  obtain ⟨xs, ex, hl, q2⟩ := q1
  refine ⟨a, kvs, rfl, hr, ?_, fun nd p hp => ⟨p, xs, rfl, ?_, ?_, fun p' hp' => ?_⟩⟩
  · have := congrArg List.length ee; simp only [List.length_map] at this; omega
  · rw [← ex, ee]; exact upd_same
  · have := congrArg List.length ex; simp only [List.length_map] at this; omega
  · have nx : xs.Nodup := by
      rw [← ee, ex] at nd
      exact List.Pairwise.imp (fun {x y} hne e => hne (by rw [e])) (List.pairwise_map.mp nd)
    have st : Stp G M H G1 M1 (upd H1 p (SetGO X.prog X.w p (kvs.map Prod.fst))) := s1.trans (Stp.extra s1.rep hp)
    have st2 := st.trans (Stp.newF (a := p') (o := .lst ((sortS xs).map V.str)) st.rep hp' nofz_lst)
    exact c _ M1 _ _ _ st2 (.lst (.inl upd_same) (atl_str _)) (q2 nx)
end
end D

set_option Elab.async false
set_option linter.all false
set_option maxRecDepth 100000
set_option maxHeartbeats 1000000
/-! D8: subscripts, slices, in, len, conversions, methods of lists, dicts and texts, by deep values. -/
namespace D
open PySem PySem.Spec PyProof.Rows L2
section
variable {X : Cx} {pos pos2 p apos cpos : Pos} {a b e o i : Expr} {es : List Expr} {ta tb te : DTE} {t : DTA}
theorem atl_keyV {G : Hp} {d : DV} {v : V} (h : At G d v) {k : Key} (e : keyOf d = some k) : v = kV k := keyOf_at h e
theorem kv_val {G : Hp} {κ : Type} [DecidableEq κ] (k : κ) : ∀ {ks : List (κ × DV)} {kvs : List (κ × V)}, ks.map Prod.fst = kvs.map Prod.fst → AtL G (ks.map Prod.snd) (kvs.map Prod.snd) → ∀ {d : DV}, valD ks k = some d → ∃ v, valV kvs k = some v ∧ At G d v
  | [], [], _, _, d, h => by simp [valD] at h
  | [], _ :: _, e, _, _, _ => by simp at e
  | _ :: _, [], e, _, _, _ => by simp at e
  | (k1, d1) :: ks, (k2, v2) :: kvs, e, r, d, h => by
    simp only [List.map_cons, List.cons.injEq] at e r
    obtain ⟨e1, e2⟩ := e
    subst e1
    cases r with
    | cons h1 t1 =>
      unfold valD at h
      unfold valV
      rw [List.find?_cons] at h ⊢
      by_cases hk : k1 = k
      · simp only [hk, decide_true] at h ⊢
        cases h
        exact ⟨v2, rfl, h1⟩
      · simp only [hk, decide_false] at h ⊢
        exact kv_val k e2 t1 h
theorem kv_none {κ : Type} [DecidableEq κ] (k : κ) : ∀ {ks : List (κ × DV)} {kvs : List (κ × V)}, ks.map Prod.fst = kvs.map Prod.fst → (valD ks k = none ↔ valV kvs k = none)
  | [], [], _ => by simp [valD, valV]
  | [], _ :: _, e => by simp at e
  | _ :: _, [], e => by simp at e
  | (k1, d1) :: ks, (k2, v2) :: kvs, e => by
    simp only [List.map_cons, List.cons.injEq] at e
    obtain ⟨e1, e2⟩ := e
    subst e1
    have ih := kv_none k e2
    unfold valD valV at *
    rw [List.find?_cons, List.find?_cons]
    by_cases hk : k1 = k
    · simp [hk]
    · simp only [hk, decide_false]
      exact ih
theorem atI_at {G : Hp} {xs : List DV} {vs : List V} {i : Int} {d : DV} (r : AtL G xs vs) (h : atI xs i = some d) : ∃ v, atI vs i = some v ∧ At G d v := by
  unfold atI at *
  rw [← r.length]
  cases e : ixN xs.length i with
  | none => rw [e] at h; cases h
  | some j =>
    rw [e] at h
    exact r.get (i := j) h
/-- x[i], x a list, a tuple or a text -/
abbrev rIxG : DR2 := fun x y M Q => match view M x, y with
  | .lst xs, .int i => ∃ d, atI xs i = some d ∧ Q d M
  | .tup xs, .int i => ∃ d, atI xs i = some d ∧ Q d M
  | .str z, .int i => z.length ≤ sizeLine ∧ ∃ c, atI z.cps.toList i = some c ∧ Q (.str ⟨#[c]⟩) M
  | _, _ => False
theorem ix_all : IxR X (low2 rIxG) := fun value slice pins s σ H x y v u Q I rx ry h hs => by
  obtain ⟨G, M, d, e, R, rp, ax, ay, q, c⟩ := h
  refine ix_seq value slice pins s σ H x y v u Q I rx ry ?_ hs
  have va := view_at rp ax
  unfold rIxG at q
  generalize view M d = y at va q
  cases ay <;> cases va <;> first | exact q.elim | skip
  · obtain ⟨hz, z, ez, q2⟩ := q
    exact .inr (.inr ⟨_, _, z, rfl, rfl, hz, ez, c _ M G H _ (Stp.refl rp) (.str _) q2⟩)
  · rename_i hr re
    obtain ⟨z, ez, q2⟩ := q
    obtain ⟨w, ew, aw⟩ := atI_at re ez
    exact .inl ⟨_, _, _, w, rfl, rfl, .inl hr, ew, c _ M G H w (Stp.refl rp) aw q2⟩
  · rename_i hr re
    obtain ⟨z, ez, q2⟩ := q
    obtain ⟨w, ew, aw⟩ := atI_at re ez
    exact .inr (.inl ⟨_, _, _, w, rfl, rfl, .inl hr, ew, c _ M G H w (Stp.refl rp) aw q2⟩)
theorem de_ix (ha : DE X a ta) (hb : DE X b tb) (hs : PlainIx b := by intro _ _; rfl) : DE X (.Subscript a b pos) (dOp rIxG ta tb) := ⟨pe_imp (pe_ix ix_all ha.pe hb.pe hs) fun _ _ _ => low_op⟩
/-- d[k], the keys ints and texts -/
abbrev rIxD : DR2 := fun x y M Q => match view M x with
  | .dK ks => ∃ k d, keyOf y = some k ∧ valD ks k = some d ∧ Q d M
  | _ => False
theorem low_dget {σ : L2.St} {H : Hp} {Q : VK} (h : low (dOp rIxD ta tb) σ H Q) : tDGet (low ta) (low tb) σ H Q := by
  obtain ⟨G, M, s, R, rp, sl, q, c⟩ := h
  refine ⟨G, M, s, _, rp, sl, q, fun x M1 G1 H1 v s1 a1 q1 => ⟨G1, M1, s, _, s1.rep, smono s1.ge sl, q1, fun y M2 G2 H2 w s2 a2 q2 => ?_⟩⟩
  have va := view_at s2.rep (a1.mono s2.ge)
  unfold rIxD at q2
  generalize view M2 x = z at va q2
  cases va <;> first | exact q2.elim | skip
  rename_i ad kvs ks hr ee re
  obtain ⟨k, d, ek, ed, q3⟩ := q2
  obtain ⟨u, eu, au⟩ := kv_val k ee re ed
  have ew := keyOf_at a2 ek
  subst ew
  exact ⟨_, u, rfl, .inl ⟨_, k, hr, rfl, eu.symm⟩, c d M2 G2 H2 u (s1.trans s2) au q3⟩
theorem de_ixD (hu : X.A.units + 64 < cLine) (ha : DE X a ta) (hb : DE X b tb) (hs : NoSl b := by intro _ _; rfl) : DE X (.Subscript a b pos) (dOp rIxD ta tb) := ⟨pe_imp (pe_dget (by omega) ha.pe hb.pe hs) fun _ _ _ => low_dget⟩

/-! ### slices -/
abbrev DTO := DSt → MM → (Option Int → MM → Prop) → Prop
abbrev dNoPart : DTO := fun _ M Q => Q none M
abbrev dPart (t : DTE) : DTO := fun s M Q => t s M fun x M1 => match x with
  | .int i => Q (some i) M1
  | _ => False
def lowO (t : DTO) : TO := fun σ H Q => ∃ (G : Hp) (M : MM) (s : DSt) (R : Option Int → MM → Prop), Rep G M H ∧ Slots G s σ ∧ t s M R ∧ ∀ b M' G' H', Stp G M H G' M' H' → R b M' → Q b H'
structure DO (X : Cx) (e : Option Expr) (t : DTO) : Prop where
  po : PO X e (lowO t)
theorem po_imp {e : Option Expr} {t t' : TO} (h : PO X e t) (i : ∀ σ H Q, t' σ H Q → t σ H Q) : PO X e t' := ⟨fun p s σ H Q I q => h.run p s σ H Q I (i σ H Q q)⟩
theorem do_none : DO X none dNoPart := ⟨po_imp po_none fun σ H Q ⟨G, M, s, R, rp, sl, q, c⟩ => c none M G H (Stp.refl rp) q⟩
theorem do_some (h : DE X e te) : DO X (some e) (dPart te) := ⟨po_imp (po_some h.pe) fun σ H Q ⟨G, M, s, R, rp, sl, q, c⟩ => ⟨G, M, s, _, rp, sl, q, fun x M1 G1 H1 v s1 a1 q1 => by
  cases a1 <;> first | exact q1.elim | exact ⟨_, rfl, c _ M1 G1 H1 s1 q1⟩⟩⟩
abbrev cutD (xs : List DV) (lo hi : Option Int) : List DV := (xs.drop (HT.sIx xs.length 0 lo)).take (HT.sIx xs.length xs.length hi - HT.sIx xs.length 0 lo)
theorem cut_at {G : Hp} {xs : List DV} {vs : List V} (r : AtL G xs vs) (lo hi : Option Int) : AtL G (cutD xs lo hi) (cutV vs lo hi) := by
  unfold cutD cutV
  rw [r.length]
  exact (r.drop _).take _
abbrev rSlG : DV → Option Int → Option Int → MM → DK → Prop := fun x lo hi M Q => match view M x with
  | .lst xs => Q (.lst (cutD xs lo hi)) M
  | .tup xs => Q (.tup (cutD xs lo hi)) M
  | .str z => z.length ≤ sizeLine ∧ Q (.str (cutS z lo hi)) M
  | _ => False
def lowSl (r : DV → Option Int → Option Int → MM → DK → Prop) : V → Option Int → Option Int → Hp → VK → Prop := fun x lo hi H Q => ∃ (G : Hp) (M : MM) (d : DV) (R : DK), Rep G M H ∧ At G d x ∧ r d lo hi M R ∧ ∀ z M' G' H' v, Stp G M H G' M' H' → At G' z v → R z M' → Q v H'
theorem cut_whole {xs : List DV} {lo hi : Option Int} (h : HT.sIx xs.length 0 lo = 0 ∧ HT.sIx xs.length xs.length hi = xs.length) : cutD xs lo hi = xs := by
  unfold cutD
  rw [h.1, h.2]; simp
theorem view_tup {G : Hp} {M : MM} {d : DV} {v : V} (a : At G d v) : ∀ ys, view M d = .tup ys → At G (.tup ys) v := by
  intro ys e
  cases d <;> simp only [view] at e <;> first | (rw [← e]; exact a) | cases e | skip
  rename_i b
  cases em : M b with
  | none => rw [em] at e; cases e
  | some m => rw [em] at e; cases m <;> cases e
theorem sl_all : SlR X (lowSl rSlG) := fun pins s σ H x v vl vu lo hi sl Q I rx hs pl pu h => by
  refine (sl_list.or (sl_tupA.or sl_str)) pins s σ H x v vl vu lo hi sl Q I rx hs pl pu ?_
  obtain ⟨G, M, d, R, rp, ax, q, c⟩ := h
  have va := view_at rp ax
  have kt := view_tup (M := M) ax
  unfold rSlG at q
  generalize view M d = y at va q kt
  cases va <;> first | exact q.elim | skip
  · exact .inr (.inr ⟨_, rfl, q.1, c _ M G H _ (Stp.refl rp) (.str _) q.2⟩)
  · rename_i hr re
    exact .inl ⟨_, _, rfl, .inl hr, fun p hp => c _ M _ _ _ (Stp.newF rp hp nofz_lst) (.lst (.inl upd_same) ((cut_at re lo hi).mono (Ge.neu (rp.free hp).1))) q⟩
  · rename_i vs xs hr re
    refine .inr (.inl ⟨_, _, rfl, .inl hr, fun hw => ?_, fun _ p hp => c _ M _ _ _ (Stp.newF rp hp nofz_tup) (.tup (.inl upd_same) ((cut_at re lo hi).mono (Ge.neu (rp.free hp).1))) q⟩)
    rw [← re.length] at hw
    have q' : R (.tup (cutD xs lo hi)) M := q
    rw [cut_whole hw] at q'
    exact c _ M G H _ (Stp.refl rp) (kt _ rfl) q'
abbrev dSl (te : DTE) (tl th : DTO) : DTE := fun s M Q => te s M fun x M1 => tl s M1 fun l M2 => th s M2 fun u M3 => rSlG x l u M3 Q
theorem de_slice {lo hi : Option Expr} {tl th : DTO} (he : DE X e te) (hl : DO X lo tl) (hu : DO X hi th) : DE X (.Subscript e (.Slice lo hi none pos2) pos) (dSl te tl th) :=
  ⟨pe_imp (pe_slice sl_all he.pe hl.po hu.po) fun σ H Q ⟨G, M, s, R, rp, sl, q, c⟩ => ⟨G, M, s, _, rp, sl, q, fun x M1 G1 H1 v s1 a1 q1 => ⟨G1, M1, s, _, s1.rep, smono s1.ge sl, q1, fun l M2 G2 H2 s2 q2 =>
    ⟨G2, M2, s, _, s2.rep, smono s2.ge (smono s1.ge sl), q2, fun u M3 G3 H3 s3 q3 => ⟨G3, M3, x, R, s3.rep, a1.mono (s2.ge.trans s3.ge), q3, fun z M4 G4 H4 w s4 a4 q4 => c z M4 G4 H4 w (s1.trans (s2.trans (s3.trans s4))) a4 q4⟩⟩⟩⟩⟩
end
end D

set_option Elab.async false
set_option linter.all false
set_option maxRecDepth 100000
set_option maxHeartbeats 1000000
/-! D9: in, len, conversions, stores, methods. -/
namespace D
open PySem PySem.Spec PyProof.Rows L2
section
variable {X : Cx} {pos pos2 p apos cpos : Pos} {a b e o i : Expr} {es : List Expr} {ta tb te : DTE} {t : DTA}
abbrev CD (R : DK) (Q : VK) (G : Hp) (M : MM) (H : Hp) : Prop := ∀ z M' G' H' v, Stp G M H G' M' H' → At G' z v → R z M' → Q v H'
theorem fin_lst {G : Hp} {M : MM} {H : Hp} {zs : List DV} {vs : List V} {R : DK} {Q : VK} (rp : Rep G M H) (a : AtL G zs vs) (c : CD R Q G M H) (q : R (.lst zs) M) : ∀ p, H p = none → Q (.ref p) (upd H p (.lst vs)) :=
  fun p hp => c _ M _ _ _ (Stp.newF rp hp nofz_lst) (.lst (.inl upd_same) (a.mono (Ge.neu (rp.free hp).1))) q
theorem fin_lstM {G : Hp} {M : MM} {H : Hp} {zs : List DV} {vs : List V} {R : DK} {Q : VK} (rp : Rep G M H) (a : AtL G zs vs) (c : CD R Q G M H) (q : ∀ p, M p = none → R (.adr p) (updM M p (.lst zs))) : ∀ p, H p = none → Q (.ref p) (upd H p (.lst vs)) :=
  fun p hp => c _ _ _ _ _ (Stp.newM rp hp (.lst a)) (.adr p) (q p (rp.free hp).2)
theorem fin_tup {G : Hp} {M : MM} {H : Hp} {zs : List DV} {vs : List V} {R : DK} {Q : VK} (rp : Rep G M H) (a : AtL G zs vs) (c : CD R Q G M H) (q : R (.tup zs) M) : ∀ p, H p = none → Q (.ref p) (upd H p (.tup vs)) :=
  fun p hp => c _ M _ _ _ (Stp.newF rp hp nofz_tup) (.tup (.inl upd_same) (a.mono (Ge.neu (rp.free hp).1))) q
theorem fin_dK {G : Hp} {M : MM} {H : Hp} {ks : List (Key × DV)} {kvs : List (Key × V)} {R : DK} {Q : VK} (rp : Rep G M H) (e : ks.map Prod.fst = kvs.map Prod.fst) (a : AtL G (ks.map Prod.snd) (kvs.map Prod.snd)) (c : CD R Q G M H) (q : R (.dK ks) M) : ∀ p, H p = none → Q (.ref p) (upd H p (.dK kvs)) :=
  fun p hp => c _ M _ _ _ (Stp.newF rp hp nofz_dK) (.dK (.inl upd_same) e (a.mono (Ge.neu (rp.free hp).1))) q
theorem fin_dKM {G : Hp} {M : MM} {H : Hp} {ks : List (Key × DV)} {kvs : List (Key × V)} {R : DK} {Q : VK} (rp : Rep G M H) (e : ks.map Prod.fst = kvs.map Prod.fst) (a : AtL G (ks.map Prod.snd) (kvs.map Prod.snd)) (c : CD R Q G M H) (q : ∀ p, M p = none → R (.adr p) (updM M p (.dK ks))) : ∀ p, H p = none → Q (.ref p) (upd H p (.dK kvs)) :=
  fun p hp => c _ _ _ _ _ (Stp.newM rp hp (.dK e a)) (.adr p) (q p (rp.free hp).2)

/-! ### in, not in -/
def rDIn (neg : Bool) : R2 := fun x y H Q => ∃ a o, y = .ref a ∧ DGet H a x o ∧ Q (.bl (if neg then !o.isSome else o.isSome)) H
theorem op_din (hu : X.A.units + 64 < cLine) : OpR X (compareOp .In) (rDIn false) := fun pins s σ H x y v u Q I rx ry ⟨a, o, ey, g, q⟩ => by
  subst ey
  obtain rfl : u = Value.ref a := ry
  exact d_in (by omega) I g rx fun s3 I3 => ⟨.bl o.isSome, H, I3, rfl, q⟩
theorem op_dnin (hu : X.A.units + 64 < cLine) : OpR X (compareOp .NotIn) (rDIn true) := fun pins s σ H x y v u Q I rx ry ⟨a, o, ey, g, q⟩ => by
  subst ey
  obtain rfl : u = Value.ref a := ry
  exact d_notIn (by omega) I g rx fun s3 I3 => ⟨.bl (!o.isSome), H, I3, rfl, q⟩
/-- one sign in a text -/
abbrev rInS : DR2 := fun x y M Q => match x, y with
  | .str a, .str z => ∃ c, a = ⟨#[c]⟩ ∧ Q (.bl (decide (c ∈ z.cps.toList))) M
  | _, _ => False
theorem od_inS : OpR X (compareOp .In) (low2 rInS) := D.OpR.imp op_in_sign fun x y H Q h => by
  obtain ⟨G, M, d, e, R, rp, ax, ay, q, c⟩ := h
  cases ax <;> cases ay <;> first | exact q.elim | skip
  obtain ⟨k, rfl, q⟩ := q
  exact ⟨k, _, rfl, rfl, c _ M G H _ (Stp.refl rp) (.bl _) q⟩
/-- a key in a dict -/
abbrev rInD (neg : Bool) : DR2 := fun x y M Q => match view M y with
  | .dK ks => ∃ k, keyOf x = some k ∧ Q (.bl (if neg then (valD ks k).isNone else (valD ks k).isSome)) M
  | _ => False
theorem low_in {neg : Bool} {x y : V} {H : Hp} {Q : VK} (h : low2 (rInD neg) x y H Q) : rDIn neg x y H Q := by
  obtain ⟨G, M, d, e, R, rp, ax, ay, q, c⟩ := h
  have va := view_at rp ay
  unfold rInD at q
  generalize view M e = y' at va q
  cases va <;> first | exact q.elim | skip
  rename_i hr ee re
  obtain ⟨k, ek, q⟩ := q
  have ex := keyOf_at ax ek
  subst ex
  have kn := kv_none k ee
  refine ⟨_, _, rfl, .inl ⟨_, k, hr, rfl, rfl⟩, c _ M G H _ (Stp.refl rp) (.bl _) ?_⟩
  have e1 : ∀ (A : Option DV) (B : Option V), (A = none ↔ B = none) → (if neg then A.isNone else A.isSome) = (if neg then !B.isSome else B.isSome) := fun A B h => by
    cases A <;> cases B <;> simp_all
  rw [← e1 _ _ kn]
  exact q
theorem od_inD (hu : X.A.units + 64 < cLine) : OpR X (compareOp .In) (low2 (rInD false)) := D.OpR.imp (op_din hu) fun x y H Q h => low_in h
theorem od_ninD (hu : X.A.units + 64 < cLine) : OpR X (compareOp .NotIn) (low2 (rInD true)) := D.OpR.imp (op_dnin hu) fun x y H Q h => low_in h

/-! ### len -/
theorem cr_lenD : CallR X (.builtin "len") (fun xs H Q => ∃ a kvs, xs = [.ref a] ∧ Rd H a (.dK kvs) ∧ Q (.int kvs.length) H) := fun pins s σ H xs us Q I r h => by
  obtain ⟨a, kvs, rfl, hd, q⟩ := h
  rw [Vals.ref1 r]
  exact d_len I hd fun tk s1 I1 => ⟨.int kvs.length, H, I1, ⟨_, rfl⟩, q⟩
abbrev rLenG : DR := fun xs M Q => match xs with
  | [x] => match view M x with
    | .lst l => Q (.int l.length) M
    | .tup l => Q (.int l.length) M
    | .dK l => Q (.int l.length) M
    | .str z => z.length ≤ sizeLine ∧ Q (.int z.length) M
    | _ => False
  | _ => False
theorem cd_len : CallR X (.builtin "len") (lowC rLenG) := D.CallR.imp ((call_len_seq.or call_len_str).or cr_lenD) fun vs H Q h => by
  obtain ⟨G, M, ds, R, rp, al, q, c⟩ := h
  rcases ds with _ | ⟨d, _ | ⟨_, _⟩⟩ <;> first | exact q.elim | skip
  obtain ⟨v, rfl, ax⟩ := al.one
  have va := view_at rp ax
  unfold rLenG at q
  dsimp only at q
  generalize view M d = y' at va q
  cases va <;> first | exact q.elim | skip
  · exact .inl (.inr ⟨_, rfl, q.1, c _ M G H _ (Stp.refl rp) (.int _) q.2⟩)
  · rename_i hr re
    exact .inl (.inl ⟨_, _, rfl, .inl (.inl hr), by rw [← re.length]; exact c _ M G H _ (Stp.refl rp) (.int _) q⟩)
  · rename_i hr re
    exact .inl (.inl ⟨_, _, rfl, .inr (.inl hr), by rw [← re.length]; exact c _ M G H _ (Stp.refl rp) (.int _) q⟩)
  · rename_i hr ee re
    refine .inr ⟨_, _, rfl, hr, ?_⟩
    have := congrArg List.length ee
    simp only [List.length_map] at this
    rw [← this]
    exact c _ M G H _ (Stp.refl rp) (.int _) q

/-! ### list(x), tuple(x), int(x), abs(x), min(x, y) -/
def seqV (d : DV) : Option (List DV) := match d with
  | .lst l => some l
  | .tup l => some l
  | .dK ks => some (ks.map fun kv => keyD kv.1)
  | _ => none
abbrev rListF : DR := fun xs M Q => match xs with
  | [x] => ∃ l, seqV (view M x) = some l ∧ Q (.lst l) M
  | _ => False
abbrev rListM : DR := fun xs M Q => match xs with
  | [x] => ∃ l, seqV (view M x) = some l ∧ ∀ p, M p = none → Q (.adr p) (updM M p (.lst l))
  | _ => False
theorem list_low (hc : X.calm = true) {vs : List V} {H : Hp} {Q : VK} {d : DV} {l : List DV} {v : V} {G : Hp} {M : MM} (rp : Rep G M H) (ax : At G d v) (el : seqV (view M d) = some l) (q : ∀ ws, AtL G l ws → ∀ p, H p = none → Q (.ref p) (upd H p (.lst ws))) :
    (∃ p ys, [v] = [V.ref p] ∧ (SqL X.K H p ys ∨ SqT X.K H p ys) ∧ ∀ l, H l = none → Q (.ref l) (upd H l (.lst ys))) ∨ ∃ (a : Addr) (kvs : List (Key × V)), [v] = [V.ref a] ∧ Rd H a (.dK kvs) ∧ ∀ p, H p = none → Q (.ref p) (upd H p (.lst (kvs.map fun kv => kV kv.1))) := by
  have va := view_at rp ax
  generalize view M d = y' at va el
  cases va <;> first | cases el | skip
  · rename_i hr re
    exact .inl ⟨_, _, rfl, .inl (.inl hr), q _ re⟩
  · rename_i hr re
    exact .inl ⟨_, _, rfl, .inr (.inl hr), q _ re⟩
  · rename_i kvs ks hr ee re
    refine .inr ⟨_, _, rfl, hr, q _ ?_⟩
    have e1 : ks.map (fun kv => keyD kv.1) = (ks.map Prod.fst).map keyD := by simp
    have e2 : kvs.map (fun kv => kV kv.1) = (kvs.map Prod.fst).map kV := by simp
    rw [e1, e2, ee]
    exact at_keys _
theorem cd_listF (hc : X.calm = true) : CallR X (.type "list") (lowC rListF) := D.CallR.imp (call_list_of.or (call_listD hc)) fun vs H Q h => by
  obtain ⟨G, M, ds, R, rp, al, q, c⟩ := h
  rcases ds with _ | ⟨d, _ | ⟨_, _⟩⟩ <;> first | exact q.elim | skip
  obtain ⟨v, rfl, ax⟩ := al.one
  obtain ⟨l, el, q⟩ := q
  exact list_low (vs := [v]) hc rp ax el fun ws aw => fin_lst rp aw c q
theorem cd_listM (hc : X.calm = true) : CallR X (.type "list") (lowC rListM) := D.CallR.imp (call_list_of.or (call_listD hc)) fun vs H Q h => by
  obtain ⟨G, M, ds, R, rp, al, q, c⟩ := h
  rcases ds with _ | ⟨d, _ | ⟨_, _⟩⟩ <;> first | exact q.elim | skip
  obtain ⟨v, rfl, ax⟩ := al.one
  obtain ⟨l, el, q⟩ := q
  exact list_low (vs := [v]) hc rp ax el fun ws aw => fin_lstM rp aw c q
abbrev rTupG : DR := fun xs M Q => match xs with
  | [x] => match view M x with
    | .lst l => Q (.tup l) M
    | .tup l => Q (.tup l) M
    | _ => False
  | _ => False
theorem cd_tup : CallR X (.type "tuple") (lowC rTupG) := D.CallR.imp call_tuple_of fun vs H Q h => by
  obtain ⟨G, M, ds, R, rp, al, q, c⟩ := h
  rcases ds with _ | ⟨d, _ | ⟨_, _⟩⟩ <;> first | exact q.elim | skip
  obtain ⟨v, rfl, ax⟩ := al.one
  have va := view_at rp ax
  have kt := view_tup (M := M) ax
  unfold rTupG at q
  dsimp only at q
  generalize view M d = y' at va q kt
  cases va <;> first | exact q.elim | skip
  · rename_i hr re
    exact ⟨_, _, rfl, .inl ⟨.inl hr, fin_tup rp re c q⟩⟩
  · rename_i hr re
    exact ⟨_, _, rfl, .inr ⟨.inl hr, c _ M G H _ (Stp.refl rp) (kt _ rfl) q⟩⟩
abbrev rIntG : DR := fun xs M Q => match xs with
  | [.int i] => Q (.int i) M
  | [.bl k] => Q (.int (if k then 1 else 0)) M
  | _ => False
theorem cd_int : CallR X (.type "int") (lowC rIntG) := D.CallR.imp call_int1 fun vs H Q h => by
  obtain ⟨G, M, ds, R, rp, al, q, c⟩ := h
  rcases ds with _ | ⟨d, _ | ⟨_, _⟩⟩ <;> first | exact q.elim | skip
  · obtain ⟨v, rfl, ax⟩ := al.one
    cases ax <;> first | exact q.elim | skip
    · exact .inr ⟨_, rfl, c _ M G H _ (Stp.refl rp) (.int _) q⟩
    · exact .inl ⟨_, rfl, c _ M G H _ (Stp.refl rp) (.int _) q⟩
  · cases d <;> exact q.elim
abbrev rAbsG : DR := fun xs M Q => match xs with
  | [.int i] => Q (.int (if i < 0 then -i else i)) M
  | _ => False
theorem cd_abs : CallR X (.builtin "abs") (lowC rAbsG) := D.CallR.imp call_abs fun vs H Q h => by
  obtain ⟨G, M, ds, R, rp, al, q, c⟩ := h
  rcases ds with _ | ⟨d, _ | ⟨_, _⟩⟩ <;> first | exact q.elim | skip
  · obtain ⟨v, rfl, ax⟩ := al.one
    cases ax <;> first | exact q.elim | skip
    exact ⟨_, rfl, c _ M G H _ (Stp.refl rp) (.int _) q⟩
  · cases d <;> exact q.elim
abbrev rMinG : DR := fun xs M Q => match xs with
  | [.int i, .int j] => Q (.int (if j < i then j else i)) M
  | _ => False
theorem cd_min (hc : X.calm = true) : CallR X (.builtin "min") (lowC rMinG) := D.CallR.imp (call_min2 hc) fun vs H Q h => by
  obtain ⟨G, M, ds, R, rp, al, q, c⟩ := h
  rcases ds with _ | ⟨d, _ | ⟨d2, _ | ⟨_, _⟩⟩⟩ <;> first | exact q.elim | skip
  · cases d <;> exact q.elim
  · obtain ⟨v, u, rfl, ax, ay⟩ := al.two
    cases ax <;> first | exact q.elim | skip
    cases ay <;> first | exact q.elim | skip
    exact ⟨_, _, rfl, c _ M G H _ (Stp.refl rp) (.int _) q⟩
  · cases d <;> first | exact q.elim | (cases d2 <;> exact q.elim)

/-! ### all, any of a list of truths -/
theorem atl_bl {G : Hp} : ∀ {bs : List Bool} {vs : List V}, AtL G (bs.map DV.bl) vs → vs = bs.map V.bl
  | [], _, .nil => rfl
  | b :: bs, _, .cons h t => by
    cases h
    rw [atl_bl t] <;> rfl
abbrev rAllG : DR := fun xs M Q => match xs with
  | [x] => match view M x with
    | .lst l => ∃ bs : List Bool, l = bs.map DV.bl ∧ Q (.bl (bs.all id)) M
    | _ => False
  | _ => False
theorem cd_all (hc : X.calm = true) : CallR X (.builtin "all") (lowC rAllG) := D.CallR.imp (cr_all hc) fun vs H Q h => by
  obtain ⟨G, M, ds, R, rp, al, q, c⟩ := h
  rcases ds with _ | ⟨d, _ | ⟨_, _⟩⟩ <;> first | exact q.elim | skip
  obtain ⟨v, rfl, ax⟩ := al.one
  have va := view_at rp ax
  unfold rAllG at q
  dsimp only at q
  generalize view M d = y' at va q
  cases va <;> first | exact q.elim | skip
  rename_i hr re
  obtain ⟨bs, rfl, q⟩ := q
  have ev := atl_bl re
  subst ev
  exact ⟨_, bs, rfl, .inl hr, c _ M G H _ (Stp.refl rp) (.bl _) q⟩
abbrev rAnyG : DR := fun xs M Q => match xs with
  | [x] => match view M x with
    | .lst l => ∃ bs : List Bool, l = bs.map DV.bl ∧ Q (.bl (bs.any id)) M
    | _ => False
  | _ => False
theorem cd_any (hc : X.calm = true) : CallR X (.builtin "any") (lowC rAnyG) := D.CallR.imp (cr_any hc) fun vs H Q h => by
  obtain ⟨G, M, ds, R, rp, al, q, c⟩ := h
  rcases ds with _ | ⟨d, _ | ⟨_, _⟩⟩ <;> first | exact q.elim | skip
  obtain ⟨v, rfl, ax⟩ := al.one
  have va := view_at rp ax
  unfold rAnyG at q
  dsimp only at q
  generalize view M d = y' at va q
  cases va <;> first | exact q.elim | skip
  rename_i hr re
  obtain ⟨bs, rfl, q⟩ := q
  have ev := atl_bl re
  subst ev
  exact ⟨_, bs, rfl, .inl hr, c _ M G H _ (Stp.refl rp) (.bl _) q⟩
end
end D

set_option Elab.async false
set_option linter.all false
set_option maxRecDepth 100000
set_option maxHeartbeats 1000000
/-! D10: stores by subscript, methods of built-ins, dict(..), isinstance, truth. -/
namespace D
open PySem PySem.Spec PyProof.Rows L2
section
variable {X : Cx} {pos pos2 p apos cpos : Pos} {a b e o i : Expr} {es : List Expr} {ta tb te to : DTE} {t : DTA}
/-! ### o[i] = .. -/
abbrev DSet := DV → DV → DV → MM → (MM → Prop) → Prop
def lowSet (r : DSet) : TSet := fun o i v H Q => ∃ (G : Hp) (M : MM) (d e z : DV) (R : MM → Prop), Rep G M H ∧ At G d o ∧ At G e i ∧ At G z v ∧ r d e z M R ∧ ∀ M' G' H', Stp G M H G' M' H' → R M' → Q H'
theorem PSet.imp {t t' : TSet} (h : PSet X t) (i : ∀ o i v H Q, t' o i v H Q → t o i v H Q) : PSet X t' := fun pins s σ H o k v ov iv u Q I ro ri rv q => h pins s σ H o k v ov iv u Q I ro ri rv (i _ _ _ _ _ q)
abbrev rPutL : DSet := fun o i v M Q => match o, i with
  | .adr a, .int k => ∃ xs j, M a = some (.lst xs) ∧ ixN xs.length k = some j ∧ Q (updM M a (.lst (xs.set j v)))
  | _, _ => False
theorem pd_lst : PSet X (lowSet rPutL) := PSet.imp set_list fun o i v H Q h => by
  obtain ⟨G, M, d, e, z, R, rp, ao, ai, az, q, c⟩ := h
  cases ao <;> cases ai <;> first | exact q.elim | skip
  obtain ⟨xs, j, hM, hj, q⟩ := q
  obtain ⟨_, u, hu, ma⟩ := rp.mu _ _ hM
  cases ma with
  | lst r => exact ⟨_, _, _, j, rfl, rfl, hu, by rw [← r.length]; exact hj, c _ _ _ (Stp.write rp hM (.lst (AtL.set az j r))) q⟩
abbrev rPutD : DSet := fun o i v M Q => match o with
  | .adr a => ∃ ks k, M a = some (.dK ks) ∧ keyOf i = some k ∧ ks.length < sizeLine ∧ Q (updM M a (.dK (putD ks k v)))
  | _ => False
theorem pd_dct (hu : X.A.units + 64 < cLine) : PSet X (lowSet rPutD) := PSet.imp (set_dict (by omega)) fun o i v H Q h => by
  obtain ⟨G, M, d, e, z, R, rp, ao, ai, az, q, c⟩ := h
  cases ao <;> first | exact q.elim | skip
  obtain ⟨ks, k, hM, ek, hl, q⟩ := q
  have ei := keyOf_at ai ek
  subst ei
  obtain ⟨_, u, hu, ma⟩ := rp.mu _ _ hM
  cases ma with
  | dK ee r =>
    rename_i kvs
    obtain ⟨e2, r2⟩ := put_rel (k := k) ee r az
    have hlen : ks.length = kvs.length := by have := congrArg List.length ee; simpa using this
    exact ⟨_, _, rfl, .inl ⟨kvs, k, hu, rfl, by omega, rfl⟩, c _ _ _ (Stp.write rp hM (.dK e2 r2)) q⟩
abbrev dgSub (to ti : DTE) (r : DSet) : DTG := fun v s M Q => to s M fun o M1 => ti s M1 fun i M2 => r o i v M2 fun M3 => Q s M3
theorem dg_sub {ti : DTE} {r : DSet} (ho : DE X o to) (hi : DE X i ti) (hs : PSet X (lowSet r))
    (ha : ∀ v, assign (.Subscript o i pos) X.env v = (do
      let ov ← holding [v] (eval o X.env)
      let iv ← holding [v, ov] (eval i X.env)
      standAt pos
      holding [v, ov, iv] (setItem ov iv v)
      release [v, ov, iv] []) := by intro _; rfl) : DG X (.Subscript o i pos) (dgSub to ti r) [] := ⟨pg_imp (pg_sub ho.pe hi.pe hs ha) fun v σ H Q h => by
  obtain ⟨G, M, s, d, R, rp, sl, ad, q, c⟩ := h
  exact ⟨G, M, s, _, rp, sl, q, fun x M1 G1 H1 u s1 a1 q1 => ⟨G1, M1, s, _, s1.rep, smono s1.ge sl, q1, fun y M2 G2 H2 w s2 a2 q2 => ⟨G2, M2, x, y, d, _, s2.rep, a1.mono s2.ge, a2, ad.mono (s1.ge.trans s2.ge), q2, fun M3 G3 H3 s3 q3 =>
    c s M3 G3 H3 σ (s1.trans (s2.trans s3)) (smono (s1.trans (s2.trans s3)).ge sl) (OnlyAt.refl σ) q3⟩⟩⟩⟩

/-! ### methods of built-ins -/
abbrev DMr := DV → List DV → MM → DK → Prop
def lowM (r : DMr) : V → List V → Hp → VK → Prop := fun x xs H Q => ∃ (G : Hp) (M : MM) (d : DV) (ds : List DV) (R : DK), Rep G M H ∧ At G d x ∧ AtL G ds xs ∧ r d ds M R ∧ CD R Q G M H
theorem MtR.imp {id : String} {r r' : V → List V → Hp → VK → Prop} (h : MtR X id r) (i : ∀ x xs H Q, r' x xs H Q → r x xs H Q) : MtR X id r' := fun pins s σ H x xs v us Q I rv rs q => h pins s σ H x xs v us Q I rv rs (i _ _ _ _ q)
abbrev DTy := DV → MM → Prop
def TyOk (X : Cx) (T : String) (ty : DTy) : Prop := ∀ G M H d v, Rep G M H → At G d v → ty d M → tyV X.K T v H
abbrev tyLst : DTy := fun d M => match view M d with
  | .lst _ => True
  | _ => False
abbrev tyStr : DTy := fun d _ => match d with
  | .str _ => True
  | _ => False
theorem ty_lst : TyOk X "list" tyLst := fun G M H d v rp ad h => by
  have va := view_at rp ad
  unfold tyLst at h
  generalize view M d = y at va h
  cases va <;> first | exact h.elim | skip
  rename_i hr re
  exact .inl ⟨rfl, _, .inl hr⟩
theorem ty_str : TyOk X "str" tyStr := fun G M H d v rp ad h => by
  cases ad <;> first | exact h.elim | exact rfl
abbrev dBm (ty : DTy) (r : DMr) (to : DTE) (t : DTA) : DTE := fun s M Q => to s M fun x M1 => ty x M1 ∧ t s M1 fun xs M2 => r x xs M2 Q
theorem de_bm {T id : String} {name : Str} {ty : DTy} {r : DMr} (pa : PlainAttrs T) (slot : Slot T name id) (hty : typeOf (.builtin id) = pure (.type "method_descriptor")) (hm : MtR X id (lowM r)) (tk : TyOk X T ty) (ho : DE X o to) (ha : DA X (e :: es) t)
    (hbase : attributeBase o name X.env (eval o X.env) = eval o X.env := by rfl)
    (hfew : ((backTo cpos (starEach (e :: es) X.env)).all (fun x => !x.1) && (backToKw cpos (keywordEach [] X.env)).all (fun x => x.1.isSome)
      && decide ((e :: es).length + ([] : List Keyword).length + (if ([] : List Keyword).isEmpty then 0 else 1) < 30)) = true := by rfl)
    (hline : (apos.endLine == cpos.line) = true := by rfl) (hs : starEach (e :: es) X.env = (false, eval e X.env) :: starEach es X.env := by rfl) (hplain : (backTo cpos (starEach es X.env)).any (·.1) = false := by rfl) :
    DE X (.Call (.Attribute o name apos) (e :: es) [] cpos) (dBm ty r to t) := ⟨pe_imp (pe_bm pa slot hty hm ho.pe ha.pa hbase hfew hline hs hplain) fun σ H Q h => by
  obtain ⟨G, M, s, R, rp, sl, q, c⟩ := h
  exact ⟨G, M, s, _, rp, sl, q, fun x M1 G1 H1 v s1 a1 q1 => ⟨tk _ _ _ _ _ s1.rep a1 q1.1, G1, M1, s, _, s1.rep, smono s1.ge sl, q1.2, fun xs M2 G2 H2 vs s2 a2 q2 =>
    ⟨G2, M2, x, xs, R, s2.rep, a1.mono s2.ge, a2, q2, fun z M3 G3 H3 w s3 a3 q3 => c z M3 G3 H3 w (s1.trans (s2.trans s3)) a3 q3⟩⟩⟩⟩
theorem de_bm0 {T id : String} {name : Str} {ty : DTy} {r : DMr} (pa : PlainAttrs T) (slot : Slot T name id) (hty : typeOf (.builtin id) = pure (.type "method_descriptor")) (hm : MtR X id (lowM r)) (tk : TyOk X T ty) (ho : DE X o to)
    (hbase : attributeBase o name X.env (eval o X.env) = eval o X.env := by rfl) (hline : (apos.endLine == cpos.line) = true := by rfl) :
    DE X (.Call (.Attribute o name apos) [] [] cpos) (dBm ty r to dNil) := ⟨pe_imp (pe_bm0 pa slot hty hm ho.pe hbase hline) fun σ H Q h => by
  obtain ⟨G, M, s, R, rp, sl, q, c⟩ := h
  exact ⟨G, M, s, _, rp, sl, q, fun x M1 G1 H1 v s1 a1 q1 => ⟨tk _ _ _ _ _ s1.rep a1 q1.1, G1, M1, x, [], R, s1.rep, a1, .nil, q1.2, fun z M3 G3 H3 w s3 a3 q3 => c z M3 G3 H3 w (s1.trans s3) a3 q3⟩⟩⟩
abbrev rAppD : DMr := fun x xs M Q => match x, xs with
  | .adr a, [y] => ∃ l, M a = some (.lst l) ∧ l.length < sizeLine ∧ Q .non (updM M a (.lst (l ++ [y])))
  | _, _ => False
theorem md_app : MtR X "list.append" (lowM rAppD) := MtR.imp mt_append fun x xs H Q h => by
  obtain ⟨G, M, d, ds, R, rp, ad, al, q, c⟩ := h
  rcases ds with _ | ⟨y, _ | ⟨_, _⟩⟩
  · cases d <;> exact q.elim
  · obtain ⟨w, rfl, aw⟩ := al.one
    cases ad <;> first | exact q.elim | skip
    obtain ⟨l, hM, hl, q⟩ := q
    obtain ⟨_, u, hu, ma⟩ := rp.mu _ _ hM
    cases ma with
    | lst r => exact ⟨_, _, w, rfl, rfl, hu, by rw [← r.length]; exact hl, c _ _ _ _ _ (Stp.write rp hM (.lst (r.snoc aw))) .non q⟩
  · cases d <;> exact q.elim
abbrev rPopD : DMr := fun x xs M Q => match x, xs with
  | .adr a, [.int i] => ∃ l k y, M a = some (.lst l) ∧ -(2 ^ 63) ≤ i ∧ i < 2 ^ 63 ∧ seqIndex? i l.length = some k ∧ l[k]? = some y ∧ Q y (updM M a (.lst (l.eraseIdx k)))
  | _, _ => False
theorem md_popAt : MtR X "list.pop" (lowM rPopD) := MtR.imp mt_popAt fun x xs H Q h => by
  obtain ⟨G, M, d, ds, R, rp, ad, al, q, c⟩ := h
  rcases ds with _ | ⟨y, _ | ⟨_, _⟩⟩
  · cases d <;> exact q.elim
  · obtain ⟨w, rfl, aw⟩ := al.one
    cases ad <;> first | exact q.elim | (cases y <;> exact q.elim) | skip
    cases aw <;> first | exact q.elim | skip
    obtain ⟨l, k, y, hM, h1, h2, h3, h4, q⟩ := q
    obtain ⟨_, u, hu, ma⟩ := rp.mu _ _ hM
    cases ma with
    | lst r =>
      obtain ⟨v, hv, av⟩ := r.get h4
      exact ⟨_, _, _, k, v, rfl, rfl, hu, h1, h2, by rw [← r.length]; exact h3, hv, c _ _ _ _ _ (Stp.write rp hM (.lst (r.erase k))) av q⟩
  · cases d <;> cases y <;> exact q.elim
abbrev rPop0 : DMr := fun x xs M Q => match x, xs with
  | .adr a, [] => ∃ l y, M a = some (.lst l) ∧ l[l.length - 1]? = some y ∧ Q y (updM M a (.lst l.dropLast))
  | _, _ => False
theorem AtL.dropLast {G : Hp} : ∀ {ds : List DV} {vs : List V}, AtL G ds vs → AtL G ds.dropLast vs.dropLast
  | _, _, .nil => .nil
  | [_], _, .cons h .nil => .nil
  | _ :: _ :: _, _, .cons h (.cons h2 t) => .cons h (AtL.dropLast (.cons h2 t))
theorem md_pop : MtR X "list.pop" (lowM rPop0) := MtR.imp mt_pop fun x xs H Q h => by
  obtain ⟨G, M, d, ds, R, rp, ad, al, q, c⟩ := h
  rcases ds with _ | ⟨y, _⟩
  · cases al
    cases ad <;> first | exact q.elim | skip
    obtain ⟨l, y, hM, h4, q⟩ := q
    obtain ⟨_, u, hu, ma⟩ := rp.mu _ _ hM
    cases ma with
    | lst r =>
      obtain ⟨v, hv, av⟩ := r.get h4
      exact ⟨_, _, v, rfl, rfl, hu, by rw [← r.length]; exact hv, c _ _ _ _ _ (Stp.write rp hM (.lst r.dropLast)) av q⟩
  · cases d <;> exact q.elim
theorem atl_strs {G : Hp} : ∀ {ys : List Str} {vs : List V}, AtL G (ys.map DV.str) vs → vs = ys.map V.str
  | [], _, .nil => rfl
  | b :: bs, _, .cons h t => by
    cases h
    rw [atl_strs t] <;> rfl
abbrev rJoinD : DMr := fun x xs M Q => match x, xs with
  | .str a, [y] => ∃ l ys, seqV (view M y) = some l ∧ l = ys.map DV.str ∧ (ys.map (·.length)).sum + ys.length * a.length ≤ 16777216 ∧ Q (.str (Txt.join a ys)) M
  | _, _ => False
theorem rJ {G : Hp} {M : MM} {H : Hp} {y : DV} {w : V} {ys : List Str} (rp : Rep G M H) (aw : At G y w) (h : view M y = .lst (ys.map DV.str) ∨ view M y = .tup (ys.map DV.str)) {K : PySem.W.Frag} : ∃ p, w = .ref p ∧ (SqL K H p (ys.map V.str) ∨ SqT K H p (ys.map V.str)) := by
  have va := view_at rp aw
  rcases h with h | h <;> rw [h] at va <;> cases va
  · rename_i hr re
    rw [atl_strs re] at hr
    exact ⟨_, rfl, .inl (.inl hr)⟩
  · rename_i hr re
    rw [atl_strs re] at hr
    exact ⟨_, rfl, .inr (.inl hr)⟩
abbrev rJoinG : DMr := fun x xs M Q => match x, xs with
  | .str a, [y] => ∃ ys : List Str, (view M y = .lst (ys.map DV.str) ∨ view M y = .tup (ys.map DV.str)) ∧ (ys.map (·.length)).sum + ys.length * a.length ≤ 16777216 ∧ Q (.str (Txt.join a ys)) M
  | _, _ => False
theorem md_join : MtR X "str.join" (lowM rJoinG) := MtR.imp mt_join fun x xs H Q h => by
  obtain ⟨G, M, d, ds, R, rp, ad, al, q, c⟩ := h
  rcases ds with _ | ⟨y, _ | ⟨_, _⟩⟩
  · cases d <;> exact q.elim
  · obtain ⟨w, rfl, aw⟩ := al.one
    cases ad <;> first | exact q.elim | skip
    obtain ⟨ys, hy, hz, q⟩ := q
    obtain ⟨p, rfl, hp⟩ := rJ (K := X.K) rp aw hy
    exact ⟨_, p, ys, rfl, rfl, hp, hz, c _ M G H _ (Stp.refl rp) (.str _) q⟩
  · cases d <;> exact q.elim
/-! ### d.get(k, x) -/
abbrev dGet2 (td ty tx : DTE) : DTE := fun s M Q => td s M fun x M1 => ty s M1 fun y M2 => tx s M2 fun z M3 => match view M1 x, view M3 x with
  | .dK _, .dK ks => ∃ k, keyOf y = some k ∧ (match valD ks k with
    | some d => Q d M3
    | none => Q z M3)
  | _, _ => False
end
end D

set_option Elab.async false
set_option linter.all false
set_option maxRecDepth 100000
set_option maxHeartbeats 1000000
/-! D11: dict(..), d.get, isinstance, truth, own dunders, class methods, calls of a local class, keyword calls. -/
namespace D
open PySem PySem.Spec PyProof.Rows L2
section
variable {X : Cx} {pos pos2 p apos cpos : Pos} {a b e o i f : Expr} {es : List Expr} {ta tb te to td ty tx : DTE} {t : DTA}
/-! ### dict(..) -/
abbrev pairV (kv : Key × DV) : DV := .tup [keyD kv.1, kv.2]
def mergeD (kvs more : List (Key × DV)) : List (Key × DV) := more.foldl (fun acc kv => putD acc kv.1 kv.2) kvs
theorem keyD_at {G : Hp} {k : Key} {v : V} (h : At G (keyD k) v) : v = kV k := by
  cases k <;> cases h <;> rfl
theorem merge_rel {G : Hp} : ∀ {more : List (Key × DV)} {mv : List (Key × V)} {ks : List (Key × DV)} {kvs : List (Key × V)}, more.map Prod.fst = mv.map Prod.fst → AtL G (more.map Prod.snd) (mv.map Prod.snd) → ks.map Prod.fst = kvs.map Prod.fst → AtL G (ks.map Prod.snd) (kvs.map Prod.snd) →
    (mergeD ks more).map Prod.fst = (mergeK kvs mv).map Prod.fst ∧ AtL G ((mergeD ks more).map Prod.snd) ((mergeK kvs mv).map Prod.snd)
  | [], [], _, _, _, _, e, r => ⟨e, r⟩
  | [], _ :: _, _, _, e, _, _, _ => by simp at e
  | _ :: _, [], _, _, e, _, _, _ => by simp at e
  | (k1, d1) :: ms, (k2, v2) :: mv, ks, kvs, em, rm, e, r => by
    simp only [List.map_cons, List.cons.injEq] at em rm
    obtain ⟨ek, em2⟩ := em
    subst ek
    cases rm with
    | cons h1 t1 =>
      obtain ⟨e2, r2⟩ := put_rel (k := k1) e r h1
      have z := merge_rel em2 t1 e2 r2
      exact z
theorem pairs_low {G : Hp} {H : Hp} {K : PySem.W.Frag} (ge : Ge G H) : ∀ {kvs : List (Key × DV)} {vs : List V}, AtL G (kvs.map pairV) vs → ∃ (ps : List Addr) (ws : List (Key × V)), vs = ps.map V.ref ∧ Paired (fun p kv => SqT K H p [kV kv.1, kv.2]) ps ws ∧ kvs.map Prod.fst = ws.map Prod.fst ∧ AtL G (kvs.map Prod.snd) (ws.map Prod.snd)
  | [], _, .nil => ⟨[], [], rfl, .nil, rfl, .nil⟩
  | (k, d) :: kvs, _, .cons h t => by
    obtain ⟨ps, ws, rfl, hp, ef, rs⟩ := pairs_low ge t
    cases h with
    | tup hr re =>
      obtain ⟨v, u, rfl, av, au⟩ := re.two
      have ev := keyD_at av
      subst ev
      rename_i a
      exact ⟨a :: ps, (k, u) :: ws, rfl, .cons (.inl (ge.rd _ _ hr)) hp, by simp [ef], .cons au rs⟩
abbrev rDictP (q : List (Key × DV) → MM → DK → Prop) : DR := fun xs M Q => match xs with
  | [x] => match view M x with
    | .lst l => ∃ kvs : List (Key × DV), l = kvs.map pairV ∧ q (mergeD [] kvs) M Q
    | _ => False
  | _ => False
abbrev qF : List (Key × DV) → MM → DK → Prop := fun ks M Q => Q (.dK ks) M
abbrev qM : List (Key × DV) → MM → DK → Prop := fun ks M Q => ∀ p, M p = none → Q (.adr p) (updM M p (.dK ks))
theorem dictP_low (hc : X.calm = true) {q : List (Key × DV) → MM → DK → Prop} {vs : List V} {H : Hp} {Q : VK} (h : lowC (rDictP q) vs H Q)
    (fin : ∀ {G M ks kvs R}, Rep G M H → ks.map Prod.fst = kvs.map Prod.fst → AtL G (ks.map Prod.snd) (kvs.map Prod.snd) → CD R Q G M H → q ks M R → ∀ p, H p = none → Q (.ref p) (upd H p (.dK kvs))) :
    ∃ (a : Addr) (ps : List Addr) (kvs : List (Key × V)), vs = [.ref a] ∧ SqL X.K H a (ps.map V.ref) ∧ Paired (fun p kv => SqT X.K H p [kV kv.1, kv.2]) ps kvs ∧ ∀ p, H p = none → Q (.ref p) (upd H p (.dK (mergeK [] kvs))) := by
  obtain ⟨G, M, ds, R, rp, al, q, c⟩ := h
  rcases ds with _ | ⟨d, _ | ⟨_, _⟩⟩ <;> first | exact q.elim | skip
  obtain ⟨v, rfl, ax⟩ := al.one
  have va := view_at rp ax
  unfold rDictP at q
  dsimp only at q
  generalize view M d = y' at va q
  cases va <;> first | exact q.elim | skip
  rename_i hr re
  obtain ⟨kvs, rfl, q⟩ := q
  obtain ⟨ps, ws, rfl, hp, ef, rs⟩ := pairs_low (K := X.K) rp.ge re
  obtain ⟨e2, r2⟩ := merge_rel (ks := []) (kvs := []) ef rs rfl .nil
  exact ⟨_, ps, ws, rfl, .inl hr, hp, fin rp e2 r2 c q⟩
theorem cd_dictP (hc : X.calm = true) : CallR X (.type "dict") (lowC (rDictP qF)) := D.CallR.imp (call_dictP hc) fun vs H Q h => dictP_low hc h fun rp e r c q => fin_dK rp e r c q
theorem cd_dictPM (hc : X.calm = true) : CallR X (.type "dict") (lowC (rDictP qM)) := D.CallR.imp (call_dictP hc) fun vs H Q h => dictP_low hc h fun rp e r c q => fin_dKM rp e r c q
theorem call_dictD : CallR X (.type "dict") (fun xs H Q => ∃ a kvs, xs = [.ref a] ∧ Rd H a (.dK kvs) ∧ ∀ p, H p = none → Q (.ref p) (upd H p (.dK kvs))) := fun pins s σ H xs us Q I r h => by
  obtain ⟨a, kvs, rfl, hd, q⟩ := h
  rw [Vals.ref1 r]
  exact d_copyOf I hd fun p s1 hp I1 => ⟨.ref p, _, I1, rfl, q p hp⟩
abbrev rDictD (q : List (Key × DV) → MM → DK → Prop) : DR := fun xs M Q => match xs with
  | [x] => match view M x with
    | .dK ks => q ks M Q
    | _ => False
  | _ => False
theorem dictD_low {q : List (Key × DV) → MM → DK → Prop} {vs : List V} {H : Hp} {Q : VK} (h : lowC (rDictD q) vs H Q)
    (fin : ∀ {G M ks kvs R}, Rep G M H → ks.map Prod.fst = kvs.map Prod.fst → AtL G (ks.map Prod.snd) (kvs.map Prod.snd) → CD R Q G M H → q ks M R → ∀ p, H p = none → Q (.ref p) (upd H p (.dK kvs))) :
    ∃ a kvs, vs = [V.ref a] ∧ Rd H a (.dK kvs) ∧ ∀ p, H p = none → Q (.ref p) (upd H p (.dK kvs)) := by
  obtain ⟨G, M, ds, R, rp, al, q, c⟩ := h
  rcases ds with _ | ⟨d, _ | ⟨_, _⟩⟩ <;> first | exact q.elim | skip
  obtain ⟨v, rfl, ax⟩ := al.one
  have va := view_at rp ax
  unfold rDictD at q
  dsimp only at q
  generalize view M d = y' at va q
  cases va <;> first | exact q.elim | skip
  rename_i hr ee re
  exact ⟨_, _, rfl, hr, fin rp ee re c q⟩
theorem cd_dictD : CallR X (.type "dict") (lowC (rDictD qF)) := D.CallR.imp call_dictD fun vs H Q h => dictD_low h fun rp e r c q => fin_dK rp e r c q
theorem cd_dictDM : CallR X (.type "dict") (lowC (rDictD qM)) := D.CallR.imp call_dictD fun vs H Q h => dictD_low h fun rp e r c q => fin_dKM rp e r c q

/-! ### truth -/
def truD (M : MM) (d : DV) : Option Bool := match view M d with
  | .non => some false
  | .bl b => some b
  | .int i => some (i != 0)
  | .lst l => some (!l.isEmpty)
  | .tup l => some (!l.isEmpty)
  | .dK l => some (!l.isEmpty)
  | _ => none
theorem tru_D : TruR X (fun x H Q => ∃ a kvs, x = .ref a ∧ Rd H a (.dK kvs) ∧ Q (!kvs.isEmpty) H) := fun pins s σ H x v Q I rx h => by
  obtain ⟨a, kvs, rfl, hd, q⟩ := h
  cases rx
  obtain ⟨hz, hS, vs, r, m⟩ := (show ObjOk X.prog X.w H s.heap a (.dK kvs) from hd.ok I.hok)
  have hlen : kvs.length = vs.length := Paired.length r
  have hl := line63
  exact wpAny_truthy_dict hS m (by omega) ⟨H, I.tok _, by rw [isEmpty_kv r]; exact q⟩
theorem isE2 {α β γ : Type} {xs : List (α × β)} {ys : List (α × γ)} (h : xs.map Prod.fst = ys.map Prod.fst) : xs.isEmpty = ys.isEmpty := by
  cases xs <;> cases ys <;> simp_all
def lowTr (r : DV → MM → (Bool → MM → Prop) → Prop) : V → Hp → (Bool → Hp → Prop) → Prop := fun x H Q => ∃ (G : Hp) (M : MM) (d : DV) (R : Bool → MM → Prop), Rep G M H ∧ At G d x ∧ r d M R ∧ ∀ b M' G' H', Stp G M H G' M' H' → R b M' → Q b H'
theorem TruR.imp {r r' : V → Hp → (Bool → Hp → Prop) → Prop} (h : TruR X r) (i : ∀ x H Q, r' x H Q → r x H Q) : TruR X r' := fun pins s σ H x v Q I rx q => h pins s σ H x v Q I rx (i _ _ _ q)
theorem TruR.or {r r' : V → Hp → (Bool → Hp → Prop) → Prop} (h : TruR X r) (h' : TruR X r') : TruR X fun x H Q => r x H Q ∨ r' x H Q := fun pins s σ H x v Q I rx q => q.elim (h pins s σ H x v Q I rx) (h' pins s σ H x v Q I rx)
abbrev rTru : DV → MM → (Bool → MM → Prop) → Prop := fun d M Q => ∃ b, truD M d = some b ∧ Q b M
theorem td_tru : TruR X (lowTr rTru) := TruR.imp (TruR.or tru_ok tru_D) fun x H Q h => by
  obtain ⟨G, M, d, R, rp, ad, ⟨b, eb, q⟩, c⟩ := h
  have va := view_at rp ad
  have fin : Q b H := c b M G H (Stp.refl rp) q
  unfold truD at eb
  generalize view M d = y at va eb
  cases va <;> first | cases eb | skip
  · exact .inl ⟨_, rfl, fin⟩
  · exact .inl ⟨_, rfl, fin⟩
  · exact .inl ⟨_, rfl, fin⟩
  · rename_i hr re
    exact .inl ⟨_, .inl ⟨_, .inl hr, rfl⟩, by rw [← isE re.length]; exact fin⟩
  · rename_i hr re
    exact .inl ⟨_, .inr (.inl ⟨_, .inl hr, rfl⟩), by rw [← isE re.length]; exact fin⟩
  · rename_i hr ee re
    exact .inr ⟨_, _, rfl, hr, by rw [← isE2 ee]; exact fin⟩
abbrev dTr (r : DV → MM → (Bool → MM → Prop) → Prop) (te : DTE) : DTT := fun s M Q => te s M fun x M1 => r x M1 Q
theorem dt_truth {r : DV → MM → (Bool → MM → Prop) → Prop} (ha : DE X e te) (hr : TruR X (lowTr r)) (he : ∀ whole, isTrue e X.env whole = (do let v ← whole; standAt e.pos; holding [v] (truthy v)) := by intro _; rfl) : DT X e (dTr r te) :=
  ⟨pt_imp (L2.pt_truthR ha.pe hr he) fun σ H Q h => by
    obtain ⟨G, M, s, R, rp, sl, q, c⟩ := h
    exact ⟨G, M, s, _, rp, sl, q, fun x M1 G1 H1 v s1 a1 q1 => ⟨G1, M1, x, R, s1.rep, a1, q1, fun b M2 G2 H2 s2 q2 => c b M2 G2 H2 (s1.trans s2) q2⟩⟩⟩
/-- bool(d) -/
theorem bool_dict {prog : Program} {w : World} {d : Addr} {K : Type} [DecidableEq K] {knd : KeyKind prog w K} {kvs : List (K × Value)} (hd : (d == sysModules) = false) (hfit : (kvs.length : Int) < 2 ^ 63) {A : Around} {E : Value → Shared → Prop} {s : Shared} {Q : Value → Shared → Prop}
    (hm : s.heap.DictOf knd d kvs) (h : Q (.bool (!kvs.isEmpty)) { s with toks := s.toks + 1 + 1 }) : wpAny (model prog w) A (call (.type "bool") [.ref d]) Q E s := by
  have ft := F.called_bool
  obtain ⟨c, tl, hmro⟩ := ft.mro
  have hmade := ft.made
  have hsub := ft.sub
  refine wpAny_call (codeAny_of_tree ?_)
  show wpAny _ _ (callAny (.type "bool") _) _ _ _
  refine wpAny_pure ⟨Code.quiet_builtin _ (by decide +kernel), codeAny_builtin F.entry_type_call ?_⟩
  rw [Around.under_plain (weight_type_call_type "bool" [.ref d] []) (units_type_call_type "bool" [.ref d] [])]
  have h1 := ft.notType
  have h2 := ft.canCreate
  have hct := F.typeCall_bool_1 (.ref d)
  repeat (any_goals (first | assumption | wp_step))
  refine codeAny_mono (codeAny_call_builtin (R := wants (fun r s₂ => r = .bool (!kvs.isEmpty) ∧ s₂ = { s with toks := s.toks + 1 + 1 }) E) ft.plain F.entry_bool_new (wpAny_of_eq (F.newCall_bool_1 (.ref d)) ?_)) fun r s₁ hr => ?_
  · have f1 := F.conv_sub_bool
    repeat (any_goals (first | assumption | (with_reducible refine wpAny_truthy_dict hd hm hfit ?_) | wp_step))
    all_goals first | exact ⟨rfl, rfl⟩ | exact ⟨_, rfl, rfl, rfl⟩ | skip
  · cases r with
    | error e => exact hr
    | ok fl =>
      cases fl <;> try exact hr.elim
      obtain ⟨rfl, rfl⟩ := hr
      have hT : Shared.TypeIs { s with toks := s.toks + 1 + 1 } (.bool (!kvs.isEmpty)) "bool" := by first | rfl | trivial | exact typeIs_bool _ _
      have hli := ft.init.lookup
      have hbi := ft.init.bind (.bool (!kvs.isEmpty))
      repeat (any_goals (first | assumption | wp_step))
      refine codeAny_mono (codeAny_call_builtin ft.init.plain F.entry_object_init (ft.init.check _ _ _ _ _ _ _ _ hT (F.args_object_init_2 _ (.ref d)) ((object_init_meets ft.init.lookup ft.made F.newNe_bool) prog w A.in1 (wants (fun r s₂ => r = .none ∧ Q (.bool (!kvs.isEmpty)) s₂) E) _ ⟨hT, rfl, h⟩))) fun r₂ s₂ hr₂ => ?_
      cases r₂ with
      | error e => exact hr₂
      | ok fl₂ =>
        cases fl₂ <;> try exact hr₂.elim
        obtain ⟨rfl, hq⟩ := hr₂
        repeat (any_goals (first | assumption | wp_step))
end
end D

set_option Elab.async false
set_option linter.all false
set_option maxRecDepth 100000
set_option maxHeartbeats 1000000
/-! D12: bool(d), isinstance, own dunders, class methods, a local class called, keyword calls, d.get. -/
namespace D
open PySem PySem.Spec PyProof.Rows L2
section
variable {X : Cx} {pos pos2 p apos cpos : Pos} {a b e o i f : Expr} {es : List Expr} {ta tb te to td ty tx : DTE} {t : DTA}
theorem call_boolD : CallR X (.type "bool") (fun xs H Q => ∃ a kvs, xs = [.ref a] ∧ Rd H a (.dK kvs) ∧ Q (.bl (!kvs.isEmpty)) H) := fun pins s σ H xs us Q I r h => by
  obtain ⟨a, kvs, rfl, hd, q⟩ := h
  rw [Vals.ref1 r]
  obtain ⟨hz, hS, vs, r, m⟩ := (show ObjOk X.prog X.w H s.heap a (.dK kvs) from hd.ok I.hok)
  have hlen : kvs.length = vs.length := Paired.length r
  have hl := line63
  exact bool_dict hS (by omega) m ⟨.bl _, H, I.tok _, by rw [isEmpty_kv r] <;> rfl, q⟩
abbrev rBoolD : DR := fun xs M Q => match xs with
  | [x] => match view M x with
    | .dK l => Q (.bl (!l.isEmpty)) M
    | _ => False
  | _ => False
theorem cd_boolD : CallR X (.type "bool") (lowC rBoolD) := D.CallR.imp call_boolD fun vs H Q h => by
  obtain ⟨G, M, ds, R, rp, al, q, c⟩ := h
  rcases ds with _ | ⟨d, _ | ⟨_, _⟩⟩ <;> first | exact q.elim | skip
  obtain ⟨v, rfl, ax⟩ := al.one
  have va := view_at rp ax
  unfold rBoolD at q
  dsimp only at q
  generalize view M d = y' at va q
  cases va <;> first | exact q.elim | skip
  rename_i hr ee re
  exact ⟨_, _, rfl, hr, by rw [← isE2 ee]; exact c _ M G H _ (Stp.refl rp) (.bl _) q⟩

/-! ### isinstance -/
/-- what isinstance asks of an own class -/
structure OwnIs (K : PySem.W.Frag) (C : Addr) : Prop where
  cl : Cls K C
  ha : PySem.W.findIn K (.ref C) "__class__" = some (some (.builtin "object.__class__"))
  hn : PySem.W.specialIn K (.builtin "object.__class__") "__get__" = some (some (.builtin "getset_descriptor.__get__"))
  ht : PySem.W.takesIn K (.builtin "object.__class__") = some true
  hm : PySem.W.mroIn K C (.type "object") = some true
def tyD (M : MM) (d : DV) : Option Value := match view M d with
  | .non => some (.type "NoneType")
  | .bl _ => some (.type "bool")
  | .int _ => some (.type "int")
  | .str _ => some (.type "str")
  | .lst _ => some (.type "list")
  | .tup _ => some (.type "tuple")
  | .dK _ => some (.type "dict")
  | .obj C _ => some (.ref C)
  | _ => none
def clsD : DV → Option Value
  | .ty n => some (.type n)
  | .adr C => some (.ref C)
  | _ => none
abbrev rIsiD (K : PySem.W.Frag) : DR := fun xs M Q => match xs with
  | [x, c] => ∃ t u b, clsD c = some u ∧ tyD M x = some t ∧ (∀ C, t = .ref C → OwnIs K C) ∧ PySem.W.kitOne K t u = some b ∧ Q (.bl b) M
  | _ => False
theorem tyx {G : Hp} {M : MM} {H : Hp} {d : DV} {v : V} {t : Value} {K : PySem.W.Frag} (own : ∀ C, t = .ref C → OwnIs K C) (rp : Rep G M H) (ad : At G d v) (h : tyD M d = some t) : TyX K H v t := by
  have va := view_at rp ad
  unfold tyD at h
  generalize view M d = y at va h
  cases va <;> first | cases h | skip
  · exact .base .non
  · exact .base (.bl _)
  · exact .base (.int _)
  · exact .base (.str _)
  · rename_i hr re
    rcases hr with hr | ⟨o, hr⟩
    · exact .base (.lst hr)
    · exact .base (.frz hr)
  · rename_i hr re
    rcases hr with hr | ⟨o, hr⟩
    · exact .base (.tup hr)
    · exact .fTuple hr
  · rename_i hr ee re
    rcases hr with hr | ⟨o, hr⟩
    · exact .base (.dK hr)
    · exact .fDict hr
  · rename_i hr ee re
    have w := own _ rfl
    exact .base (.ins hr w.cl w.ha w.hn w.ht w.hm)
theorem cd_isi : CallR X (.builtin "isinstance") (lowC (rIsiD X.K)) := D.CallR.imp call_isi fun vs H Q h => by
  obtain ⟨G, M, ds, R, rp, al, q, c⟩ := h
  rcases ds with _ | ⟨d, _ | ⟨d2, _ | ⟨_, _⟩⟩⟩ <;> first | exact q.elim | skip
  obtain ⟨v, u, rfl, ax, ay⟩ := al.two
  obtain ⟨t, u', b, ec, et, eo, ek, q⟩ := q
  have cv : ClsV u u' := by
    cases ay <;> first | cases ec | skip
    · exact .ty _
    · exact .own _
  exact ⟨v, u, t, u', b, rfl, cv, tyx eo rp ax et, ek, c _ M G H _ (Stp.refl rp) (.bl _) q⟩

/-! ### own dunders: of a frozen object of the class at C -/
structure OwnM (K : PySem.W.Frag) (C : Addr) (name : Str) (g : Addr) : Prop where
  hs : PySem.W.findIn K (.ref C) name = some (some (.ref g))
  hf : PySem.W.isFn K (.ref g) = true
abbrev FnD (X : Cx) (k : Nat) (g : Addr) (sp : DSp) : Prop := FnR X.prog X.w X.K X.mg X.base CX0 k g (liftSp sp)
theorem fnd {P : Program} {w : World} {K : PySem.W.Frag} {mg : Str → Option Value} {base : Heap} {k : Nat} {g : Addr} {fd : FuncData} {ps : List Str} {sp : DSp} (F : FnOk P w K mg base CX0 k g fd ps (liftSp sp)) (hb : Binds K fd ps []) : FnR P w K mg base CX0 k g (liftSp sp) :=
  (F.raw hb .nil).imp fun vs H Q E h => by rw [List.append_nil]; exact h
variable {pins : List (Addr × Obj)} {σ : L2.St} {H : Hp} {s : Shared} {C g : Addr} {k : Nat} {sp : DSp} {names : List Str}
theorem obj_inst {a dx : Addr} {fs : List (Str × V)} (I : Inv X pins σ H s) (h : H a = some (.ins C dx fs)) : ∃ ox od, PySem.W.InstAt s.heap a ox C od := by
  obtain ⟨mA, O, _⟩ := ins_get I.hok h
  obtain ⟨od, J, _⟩ := O.look
  exact ⟨_, _, J⟩
theorem obj_at {G : Hp} {M : MM} {d : DV} {v : V} {q : List (Str × DV) → Prop} (rp : Rep G M H) (ad : At G d v) (h : dRecv C names d q) : ∃ a dx fs, v = .ref a ∧ H a = some (.ins C dx fs) := by
  obtain ⟨fs, rfl, en, q2⟩ := h.at
  cases ad with
  | obj h e2 r2 => exact ⟨_, _, _, rfl, rp.ge.hd _ _ rfl h⟩
/-- the def is called with the object, and with more -/
theorem run_own {A : Around} {G : Hp} {M : MM} {ds : List DV} {vs : List V} {us : List Value} {R : DK} {Q : VK} (F : FnD X k g sp) (hr : Room k A) (e0 : Env0 X.prog X.w X.K X.mg X.base A X.stack s H) (I : Inv X pins σ H s) (rp : Rep G M H) (al : AtL G ds vs) (rv : Vals vs us) (q : sp ds M R X0) (c : CD R Q G M H) :
    wpAny (model X.prog X.w) A (call (.ref g) us) (EP X pins σ Q) X.xe s :=
  wpAny_call (SlX.run_at F hr e0 pass0 I rv ⟨G, M, ds, R, X0, rp, al, q, c, dx0⟩)
abbrev rTruO (C : Addr) (names : List Str) (sp : DSp) : DV → MM → (Bool → MM → Prop) → Prop := fun d M Q => dRecv C names d fun _ => sp [d] M (fun z M2 => match z with
  | .bl b => Q b M2
  | _ => False) X0
theorem td_own (m : OwnM X.K C "__bool__" g) (F : FnD X k g sp) (hr : Room k X.A) : TruR X (lowTr (rTruO C names sp)) := fun pins s σ H x v Q I rx h => by
  obtain ⟨G, M, d, R, rp, ad, q, c⟩ := h
  obtain ⟨a, dx, fs, rfl, ha⟩ := obj_at rp ad q
  obtain ⟨ox, od, J⟩ := obj_inst I ha
  obtain ⟨_, _, _, q2⟩ := q.at
  cases rx
  obtain ⟨mm, hF⟩ := I.fr
  refine PySem.W.truthy_K hF I.ok.mod.kin J m.hs m.hf ?_
  refine wpAny_mono (run_own (Q := fun z H' => ∃ b, z = .bl b ∧ Q b H') F hr I.env0 I rp (.cons ad .nil) (.cons rfl .nil) q2 fun z M' G' H' w st aw qz => ?_) (fun u s' z => ?_) fun _ _ y => y
  · cases aw <;> first | exact qz.elim | exact ⟨_, rfl, c _ M' G' H' st qz⟩
  · obtain ⟨z', H', I', rz, b, rfl, qz⟩ := z
    cases rz
    exact ⟨H', I', qz⟩
/-- len(x) -/
abbrev rLenO (C : Addr) (names : List Str) (sp : DSp) : DR := fun xs M Q => match xs with
  | [d] => dRecv C names d fun _ => sp [d] M (fun z M2 => match z with
    | .int n => (0 ≤ n ∧ n < 2 ^ 63) ∧ Q (.int n) M2
    | _ => False) X0
  | _ => False
theorem cd_lenO (m : OwnM X.K C "__len__" g) (F : FnD X k g sp) (hr : Room (k + 1) X.A) : CallR X (.builtin "len") (lowC (rLenO C names sp)) := fun pins s σ H xs us Q I rx h => by
  obtain ⟨G, M, ds, R, rp, al, q, c⟩ := h
  rcases ds with _ | ⟨d, _ | ⟨_, _⟩⟩ <;> first | exact q.elim | skip
  obtain ⟨v, rfl, ad⟩ := al.one
  obtain ⟨a, dx, fs, rfl, ha⟩ := obj_at rp ad q
  obtain ⟨ox, od, J⟩ := obj_inst I ha
  obtain ⟨_, _, _, q2⟩ := q.at
  rw [Vals.ref1 rx]
  obtain ⟨mm, hF⟩ := I.fr
  refine PySem.W.len_K hF I.ok.mod.kin J m.hs m.hf ?_
  refine wpAny_mono (run_own (Q := fun z H' => ∃ n, z = .int n ∧ (0 ≤ n ∧ n < 2 ^ 63) ∧ Q (.int n) H') F hr.in1 I.env0.in1 I rp (.cons ad .nil) (.cons rfl .nil) q2 fun z M' G' H' w st aw qz => ?_) (fun u s' z => ?_) fun _ _ y => y
  · cases aw <;> first | exact qz.elim | exact ⟨_, rfl, qz.1, c _ M' G' H' _ st (.int _) qz.2⟩
  · obtain ⟨z', H', I', rz, n, rfl, hn, qz⟩ := z
    obtain ⟨tk, rfl⟩ := rz
    exact ⟨hn, .int n, H', I'.tok _, ⟨_, rfl⟩, qz⟩
/-- x op y of two objects of that class -/
abbrev rOwn2 (C : Addr) (names : List Str) (sp : DSp) : DR2 := fun x y M Q => dRecv C names x fun _ => dRecv C names y fun _ => sp [x, y] M Q X0
theorem own_back {P : Value → Shared → Prop} {z : V} {v : Value} {s' : Shared} (r : RelV z v) (h : P v s') : PySem.W.CmpBack P v s' := SlX.cmpback r h
theorem od_cmpO {op : CmpOp} (hop : ∀ a b, compareOp op a b = richCompare op a b) (m : OwnM X.K C (cmpInfo op).2.1 g) (hn : PySem.W.notFirst X.K C (.ref C) = true) (F : FnD X k g sp) (hr : Room k X.A) : OpR X (compareOp op) (low2 (rOwn2 C names sp)) := fun pins s σ H x y v u Q I rx ry h => by
  obtain ⟨G, M, d, e, R, rp, ad, ae, q, c⟩ := h
  obtain ⟨a, dx, fs, rfl, ha⟩ := obj_at rp ad q
  obtain ⟨_, _, _, q2⟩ := q.at
  obtain ⟨b, dy, gs, rfl, hb⟩ := obj_at rp ae q2
  obtain ⟨_, _, _, q3⟩ := q2.at
  obtain ⟨ox, od, J⟩ := obj_inst I ha
  obtain ⟨oy, oe, J'⟩ := obj_inst I hb
  cases rx
  cases ry
  obtain ⟨mm, hF⟩ := I.fr
  rw [hop]
  refine PySem.W.cmp_K (op := op) (tb := .ref C) hr.units0 hF I.ok.mod.kin J J'.type hn m.hs m.hf ?_
  refine wpAny_mono (run_own F hr I.env0 I rp (.cons ad (.cons ae .nil)) (.cons rfl (.cons rfl .nil)) q3 c) (fun w s' z => ?_) fun _ _ y => y
  obtain ⟨z', H', I', rz, qz⟩ := z
  exact own_back rz ⟨z', H', I', rz, qz⟩
theorem od_binO {op : Operator} (m : OwnM X.K C (PySem.dunder op.info.2) g) (hc : PySem.W.selfFirst X.K C = true) (F : FnD X k g sp) (hr : Room k X.A) : OpR X (binaryOp op) (low2 (rOwn2 C names sp)) := fun pins s σ H x y v u Q I rx ry h => by
  obtain ⟨G, M, d, e, R, rp, ad, ae, q, c⟩ := h
  obtain ⟨a, dx, fs, rfl, ha⟩ := obj_at rp ad q
  obtain ⟨_, _, _, q2⟩ := q.at
  obtain ⟨b, dy, gs, rfl, hb⟩ := obj_at rp ae q2
  obtain ⟨_, _, _, q3⟩ := q2.at
  obtain ⟨ox, od, J⟩ := obj_inst I ha
  obtain ⟨oy, oe, J'⟩ := obj_inst I hb
  cases rx
  cases ry
  obtain ⟨mm, hF⟩ := I.fr
  refine PySem.W.binop_K (op := op) hF I.ok.mod.kin J J'.type hc m.hs m.hf ?_
  refine wpAny_mono (run_own F hr I.env0 I rp (.cons ad (.cons ae .nil)) (.cons rfl (.cons rfl .nil)) q3 c) (fun w s' z => ?_) fun _ _ y => y
  obtain ⟨z', H', I', rz, qz⟩ := z
  exact own_back rz ⟨z', H', I', rz, qz⟩
end
end D

set_option Elab.async false
set_option linter.all false
set_option maxRecDepth 100000
set_option maxHeartbeats 1000000
/-! D13: class methods, a local class called, keyword calls, d.get, own __getitem__, __neg__. -/
namespace D
open PySem PySem.Spec PyProof.Rows L2
section
variable {X : Cx} {pos pos2 p apos cpos : Pos} {x m : Str} {a b e o f : Expr} {es : List Expr} {ta tb te to td ty tx : DTE} {t : DTA}
variable {pins : List (Addr × Obj)} {σ : L2.St} {H : Hp} {s : Shared} {C g q : Addr} {i k : Nat} {sp : DSp} {names : List Str} {mc : Value} {pl : Sem Bool}
/-! ### d.get(k, x) -/
abbrev dDGet (td ty tx : DTE) : DTE := fun s M Q => td s M fun x M1 => (∃ ks, view M1 x = .dK ks) ∧ ty s M1 fun y M2 => tx s M2 fun z M3 => ∃ ks k, view M3 x = .dK ks ∧ keyOf y = some k ∧ (match valD ks k with
    | some d => Q d M3
    | none => Q z M3)
theorem de_dDget (hu : X.A.units + 64 < cLine) (ho : DE X o td) (he : DE X e ty) (hf : DE X f tx) (m : M2 X o "get" apos e f cpos) : DE X (.Call (.Attribute o "get" apos) [e, f] [] cpos) (dDGet td ty tx) := ⟨pe_imp (pe_dget2 (by omega) ho.pe he.pe hf.pe m) fun σ H Q h => by
  obtain ⟨G, M, s, R, rp, sl, q, c⟩ := h
  refine ⟨G, M, s, _, rp, sl, q, fun x M1 G1 H1 v s1 a1 q1 => ?_⟩
  obtain ⟨⟨ks0, e0⟩, q1⟩ := q1
  have va := view_at s1.rep a1
  rw [e0] at va
  cases va
  rename_i kvs0 hr0 re0 ee0
  refine ⟨_, rfl, .inl ⟨_, hr0⟩, G1, M1, s, _, s1.rep, smono s1.ge sl, q1, fun y M2 G2 H2 w s2 a2 q2 => ⟨G2, M2, s, _, s2.rep, smono (s1.trans s2).ge sl, q2, fun z M3 G3 H3 u s3 a3 q3 => ?_⟩⟩
  obtain ⟨ks, k, ev, ek, q3⟩ := q3
  have va := view_at s3.rep (a1.mono (s2.ge.trans s3.ge))
  rw [ev] at va
  cases va
  rename_i kvs ee re hr
  have ew := keyOf_at a2 ek
  subst ew
  have st := s1.trans (s2.trans s3)
  refine ⟨_, .inl ⟨kvs, k, hr, rfl, rfl⟩, ?_⟩
  cases el : valD ks k with
  | none =>
    rw [el] at q3
    rw [(kv_none k ee).mp el]
    exact c z M3 G3 H3 u st a3 q3
  | some d =>
    rw [el] at q3
    obtain ⟨r, er, ar⟩ := kv_val k ee re el
    rw [er]
    exact c d M3 G3 H3 r st ar q3⟩

/-! ### cls(..): a class in a slot -/
theorem pe_makeL (M : Mk X.K C g) (F : FnR X.prog X.w X.K X.mg X.base CX0 k g (liftSp sp)) (hr : Room (k + 1) X.A) (hN : X.N[i]? = some x) (hv : Vis X.env.scope x) {t' : TA} (ha : PA X (e :: es) t') (hdb : (x == ("__debug__" : Str)) = false := by decide) (hcd : (x == ("__classdict__" : Str)) = false := by decide)
    (he : starEach (e :: es) X.env = (false, eval e X.env) :: starEach es X.env := by rfl) (hpl : (backTo pos (starEach es X.env)).any (·.1) = false := by rfl) :
    PE X (.Call (.Name x p) (e :: es) [] pos) (fun σ H Q => σ[i]? = some (some (.ref C)) ∧ StX.tMakeR C (liftSp sp) E0 t' σ H Q) := by
  refine ⟨fun pins s σ H Q I h => ?_⟩
  obtain ⟨hs, ht⟩ := h
  refine wpAny_Call_Name_kw (thn ((pe_var (pos := p) hN hv hdb hcd).run pins s σ H (fun v H1 => v = .ref C ∧ H1 = H) I ⟨.ref C, hs, rfl, rfl⟩) fun u s1 ⟨v, H1, I1, r1, q1⟩ => ?_)
  obtain ⟨rfl, rfl⟩ := q1
  cases r1
  refine PySem.W.callWith_K (h₀ := X.base) I.ok.mod.kin M.kp (thn (ha.run pos pins s1 σ _ _ I1 ht) fun us s2 ⟨vs, H2, I2, r, q⟩ => ⟨I2.kIn, ?_⟩) he hpl
  exact StX.run_makeR M F hr pass0 I2 r q
abbrev dMakeL (i : Nat) (C : Addr) (mk : DSp) (t : DTA) : DTE := fun s M Q => nth s i = some (.adr C) ∧ dCall mk t s M Q
theorem de_makeL (i : Nat) {mk : DSp} (hmk : Makes C sp mk) (Mk' : Mk X.K C g) (F : FnR X.prog X.w X.K X.mg X.base CX0 k g (liftSp sp)) (hr : Room (k + 1) X.A) (ha : DA X (e :: es) t) (hN : X.N[i]? = some x := by rfl) (hv : Vis X.env.scope x := by first | exact Or.inl rfl | exact Or.inr (Or.inl rfl) | exact Or.inr (Or.inr rfl))
    (hdb : (x == ("__debug__" : Str)) = false := by decide) (hcd : (x == ("__classdict__" : Str)) = false := by decide)
    (he : starEach (e :: es) X.env = (false, eval e X.env) :: starEach es X.env := by rfl) (hpl : (backTo pos (starEach es X.env)).any (·.1) = false := by rfl) : DE X (.Call (.Name x p) (e :: es) [] pos) (dMakeL i C mk t) :=
  ⟨pe_imp (pe_makeL Mk' F hr hN hv ha.pa hdb hcd he hpl) fun σ H Q h => by
    obtain ⟨G, M, s, R, rp, sl, ⟨hn, q⟩, c⟩ := h
    obtain ⟨v, ev, av⟩ := slots_nth sl hn
    cases av
    exact ⟨ev, low_made hmk ⟨G, M, s, R, rp, sl, q, c⟩⟩⟩

/-! ### C.m(..), m a classmethod -/
abbrev dCM (C : Addr) (sp : DSp) (te : DTE) (t : DTA) : DTE := fun s M Q => te s M fun x M1 => x = .adr C ∧ t s M1 fun ds M2 => sp (x :: ds) M2 Q X0
theorem de_cm (he : DE X o te) (r : ClX.CRead X.K C mc) (c : ClX.CMet X.K C mc m q g) (F : FnD X k g sp) (hr : Room k X.A) (ha : DA X (e :: es) t)
    (hst : starEach (e :: es) X.env = (false, eval e X.env) :: starEach es X.env := by rfl) (hpl : (backTo pos (starEach es X.env)).any (·.1) = false := by rfl)
    (ht : eval (.Call (.Attribute o m apos) (e :: es) [] pos) X.env = (do
      let ov ← eval o X.env
      standAt apos.atName
      let (f, first) ← holding [ov] (getMethod ov m pl)
      callWith pos f first (backTo pos (starEach (e :: es) X.env)) (backToKw pos (keywordEach [] X.env))) := by rfl) :
    DE X (.Call (.Attribute o m apos) (e :: es) [] pos) (dCM C sp te t) := ⟨pe_imp (ClX.pe_cmeth he.pe r c F hr pass0 ha.pa hst hpl ht) fun σ H Q h => by
  obtain ⟨G, M, s, R, rp, sl, q, c⟩ := h
  refine ⟨G, M, s, _, rp, sl, q, fun x M1 G1 H1 v p1 a1 q1 => ?_⟩
  obtain ⟨rfl, q1⟩ := q1
  cases id a1
  exact ⟨rfl, G1, M1, s, _, p1.rep, smono p1.ge sl, q1, fun ds M2 G2 H2 vs p2 a2 q2 => ⟨G2, M2, _, R, X0, p2.rep, .cons (a1.mono p2.ge) a2, q2, fun d M3 G3 H3 w p3 => c d M3 G3 H3 w (p1.trans (p2.trans p3)), dx0⟩⟩⟩

/-! ### f(k = v, ..) -/
theorem pe_callN0 {fd : FuncData} {ps ks : List Str} {sp : Sp} {fa : Addr} {kws : List Keyword} {tk : TA} {gl : List Value → List Value → List Value} {gV : List V → List V → List V} (F : FnOk X.prog X.w X.K X.mg X.base CX0 k fa fd ps sp) (hr : Room k X.A) (hg : Gl X x) (hm : X.mg x = some (.ref fa)) (hk : PySem.W.keepIn X.K (.ref fa) = true) (hb : KBn X.K fd ps 0 ks gl gV)
    (hkw : PK X kws tk) (hall : (backToKw pos (keywordEach kws X.env)).all (·.1.isSome) = true := by rfl) (hks : (backToKw pos (keywordEach kws X.env)).filterMap (·.1) = ks := by rfl)
    (hdb : (x == ("__debug__" : Str)) = false := by decide)
    (hpl : ((backTo pos (starEach [] X.env)).any (·.1) || (backToKw pos (keywordEach kws X.env)).any (·.1.isNone)) = false := by rfl) :
    PE X (.Call (.Name x p) [] kws pos) (fun σ H Q => tk σ H fun zs H2 => zs.length = ks.length ∧ sp (gV [] zs) H2 Q E0) := by
  refine ⟨fun pins s σ H Q I h => ?_⟩
  refine wpAny_Call_Name_kw (ld_glob I hg hm ?_ hdb)
  refine PySem.W.callWith_KW0 (h₀ := X.base) I.ok.mod.kin hk hall ?_ hpl
  refine thn (hkw.run pos pins s σ H _ I h) fun ws s2 ⟨zs, H2, I2, rz, l2, q2⟩ => ⟨I2.kIn, ?_⟩
  rw [hks]
  exact run_fnN (us := []) (vs := []) F hr hb pass0 I2 .nil rz rfl l2 q2
structure DKw (X : Cx) (kws : List Keyword) (t : DTA) : Prop where
  pk : PK X kws (lowA t)
theorem pk_imp {kws : List Keyword} {t t' : TA} (h : PK X kws t) (i : ∀ σ H Q, t' σ H Q → t σ H Q) : PK X kws t' := ⟨fun po p s σ H Q I q => h.run po p s σ H Q I (i σ H Q q)⟩
theorem dk_nil : DKw X [] dNil := ⟨pk_imp pk_nil fun σ H Q ⟨G, M, s, R, r, _, q, c⟩ => c [] M G H [] (Stp.refl r) .nil q⟩
theorem dk_cons {nm : Option Str} {kws : List Keyword} {kpos : Pos} (ha : DE X e te) (hr : DKw X kws t) : DKw X (⟨nm, e, kpos⟩ :: kws) (dCons te t) := ⟨pk_imp (pk_cons ha.pe hr.pk) fun σ H Q h => by
  obtain ⟨G, M, s, R, rp, sl, q, c⟩ := h
  exact ⟨G, M, s, _, rp, sl, q, fun x M1 G1 H1 v p1 a1 q1 => ⟨G1, M1, s, _, p1.rep, smono p1.ge sl, q1, fun xs M2 G2 H2 vs p2 a2 q2 => c (x :: xs) M2 G2 H2 _ (p1.trans p2) (.cons (a1.mono p2.ge) a2) q2⟩⟩⟩
/-- perm: where each parameter's value stands among the keywords -/
def permV {α : Type} (perm : List Nat) (zs : List α) : List α := perm.filterMap fun j => zs[j]?
theorem perm_at {G : Hp} {ds : List DV} {vs : List V} (h : AtL G ds vs) : ∀ perm : List Nat, AtL G (permV perm ds) (permV perm vs)
  | [] => .nil
  | j :: r => by
    unfold permV
    rw [List.filterMap_cons, List.filterMap_cons]
    have ih := perm_at h r
    cases e : ds[j]? with
    | none =>
      have hl : ds.length ≤ j := by rw [List.getElem?_eq_none_iff] at e; exact e
      have e2 : vs[j]? = none := by rw [List.getElem?_eq_none_iff, ← h.length]; exact hl
      rw [e2]; exact ih
    | some d =>
      obtain ⟨v, ev, av⟩ := h.get e
      rw [ev]; exact .cons av ih
abbrev dCallK (perm : List Nat) (n : Nat) (sp : DSp) (t : DTA) : DTE := fun s M Q => t s M fun zs M1 => zs.length = n ∧ sp (permV perm zs) M1 Q X0
theorem de_callN0 {fd : FuncData} {ps ks : List Str} {fa : Addr} {kws : List Keyword} {tk : DTA} (perm : List Nat) (F : FnOk X.prog X.w X.K X.mg X.base CX0 k fa fd ps (liftSp sp)) (hr : Room k X.A) (hg : Gl X x) (hm : X.mg x = some (.ref fa)) (hk : PySem.W.keepIn X.K (.ref fa) = true) (hb : KBn X.K fd ps 0 ks (fun _ ws => permV perm ws) (fun _ zs => permV perm zs))
    (hkw : DKw X kws tk) (hall : (backToKw pos (keywordEach kws X.env)).all (·.1.isSome) = true := by rfl) (hks : (backToKw pos (keywordEach kws X.env)).filterMap (·.1) = ks := by rfl)
    (hdb : (x == ("__debug__" : Str)) = false := by decide)
    (hpl : ((backTo pos (starEach [] X.env)).any (·.1) || (backToKw pos (keywordEach kws X.env)).any (·.1.isNone)) = false := by rfl) :
    DE X (.Call (.Name x p) [] kws pos) (dCallK perm ks.length sp tk) := ⟨pe_imp (pe_callN0 F hr hg hm hk hb hkw.pk hall hks hdb hpl) fun σ H Q h => by
  obtain ⟨G, M, s, R, rp, sl, q, c⟩ := h
  exact ⟨G, M, s, _, rp, sl, q, fun zs M1 G1 H1 vs p1 a1 q1 => ⟨by rw [← a1.length]; exact q1.1, G1, M1, _, R, X0, p1.rep, perm_at a1 perm, q1.2, fun d M3 G3 H3 w p3 => c d M3 G3 H3 w (p1.trans p3), dx0⟩⟩⟩
end
end D

set_option Elab.async false
set_option linter.all false
set_option maxRecDepth 100000
set_option maxHeartbeats 1000000
/-! D14: defs that call repr: nothing is being shown around them (guards); repr of deep values; the end. -/
namespace D
open PySem PySem.Spec PyProof.Rows L2
/-- as FnOk, where nothing is being shown -/
structure FnG (P : Program) (w : World) (K : PySem.W.Frag) (mg : Str → Option Value) (base : Heap) (k : Nat) (f : Addr) (fd : FuncData) (ps : List Str) (sp : Sp) : Prop where
  len : ∀ vs H Q E, sp vs H Q E → vs.length = ps.length
  run : ∀ (A : Around) (outer : List Env) (s : Shared) (H : Hp) (args : Args) (us : List Value) (vs : List V) (Q : VK) (E : XK), A.guards = some [] → (∃ o, base.get? sysModules = some o) → Room k A → Env0 P w K mg base A outer s H → BindsTo s fd args (ps.zip us) → Vals vs us → sp vs H Q E →
    codeAny (model P w) A (.call (.ref f) args) (CR CX0 outer P w H s Q E) s
section
variable {P : Program} {w : World} {K : PySem.W.Frag} {mg : Str → Option Value} {base : Heap}
theorem ok_rawG {x qual : Str} {st : Stmt} {f : Addr} {fd : FuncData} {N ps : List Str} {k : Nat} {sp : Sp} (F : Fun K x qual st f fd) (S : FnScope N ps (defScope st)) (len : ∀ vs H Q E, sp vs H Q E → vs.length = ps.length)
    (hbody : ∀ (cdv : Value) (A : Around) (outer : List Env) (s : Shared) (H : Hp) (vs : List V) (Q : VK) (E : XK), A.guards = some [] → (∃ o, base.get? sysModules = some o) → Room k (A.deeper (envOfC qual (defScope st) s.heap.objs.size f cdv)) → sp vs H Q E →
      ∃ t, PSs (cxOf CX0 P w K mg base N qual (defScope st) f cdv A outer s H E).nox (defBody st) t ∧ t { nx := fun _ H' => Q .non H', rt := Q } (start N vs) H) : FnG P w K mg base (k + 1) f fd ps sp := by
  obtain ⟨oc, od, kV, doc, pm, an, cdv, ct, osl, rfl, lk, hcd⟩ := F.ex
  refine ⟨len, fun A outer s H args us vs Q E hg hsm hr e0 hb r hsp => ?_⟩
  have kp : ∀ b o, base.get? b = some o → s.heap.get? b = some o := fun b o e => (e0.bs b o e).1
  have hkind : ∀ y ∈ ps.zip us, (defScope st).names.lookup y.1 = some .local ∨ ((defScope st).names.lookup y.1 = some .cell ∧ ((cellsFrom (s.heap.objs.size + 1) (defScope st).names []).lookup y.1).isSome = true) := fun y hy =>
    (S.par y.1 (List.of_mem_zip hy).1).imp id fun q => ⟨q, PySem.W.cellsFrom_some _ _ _ (.inl q)⟩
  refine codeAny_call_function hr.depth (e0.mod.kin.keeps kp _ _ lk) rfl S.co S.gen rfl (PySem.W.codeRec_of (e0.mod.kin.keeps kp) hcd) (hb _ _ _ _ (wpAny_newFunctionEnv_cells S.kind hkind fun env he s1 x => ?_))
  subst he
  refine ⟨(e0.mod.nolimit.keeps kp).keeps x.toInCall.keep, codeAny_func ?_⟩
  obtain ⟨t, ht, hq⟩ := hbody cdv A outer s H vs Q E hg hsm (hr.deeper _) hsp
  refine wpAny_mono (ht.nox.run [] s1 (start N vs) H _ (inv_start S hr.hd e0 (len _ _ _ _ hsp) r x) hq) (fun fl s' hs => ?_) fun e s' hs => hs
  cases fl with
  | ret u =>
    obtain ⟨v, σ', H', J, rv, q⟩ := hs
    exact ⟨v, H', J.os, J.bare, J.base, J.hok, rv, q⟩
  | next =>
    obtain ⟨σ', H', J, q⟩ := hs
    exact ⟨V.non, H', J.os, J.bare, J.base, J.hok, rfl, q⟩
  | brk => obtain ⟨_, _, _, q⟩ := hs; exact False.elim q
  | cont => obtain ⟨_, _, _, q⟩ := hs; exact False.elim q
theorem ok_defG {x qual : Str} {st : Stmt} {f : Addr} {fd : FuncData} {N ps : List Str} {k : Nat} {sp : DSp} (F : Fun K x qual st f fd) (S : FnScope N ps (defScope st)) (len : ∀ ds M R E, sp ds M R E → ds.length = ps.length)
    (hbody : ∀ (cdv : Value) (A : Around) (outer : List Env) (s : Shared) (H : Hp) (E : XK), A.guards = some [] → (∃ o, base.get? sysModules = some o) → Room k (A.deeper (envOfC qual (defScope st) s.heap.objs.size f cdv)) →
      ∃ t, DSs (cxOf CX0 P w K mg base N qual (defScope st) f cdv A outer s H E).nox (defBody st) t ∧ ∀ ds M R F, sp ds M R F → t { nx := fun _ M' => Rt R .non M', rt := Rt R } (startD N.length ds) M) : FnG P w K mg base (k + 1) f fd ps (liftSp sp) := by
  refine ok_rawG F S (fun vs H Q E h => ?_) (fun cdv A outer s H vs Q E hg hsm hr h => ?_)
  · obtain ⟨G, M, ds, R, F', rp, a, q, _⟩ := h
    rw [← a.length]; exact len _ _ _ _ q
  · obtain ⟨t, ht, hq⟩ := hbody cdv A outer s H E hg hsm hr
    obtain ⟨G, M, ds, R, F', rp, a, q, c, _⟩ := h
    have fin : ∀ d M' G' H' v, Stp G M H G' M' H' → At G' d v → Rt R d M' → Q v H' := fun d M' G' H' v p av ⟨M0, sb, hR⟩ => c d M0 G' H' v (p.trans (Stp.forget p.rep sb)) av hR
    exact ⟨_, ht.pss, G, M, _, _, rp, slots_start a, hq ds M R F' q, ⟨fun s' M' G' H' σ' p _ z => fin .non M' G' H' .non p .non z, fin, fun _ _ _ _ _ _ _ z => z.elim, fun _ _ _ _ _ _ _ z => z.elim⟩⟩
end
/-- nothing is being shown, and the dict of modules is no object of ours -/
structure Sh (X : Cx) : Prop where
  gd : X.A.guards = some []
  sm : ∃ o, X.base.get? sysModules = some o
section
variable {X : Cx} {k : Nat} {f C : Addr} {fd : FuncData} {ps : List Str} {sp : DSp} {x m : Str} {p pos apos : Pos} {e o : Expr} {es : List Expr} {ta te : DTE} {t : DTA}
theorem pe_callG {sp : Sp} {ta : TA} (sh : Sh X) (F : FnG X.prog X.w X.K X.mg X.base k f fd ps sp) (hr : Room k X.A) (hg : Gl X x) (hm : X.mg x = some (.ref f)) (hk : PySem.W.keepIn X.K (.ref f) = true) (hb : Binds X.K fd ps [])
    (ha : PA X (e :: es) ta) (hdb : (x == ("__debug__" : Str)) = false := by decide) (he : starEach (e :: es) X.env = (false, eval e X.env) :: starEach es X.env := by rfl) (hpl : (backTo pos (starEach es X.env)).any (·.1) = false := by rfl) :
    PE X (.Call (.Name x p) (e :: es) [] pos) (tCall sp [] E0 ta) := by
  refine ⟨fun pins s σ H Q I h => ?_⟩
  refine wpAny_Call_Name_kw (ld_glob I hg hm ?_ hdb)
  refine PySem.W.callWith_K (h₀ := X.base) I.ok.mod.kin hk (thn (ha.run pos pins s σ H _ I h) fun us s1 ⟨vs, H1, I1, r, q⟩ => ⟨I1.kIn, ?_⟩) he hpl
  have q : sp vs H1 Q E0 := by
    have q' : sp (vs ++ []) H1 Q E0 := q
    rw [List.append_nil] at q'; exact q'
  have hl : us.length = ps.length := by rw [← r.length]; exact F.len _ _ _ _ q
  have hb1 := hb s1 us I1.kIn (by rw [List.append_nil]; exact hl)
  rw [List.append_nil] at hb1
  refine wpAny_call (codeAny_mono (F.run X.A X.stack s1 H1 ⟨us, []⟩ us vs Q E0 sh.gd sh.sm hr I1.env0 hb1 r q) fun r s' hq => ?_)
  cases r with
  | error e => exact False.elim hq
  | ok fl =>
    cases fl with
    | ret u => exact I1.after hq
    | next => exact False.elim hq
    | brk => exact False.elim hq
    | cont => exact False.elim hq
theorem de_callG (sh : Sh X) (F : FnG X.prog X.w X.K X.mg X.base k f fd ps (liftSp sp)) (hr : Room k X.A) (hg : Gl X x) (hm : X.mg x = some (.ref f)) (hk : PySem.W.keepIn X.K (.ref f) = true) (hb : Binds X.K fd ps [])
    (ha : DA X (e :: es) t) (hdb : (x == ("__debug__" : Str)) = false := by decide) (he : starEach (e :: es) X.env = (false, eval e X.env) :: starEach es X.env := by rfl) (hpl : (backTo pos (starEach es X.env)).any (·.1) = false := by rfl) :
    DE X (.Call (.Name x p) (e :: es) [] pos) (dCall sp t) := ⟨pe_imp (pe_callG sh F hr hg hm hk hb ha.pa hdb he hpl) fun _ _ _ => low_call⟩
end

/-! ### repr -/
mutual
def pyD : DV → PySem.PyData
  | .bl b => .bool b
  | .int i => .int i
  | .str x => .str x
  | .lst xs => .list (pyDs xs)
  | .tup xs => .tuple (pyDs xs)
  | .dK ks => .dict (pyKs ks)
  | _ => .none
def pyDs : List DV → List PySem.PyData
  | [] => []
  | x :: xs => pyD x :: pyDs xs
def pyKs : List (Key × DV) → List (PySem.PyData × PySem.PyData)
  | [] => []
  | (k, v) :: r => ((match k with
    | .inl i => .int i
    | .inr x => .str x), pyD v) :: pyKs r
end
mutual
/-- made of plain data only -/
def plain : DV → Bool
  | .non => true
  | .bl _ => true
  | .int _ => true
  | .str _ => true
  | .lst xs => plains xs
  | .tup xs => plains xs
  | .dK ks => plainK ks
  | _ => false
def plains : List DV → Bool
  | [] => true
  | x :: xs => plain x && plains xs
def plainK : List (Key × DV) → Bool
  | [] => true
  | (_, v) :: r => plain v && plainK r
end
section
variable {P : Program} {w : World} {G H : Hp} {h : Heap}
theorem pyKs_fst : ∀ ks : List (Key × DV), (pyKs ks).map (·.1) = ks.map fun kv => (match kv.1 with
    | .inl i => PySem.PyData.int i
    | .inr x => PySem.PyData.str x)
  | [] => by simp [pyKs]
  | (k, v) :: r => by
    have ih := pyKs_fst r
    cases k <;> simp [pyKs, ih]
theorem pyKs_snd : ∀ ks : List (Key × DV), (pyKs ks).map (·.2) = pyDs (ks.map Prod.snd)
  | [] => by simp [pyKs, pyDs]
  | (k, v) :: r => by
    have ih := pyKs_snd r
    cases k <;> simp [pyKs, pyDs, ih]
theorem plainK_snd : ∀ ks : List (Key × DV), plainK ks = plains (ks.map Prod.snd)
  | [] => by simp [plainK, plains]
  | (k, v) :: r => by
    have ih := plainK_snd r
    simp [plainK, plains, ih]
/-- addresses of no dict of the system -/
theorem reads_keys : ∀ {es : List DictEntry} {kvs : List (Key × Value)} {ks : List (Key × DV)}, Pairs (mixKind P w) es kvs → ks.map Prod.fst = kvs.map (·.1) → ∃ as, ReadsAll h (es.map (·.key)) ((pyKs ks).map (·.1)) as ∧ as = []
  | [], [], [], .nil, _ => ⟨[], .nil, rfl⟩
  | e :: es, kv :: kvs, (k, d) :: ks, .cons h1 h2 t, ef => by
    simp only [List.map_cons, List.cons.injEq] at ef
    obtain ⟨e1, e2⟩ := ef
    obtain ⟨as, r, ea⟩ := reads_keys t e2
    subst ea
    have e1' : k = kv.1 := e1
    have hk : keyIs k e.key = true := by rw [e1']; exact h1
    have one : ∃ as, Reads h e.key (match k with
      | .inl i => PySem.PyData.int i
      | .inr x => PySem.PyData.str x) as ∧ as = [] := by
      rcases keyIs_shape hk with ⟨i, tk, rfl, ev⟩ | ⟨x, tk, rfl, ev⟩
      · rw [ev]; exact ⟨_, .int i tk, rfl⟩
      · rw [ev]; exact ⟨_, .str x tk, rfl⟩
    obtain ⟨as1, r1, ea1⟩ := one
    subst ea1
    refine ⟨[] ++ [], ?_, rfl⟩
    cases k <;> exact .cons r1 r
  | [], _ :: _, _, h, _ => nomatch h
  | _ :: _, [], _, h, _ => nomatch h
  | [], [], _ :: _, _, e => by simp at e
  | _ :: _, _ :: _, [], _, e => by simp at e
theorem pairs_vals {es : List DictEntry} {kvs : List (Key × Value)} (q : Pairs (mixKind P w) es kvs) : es.map (·.val) = kvs.map (·.2) := by
  induction q with
  | nil => rfl
  | cons h1 h2 t ih => rw [List.map_cons, List.map_cons, ih, h2]
theorem kv_snd {κ : Type} {kvs : List (κ × V)} {vs : List (κ × Value)} (r : KV kvs vs) : Vals (kvs.map Prod.snd) (vs.map (·.2)) := by
  unfold KV at r
  induction r with
  | nil => exact .nil
  | cons h t ih => exact .cons h.2 ih
mutual
theorem reads_at (hsm : H sysModules = none) (ge : Ge G H) (hok : HOk P w H h) : ∀ {d : DV} {v : V} {u : Value}, At G d v → plain d = true → RelV v u → ∃ as, Reads h u (pyD d) as ∧ sysModules ∉ as
  | .non, _, _, .non, _, r => by cases r; exact ⟨_, .none, by simp⟩
  | .bl b, _, _, .bl _, _, r => by cases r; exact ⟨_, .bool b, by simp⟩
  | .int i, _, _, .int _, _, r => by obtain ⟨t, rfl⟩ := r; exact ⟨_, .int i t, by simp⟩
  | .str x, _, _, .str _, _, r => by obtain ⟨t, rfl⟩ := r; exact ⟨_, .str x t, by simp⟩
  | .byt b, _, _, .byt _, hp, _ => by simp [plain] at hp
  | .ty n, _, _, .ty _, hp, _ => by simp [plain] at hp
  | .adr a, _, _, .adr _, hp, _ => by simp [plain] at hp
  | .lst xs, _, _, .lst (a := a) hr ra, hp, r => by
    cases r
    have hr' := ge.rd _ _ hr
    obtain ⟨hz, its, n, rv, ho⟩ := (show ObjOk P w H h a (.lst _) from hr'.ok hok)
    have hne : sysModules ≠ a := fun e => by
      subst e
      rcases hr' with q | ⟨o, q⟩ <;> rw [hsm] at q <;> cases q
    have hp' : plains xs = true := by simpa [plain] using hp
    obtain ⟨as, q, nm⟩ := reads_all hsm ge hok ra hp' rv
    refine ⟨a :: as, ?_, by simp [hne, nm]⟩
    simp only [pyD]
    exact .list ho rfl rfl (by simpa using q)
  | .tup xs, _, _, .tup (a := a) hr ra, hp, r => by
    cases r
    obtain ⟨hz, its, rv, o, ho, hc, n, hd⟩ := (show ObjOk P w H h a (.tup _) from (ge.rd _ _ hr).ok hok)
    have hp' : plains xs = true := by simpa [plain] using hp
    obtain ⟨as, q, nm⟩ := reads_all hsm ge hok ra hp' rv
    refine ⟨as, ?_, nm⟩
    simp only [pyD]
    exact .tuple ho hc hd (by simpa using q)
  | .dK ks, _, _, .dK (a := a) hr ee ra, hp, r => by
    cases r
    obtain ⟨hz, hs, vs, kv, o, es, ep, ho, hc, hd, hk, hpr, hn⟩ := (show ObjOk P w H h a (.dK _) from (ge.rd _ _ hr).ok hok)
    have hne : sysModules ≠ a := fun e => by rw [← e] at hs; simp at hs
    have hp' : plains (ks.map Prod.snd) = true := by rw [← plainK_snd]; simpa [plain] using hp
    obtain ⟨bs, q, nm⟩ := reads_all hsm ge hok ra hp' (kv_snd kv)
    obtain ⟨as, qk, ea⟩ := reads_keys (h := h) hpr (ee.trans (kv_fst kv))
    subst ea
    refine ⟨a :: [] ++ bs, ?_, by simp [hne, nm]⟩
    simp only [pyD]
    refine .dict ho hc.1 hd qk ?_
    rw [pairs_vals hpr, pyKs_snd]
    exact q
  | .dT ks, _, _, .dT hr ee ra, hp, _ => by simp [plain] at hp
  | .obj C fs, _, _, .obj hr ee ra, hp, _ => by simp [plain] at hp
theorem reads_all (hsm : H sysModules = none) (ge : Ge G H) (hok : HOk P w H h) : ∀ {ds : List DV} {vs : List V} {us : List Value}, AtL G ds vs → plains ds = true → Vals vs us → ∃ as, ReadsAll h us (pyDs ds) as ∧ sysModules ∉ as
  | [], _, _, .nil, _, .nil => ⟨[], .nil, by simp⟩
  | d :: ds, _, _, .cons h1 t1, hp, .cons r1 rs => by
    simp only [plains, Bool.and_eq_true] at hp
    obtain ⟨as, q1, n1⟩ := reads_at hsm ge hok h1 hp.1 r1
    obtain ⟨bs, q2, n2⟩ := reads_all hsm ge hok t1 hp.2 rs
    exact ⟨as ++ bs, .cons q1 q2, by simp [n1, n2]⟩
end
end
abbrev rReprD : DR := fun xs M Q => match xs with
  | [x] => plain x = true ∧ (pyD x).showable = true ∧ (pyD x).depth ≤ 40 ∧ (pyD x).shown.length ≤ sizeLine ∧ Q (.str (pyD x).shown) M
  | _ => False
theorem cd_repr {X : Cx} (sh : Sh X) (hu : X.A.units + 64 < cLine) : CallR X (.builtin "repr") (lowC rReprD) := fun pins s σ H xs us Q I rx h => by
  obtain ⟨G, M, ds, R, rp, al, q, c⟩ := h
  rcases ds with _ | ⟨d, _ | ⟨_, _⟩⟩ <;> first | exact q.elim | skip
  obtain ⟨v, rfl, ad⟩ := al.one
  obtain ⟨hp, hs, hd, hz, q⟩ := q
  obtain ⟨u, rfl, ru⟩ := vals1 rx
  have hsm : H sysModules = none := by
    obtain ⟨o, ho⟩ := sh.sm
    exact (I.bs _ _ ho).2
  obtain ⟨as, rd, nm⟩ := reads_at (P := X.prog) (w := X.w) hsm rp.ge I.hok ad hp ru
  have fin : Q (.str (pyD d).shown) H := c _ M G H _ (Stp.refl rp) (.str _) q
  cases ad <;> first | (simp [plain] at hp; done) | skip
  · cases ru
    exact PySem.P.repr_of_none ⟨.str _, H, I.tok _, ⟨_, rfl⟩, by simpa [pyD, PySem.PyData.shown] using fin⟩
  · cases ru
    exact PySem.P.repr_of_bool ⟨.str _, H, I.tok _, ⟨_, rfl⟩, by simpa [pyD, PySem.PyData.shown] using fin⟩
  · obtain ⟨t, rfl⟩ := ru
    exact PySem.P.repr_of_int (by simpa [pyD, PySem.PyData.showable] using hs) ⟨.str _, H, I.tok _, ⟨_, rfl⟩, by simpa [pyD, PySem.PyData.shown] using fin⟩
  · obtain ⟨t, rfl⟩ := ru
    exact PySem.P.repr_of_str (by exact ⟨.str _, H, I.tok _, ⟨_, rfl⟩, by simpa [pyD, PySem.PyData.shown] using fin⟩) (by simpa [pyD, PySem.PyData.shown] using hz)
  · cases ru
    exact repr_of_reads' rd hs (fun _ => nm) sh.gd (by omega) (fun _ _ e => e) (fun h' u tk k => ⟨.str _, H, I.kept (t' := tk) k, ⟨u, rfl⟩, fin⟩) hz
  · cases ru
    exact repr_of_reads' rd hs (fun _ => nm) sh.gd (by omega) (fun _ _ e => e) (fun h' u tk k => ⟨.str _, H, I.kept (t' := tk) k, ⟨u, rfl⟩, fin⟩) hz
  · cases ru
    exact repr_of_reads' rd hs (fun _ => nm) sh.gd (by omega) (fun _ _ e => e) (fun h' u tk k => ⟨.str _, H, I.kept (t' := tk) k, ⟨u, rfl⟩, fin⟩) hz
end D

set_option Elab.async false
set_option linter.all false
set_option maxRecDepth 100000
set_option maxHeartbeats 1000000
/-! D15: what a def hands back, frozen; the law's end. -/
namespace D
open PySem PySem.Spec PyProof.Rows L2
/-- a changing thing taken as frozen from now on -/
inductive Frz (M : MM) : DV → MM → DV → Prop where
  | keep (d : DV) : Frz M d M d
  | lst {a : Addr} {xs : List DV} (h : M a = some (.lst xs)) : Frz M (.adr a) (delM M a) (.lst xs)
  | dK {a : Addr} {xs : List (Key × DV)} (h : M a = some (.dK xs)) : Frz M (.adr a) (delM M a) (.dK xs)
  | dT {a : Addr} {xs : List (List Key × DV)} (h : M a = some (.dT xs)) : Frz M (.adr a) (delM M a) (.dT xs)
  | ins {a C : Addr} {fs : List (Str × DV)} (h : M a = some (.ins C fs)) : Frz M (.adr a) (delM M a) (.obj C fs)
theorem Frz.go {G H : Hp} {M M1 : MM} {d d1 : DV} {v : V} (f : Frz M d M1 d1) (rp : Rep G M H) (ad : At G d v) : ∃ G1, Stp G M H G1 M1 H ∧ At G1 d1 v := by
  cases f with
  | keep => exact ⟨G, Stp.refl rp, ad⟩
  | lst h =>
    cases ad
    obtain ⟨hg, o, ho, ma⟩ := rp.mu _ _ h
    cases ma with
    | lst r =>
      have st := Stp.freeze rp h ho nofz_lst
      exact ⟨_, st, .lst (.inl upd_same) (r.mono st.ge)⟩
  | dK h =>
    cases ad
    obtain ⟨hg, o, ho, ma⟩ := rp.mu _ _ h
    cases ma with
    | dK e r =>
      have st := Stp.freeze rp h ho nofz_dK
      exact ⟨_, st, .dK (.inl upd_same) e (r.mono st.ge)⟩
  | dT h =>
    cases ad
    obtain ⟨hg, o, ho, ma⟩ := rp.mu _ _ h
    cases ma with
    | dT e r =>
      have st := Stp.freeze rp h ho nofz_dT
      exact ⟨_, st, .dT (.inl upd_same) e (r.mono st.ge)⟩
  | ins h =>
    cases ad
    obtain ⟨hg, o, ho, ma⟩ := rp.mu _ _ h
    cases ma with
    | ins e r =>
      have st := Stp.freeze rp h ho nofz_ins
      exact ⟨_, st, .obj upd_same e (r.mono st.ge)⟩
/-- what is handed back: perhaps frozen; what nobody asks for is forgotten -/
def Rf (R : DK) (d : DV) (M' : MM) : Prop := ∃ d1 M1 M0, Frz M' d M1 d1 ∧ SubM M0 M1 ∧ R d1 M0
theorem Rf.of {R : DK} {d : DV} {M : MM} (h : R d M) : Rf R d M := ⟨d, M, M, .keep d, SubM.refl M, h⟩
theorem Rf.sub {R : DK} {d : DV} {M M0 : MM} (s : SubM M0 M) (h : R d M0) : Rf R d M := ⟨d, M, M0, .keep d, s, h⟩
theorem Rf.lst {R : DK} {a : Addr} {xs : List DV} {M M0 : MM} (hM : M a = some (.lst xs)) (s : SubM M0 (delM M a)) (h : R (.lst xs) M0) : Rf R (.adr a) M := ⟨_, _, M0, .lst hM, s, h⟩
theorem Rf.dK {R : DK} {a : Addr} {xs : List (Key × DV)} {M M0 : MM} (hM : M a = some (.dK xs)) (s : SubM M0 (delM M a)) (h : R (.dK xs) M0) : Rf R (.adr a) M := ⟨_, _, M0, .dK hM, s, h⟩
theorem fin_rf {G : Hp} {M : MM} {H : Hp} {R : DK} {Q : VK} (c : CD R Q G M H) : CD (Rf R) Q G M H := fun d M' G' H' v p av ⟨d1, M1, M0, fz, sb, hR⟩ => by
  obtain ⟨G1, st, a1⟩ := fz.go p.rep av
  exact c d1 M0 G1 H' v (p.trans (st.trans (Stp.forget st.rep sb))) a1 hR
theorem ends_rf {G : Hp} {M : MM} {H : Hp} {R : DK} {Q : VK} (c : CD R Q G M H) : EndsOk G M H { nx := fun _ M' => Rf R .non M', rt := Rf R } { nx := fun _ H' => Q .non H', rt := Q } :=
  ⟨fun s' M' G' H' σ' p _ z => fin_rf c .non M' G' H' .non p .non z, fin_rf c, fun _ _ _ _ _ _ _ z => z.elim, fun _ _ _ _ _ _ _ z => z.elim⟩
section
variable {P : Program} {w : World} {K : PySem.W.Frag} {mg : Str → Option Value} {base : Heap}
theorem ok_fn {x qual : Str} {st : Stmt} {f : Addr} {fd : FuncData} {N ps : List Str} {k : Nat} {sp : DSp} (F : Fun K x qual st f fd) (S : FnScope N ps (defScope st)) (len : ∀ ds M R E, sp ds M R E → ds.length = ps.length)
    (hbody : ∀ (cdv : Value) (A : Around) (outer : List Env) (s : Shared) (H : Hp) (E : XK), Room k (A.deeper (envOfC qual (defScope st) s.heap.objs.size f cdv)) →
      ∃ t, DSs (cxOf CX0 P w K mg base N qual (defScope st) f cdv A outer s H E).nox (defBody st) t ∧ ∀ ds M R F, sp ds M R F → t { nx := fun _ M' => Rf R .non M', rt := Rf R } (startD N.length ds) M) : FnOk P w K mg base CX0 (k + 1) f fd ps (liftSp sp) := by
  refine F.ok S (fun vs H Q E h => ?_) (fun cdv A outer s H vs Q E hr h => ?_)
  · obtain ⟨G, M, ds, R, F', rp, a, q, _⟩ := h
    rw [← a.length]; exact len _ _ _ _ q
  · obtain ⟨t, ht, hq⟩ := hbody cdv A outer s H E hr
    obtain ⟨G, M, ds, R, F', rp, a, q, c, _⟩ := h
    exact ⟨_, ht.pss, G, M, _, _, rp, slots_start a, hq ds M R F' q, ends_rf c⟩
theorem ok_fnG {x qual : Str} {st : Stmt} {f : Addr} {fd : FuncData} {N ps : List Str} {k : Nat} {sp : DSp} (F : Fun K x qual st f fd) (S : FnScope N ps (defScope st)) (len : ∀ ds M R E, sp ds M R E → ds.length = ps.length)
    (hbody : ∀ (cdv : Value) (A : Around) (outer : List Env) (s : Shared) (H : Hp) (E : XK), A.guards = some [] → (∃ o, base.get? sysModules = some o) → Room k (A.deeper (envOfC qual (defScope st) s.heap.objs.size f cdv)) →
      ∃ t, DSs (cxOf CX0 P w K mg base N qual (defScope st) f cdv A outer s H E).nox (defBody st) t ∧ ∀ ds M R F, sp ds M R F → t { nx := fun _ M' => Rf R .non M', rt := Rf R } (startD N.length ds) M) : FnG P w K mg base (k + 1) f fd ps (liftSp sp) := by
  refine ok_rawG F S (fun vs H Q E h => ?_) (fun cdv A outer s H vs Q E hg hsm hr h => ?_)
  · obtain ⟨G, M, ds, R, F', rp, a, q, _⟩ := h
    rw [← a.length]; exact len _ _ _ _ q
  · obtain ⟨t, ht, hq⟩ := hbody cdv A outer s H E hg hsm hr
    obtain ⟨G, M, ds, R, F', rp, a, q, c, _⟩ := h
    exact ⟨_, ht.pss, G, M, _, _, rp, slots_start a, hq ds M R F' q, ends_rf c⟩
end
theorem ints_at {G : Hp} : ∀ ns : List Int, AtL G (ns.map DV.int) (ns.map V.int)
  | [] => .nil
  | n :: ns => .cons (.int n) (ints_at ns)
/-! ### the end: the law is called with its script -/
theorem law_callG {P : Program} {w : World} {K : PySem.W.Frag} {mg mb : Str → Option Value} {k : Nat} {fa a : Addr} {fd : FuncData} {x : Str} {sp : DSp} {s₁ : Shared} {vs : List Value} {ns : List Int}
    (KX : K.In s₁.heap) (hns : s₁.heap.Ns mainGlobals mg) (hb : s₁.heap.Ns builtinsNs mb) (hbb : ∀ x : Str, x ≠ "__name__" → mb x = bootBuiltins x) (hlim : s₁.heap.NoLimit) (hg : s₁.gens = #[])
    (ha : s₁.heap.get? a = some { cls := .type "list", data := .seq vs.toArray }) (hi : IntsAre vs ns) (hl : ns.length ≤ sizeLine) (hr : Room k callerA)
    (F : ∀ base : Heap, K.In base → base.Ns mainGlobals mg → FnG P w K mg base k fa fd [x] (liftSp sp)) (hbind : ∀ (s : Shared) (u : Value), BindsTo s fd ⟨[u], []⟩ [(x, u)])
    (hKL : K.all (fun p => p.2.cls != .type "list") = true) (hKS : (K.lookup sysModules).isSome = true)
    (hsp : sp [.lst (ns.map DV.int)] (fun _ => none) (fun d _ => d = .bl true) X0) :
    codeAny (model P w) callerA (.call (.ref fa) ⟨[.ref a], []⟩) (fun r s' => r = .ok (.ret (.bool true)) ∧ OldK s₁.heap s'.heap ∧ s'.os = s₁.os ∧ AllBare s'.gens) s₁ := by
  have rv := vals_ints hi
  have lenV := hi.length
  -- the script alone is known, as a frozen list
  let o : Obj := { cls := .type "list", data := .seq vs.toArray }
  let H : Hp := fun b => if b = a then some (.frz o (.lst (ns.map V.int))) else none
  have Ha : H a = some (.frz o (.lst (ns.map V.int))) := if_pos rfl
  have Hn : ∀ {b}, b ≠ a → H b = none := fun h => if_neg h
  have hok : HOk P w H s₁.heap := fun b u e => by
    by_cases h : b = a
    · subst h
      rw [Ha] at e
      cases e
      exact ⟨ha, by rw [List.length_map]; exact hl, vs, _, rv, ha⟩
    · rw [Hn h] at e; cases e
  have dictNe : ∀ {b : Addr} {ob : Obj} {es : Array DictEntry} {ep : Nat}, s₁.heap.get? b = some ob → ob.data = .dict es ep → b ≠ a := fun {b ob es ep} e d h => by
    subst h
    rw [ha] at e
    cases e
    exact nomatch d
  have base_of : ∀ {b : Addr} {ob : Obj}, s₁.heap.get? b = some ob → b ≠ a → (hidT s₁.heap H).get? b = some ob := fun e n => hidT_get e (Hn n)
  have nsK : ∀ {b : Addr} {m : Str → Option Value}, s₁.heap.Ns b m → (hidT s₁.heap H).Ns b m := fun {b m} ⟨ob, es, ep, e, d, r⟩ => ⟨ob, es, ep, base_of e (dictNe e d), d, r⟩
  have aK : K.lookup a = none := by
    cases e : K.lookup a with
    | none => rfl
    | some ob =>
      have e2 := KX a ob e
      rw [ha] at e2
      have e3 : ob = o := (Option.some.inj e2).symm
      have e4 := List.all_eq_true.mp hKL (a, ob) (PySem.W.mem_of_lookupK e)
      rw [e3] at e4
      simp [o] at e4
  have neK : ∀ {b ob}, K.lookup b = some ob → b ≠ a := fun e h => by rw [h, aK] at e; cases e
  have hKb : K.In (hidT s₁.heap H) := fun b ob e => base_of (KX b ob e) (neK e)
  have hM : Mod K mg (hidT s₁.heap H) := ⟨hKb, nsK hns, ⟨mb, nsK hb, hbb⟩, let ⟨mc, h1, h2⟩ := hlim; ⟨mc, nsK h1, h2⟩⟩
  have e0 : Env0 P w K mg (hidT s₁.heap H) callerA [] s₁ H := ⟨rfl, hM, fun b o e => of_hidT e, Nat.le_of_eq (hidT_size _ _), trivial, fun b hb => absurd (show b ∈ ([] : List Addr) from hb) (by simp), hok, .of_eq hg⟩
  have hsm : ∃ ob, (hidT s₁.heap H).get? sysModules = some ob := by
    obtain ⟨ob, e⟩ := Option.isSome_iff_exists.mp hKS
    exact ⟨ob, hKb _ _ e⟩
  -- the deep heap: the script
  have Ga : Rd H a (.lst (ns.map V.int)) := .inr ⟨o, Ha⟩
  have ats : AtL H (ns.map DV.int) (ns.map V.int) := by
    exact ints_at ns
  have rep : Rep H (fun _ => none) H := ⟨Ge.refl H, fun _ _ _ e => e, fun _ _ e => nomatch e⟩
  refine codeAny_mono ((F _ hKb (nsK hns)).run callerA [] s₁ H ⟨[.ref a], []⟩ [.ref a] [.ref a] (fun v _ => v = .bl true) E0 rfl hsm hr e0 (hbind s₁ (.ref a)) (.cons rfl .nil)
    ⟨H, fun _ => none, [.lst (ns.map DV.int)], fun d _ => d = .bl true, X0, rep, .cons (.lst Ga ats) .nil, hsp, fun d M' G' H' v st av e => ?_, dx0⟩) fun r s' h => ?_
  · subst e
    cases av
    rfl
  · cases r with
    | error e => exact False.elim h
    | ok fl =>
      cases fl with
      | next => exact False.elim h
      | brk => exact False.elim h
      | cont => exact False.elim h
      | ret u =>
        obtain ⟨v, H', os, bare, un, hok', r', q⟩ := h
        have q' : v = .bl true := q
        subst q'
        obtain rfl : u = Value.bool true := r'
        refine ⟨rfl, OldK.of_keep fun b ob e => ?_, os, bare⟩
        by_cases hb : b = a
        · subst hb
          obtain ⟨e2, _⟩ := hok' b _ (un.frzs b o _ Ha)
          rw [ha] at e
          cases e
          exact e2
        · exact un.keep b ob e (Hn hb) (by intro z; exact absurd (show b ∈ ([] : List Addr) from z) (by simp)) (by simp)

theorem walk_ofG {l : PySem.W.OpenLaw} {n k : Nat} {q : Program} {loose : List Str} {XP : (Str → Option Value) → Heap → Prop} {YP : World → Heap → Prop} {d : DefRec} {x : Str}
    (hn : l.most = some n) (hn2 : n ≤ sizeLine) (hdf : d.params.defaults = []) (hr : Room k callerA)
    (F : ∀ (w : World) (mg : Str → Option Value) (fa : Addr) (h : Heap), YP w h → h.Ns mainGlobals mg → mg d.name = some (.ref fa) →
      ∃ (K : PySem.W.Frag) (fd : FuncData) (sp : DSp), K.In h ∧ K.all (fun p => p.2.cls != .type "list") = true ∧ (K.lookup sysModules).isSome = true ∧ (∀ (s : Shared) (u : Value), BindsTo s fd ⟨[u], []⟩ [(x, u)]) ∧
        (∀ ns : List Int, ns.length ≤ n → (∀ z ∈ ns, Builtin.Int.intBits z ≤ 1048576) → sp [.lst (ns.map DV.int)] (fun _ => none) (fun d _ => d = .bl true) X0) ∧
        ∀ base : Heap, K.In base → base.Ns mainGlobals mg → FnG l.prog w K mg base k fa fd [x] (liftSp sp)) :
    PySem.W.WalkO q loose XP YP l.row.toRowW d [] (fun f vs => PySem.call f vs) := by
  refine Att.attach_callB hn hdf fun w s₀ s₁ mg mb fa o pm cd doc a vs ns G Y ho hd hcd hmg hobj hints hlen hbits hg => ?_
  obtain ⟨K, fd, sp, KX, kl, ks, hb, hsp, hF⟩ := F w mg fa _ Y G.T.g hmg
  exact law_callG KX G.T.g G.T.b G.T.builtins G.T.nolimit hg hobj hints (Nat.le_trans hlen hn2) hr hF hb kl ks (hsp ns hlen hbits)

/-! ### the head's facts: any checks on a part of the heap -/
def frN (g : Addr → Option Obj) (as : List Addr) : PySem.W.Frag := (He.frG g as).filter fun p => p.2.cls != .type "list"
theorem lookup_filter {β : Type} {f : Addr × β → Bool} {a : Addr} {o : β} : ∀ {l : List (Addr × β)}, (l.filter f).lookup a = some o → (a, o) ∈ l
  | [], h => by simp at h
  | (b, u) :: r, h => by
    rw [List.filter_cons] at h
    by_cases c : f (b, u) = true
    · rw [if_pos c, List.lookup_cons] at h
      by_cases e : (a == b) = true
      · rw [e] at h
        have e2 : u = o := Option.some.inj h
        subst e2
        rw [beq_iff_eq.mp e]
        exact List.mem_cons_self
      · have e' : (a == b) = false := by simpa using e
        rw [e'] at h
        exact List.mem_cons_of_mem _ (lookup_filter h)
    · rw [if_neg c] at h
      exact List.mem_cons_of_mem _ (lookup_filter h)
theorem frG_mem {g : Addr → Option Obj} {a : Addr} {o : Obj} {as : List Addr} (h : (a, o) ∈ He.frG g as) : g a = some o := by
  unfold He.frG at h
  obtain ⟨b, _, e⟩ := List.mem_filterMap.mp h
  obtain ⟨u, hu, e2⟩ := Option.map_eq_some_iff.mp e
  cases e2
  exact hu
theorem frN_in {as : List Addr} {h : Heap} : (frN h.get? as).In h := fun a o e => frG_mem (lookup_filter e)
/-- one def: where it stands, by the part; its name, qualified name, parameters, body, scope -/
structure FnX where
  ad : PySem.W.Frag → Addr
  name : Str
  qual : Str
  st : Stmt
def fnXO (K : PySem.W.Frag) (a : Addr) : He.FnV := match K.lookup a with
  | some ⟨_, _, .func fd, _⟩ => some (fd.name, fd.qualname, fd.params, fd.body, fd.scope, fd.globals, fd.closure, fd.defaults, fd.builtins)
  | _ => none
def fnXV (d : FnX) : He.FnV := some (d.name, d.qual, defArgs d.st, .stmts (defBody d.st), defScope d.st, mainGlobals, [], .none, builtinsNs)
def fnXC (K : PySem.W.Frag) (d : FnX) : Bool := (match K.lookup (d.ad K) with
  | some ⟨_, _, .func fd, _⟩ => PySem.W.codeIn K fd.code d.qual
  | _ => false) && PySem.W.keepIn K (.ref (d.ad K))
abbrev AlX : Type := Bool × List He.FnV
def obsX (fa : List (PySem.W.Frag → Bool)) (fn : List FnX) (K : PySem.W.Frag) : AlX := ((K.lookup sysModules).isSome && ((fa.all fun f => f K) && fn.all fun d => fnXC K d), fn.map fun d => fnXO K (d.ad K))
def valX (fn : List FnX) : AlX := (true, fn.map fnXV)
def SaysX (fa : List (PySem.W.Frag → Bool)) (fn : List FnX) (K : PySem.W.Frag) : Prop := obsX fa fn K = valX fn ∧ K.all (fun p => p.2.cls != .type "list") = true
def asX (g : Addr → Option Obj) (n : Nat) : List Addr := sysModules :: cStatics :: He.asG g n
def obsXG (n : Nat) (fa : List (PySem.W.Frag → Bool)) (fn : List FnX) (g : Addr → Option Obj) : AlX := obsX fa fn (frN g (asX g n))
theorem frN_nolist (g : Addr → Option Obj) (as : List Addr) : (frN g as).all (fun p => p.2.cls != .type "list") = true := by
  rw [List.all_eq_true]
  intro p hp
  exact (List.mem_filter.mp hp).2
def hookX (n : Nat) (fa : List (PySem.W.Frag → Bool)) (fn : List FnX) : PySem.W.Hook where
  α := AlX
  obs := fun s => obsXG n fa fn s.heap.get?
  val := fun _ => valX fn
  says := fun _ h => ∃ K : PySem.W.Frag, K.In h ∧ SaysX fa fn K
  of := fun _ _ e => ⟨_, frN_in, e, frN_nolist _ _⟩
  keeps := fun _ _ _ ⟨K, hK, c⟩ k => ⟨K, PySem.W.Frag.In.keeps hK k, c⟩
theorem obsXG_eq {n : Nat} {fa : List (PySem.W.Frag → Bool)} {fn : List FnX} {g : Addr → Option Obj} {s : Shared} (h : ∀ a, g a = s.heap.get? a) : obsXG n fa fn g = (hookX n fa fn).obs s := by
  have e : g = s.heap.get? := funext h
  rw [e] <;> rfl
section
variable {fa : List (PySem.W.Frag → Bool)} {fn : List FnX} {K : PySem.W.Frag}
theorem SaysX.sys (c : SaysX fa fn K) : (K.lookup sysModules).isSome = true := (Bool.and_eq_true_iff.mp (show ((K.lookup sysModules).isSome && ((fa.all fun f => f K) && fn.all fun d => fnXC K d)) = true from congrArg (fun z : AlX => z.1) c.1)).1
theorem SaysX.fact (c : SaysX fa fn K) (i : Nat) {f : PySem.W.Frag → Bool} (h : fa[i]? = some f := by rfl) : f K = true := by
  have c1 := (Bool.and_eq_true_iff.mp (Bool.and_eq_true_iff.mp (show ((K.lookup sysModules).isSome && ((fa.all fun f => f K) && fn.all fun d => fnXC K d)) = true from congrArg (fun z : AlX => z.1) c.1)).2).1
  exact List.all_eq_true.mp c1 f (List.mem_of_getElem? h)
theorem SaysX.fun_ (c : SaysX fa fn K) (i : Nat) {d : FnX} (h : fn[i]? = some d := by rfl) : ∃ fd, Fun K d.name d.qual d.st (d.ad K) fd := by
  have c2 := (Bool.and_eq_true_iff.mp (Bool.and_eq_true_iff.mp (show ((K.lookup sysModules).isSome && ((fa.all fun f => f K) && fn.all fun d => fnXC K d)) = true from congrArg (fun z : AlX => z.1) c.1)).2).2
  have c3 : fnXC K d = true := List.all_eq_true.mp c2 d (List.mem_of_getElem? h)
  obtain ⟨c4, kp⟩ := Bool.and_eq_true_iff.mp c3
  have e : fn.map (fun d => fnXO K (d.ad K)) = fn.map fnXV := congrArg (fun z : AlX => z.2) c.1
  have e2 : (fn.map fun d => fnXO K (d.ad K))[i]? = (fn.map fnXV)[i]? := by rw [e]
  rw [List.getElem?_map, List.getElem?_map, h] at e2
  have e3 : fnXO K (d.ad K) = fnXV d := Option.some.inj e2
  unfold fnXO at e3
  cases q : K.lookup (d.ad K) with
  | none => rw [q] at c4; cases c4
  | some o =>
    obtain ⟨oc, od, dt, osl⟩ := o
    rw [q] at c4 e3
    cases dt with
    | func fd =>
      obtain ⟨n1, n2, n3, n4, n5, n6, n7, n8, n9, n10, n11, n12, n13, n14, n15⟩ := fd
      have e4 : (some (n1, n2, n3, n4, n5, n6, n7, n8, n15) : He.FnV) = some (d.name, d.qual, defArgs d.st, .stmts (defBody d.st), defScope d.st, mainGlobals, [], .none, builtinsNs) := e3
      simp only [Option.some.injEq, Prod.mk.injEq] at e4
      obtain ⟨h1, h2, h3, h4, h5, h6, h7, h8, h9⟩ := e4
      subst h1 h2 h3 h4 h5 h6 h7 h8 h9
      exact ⟨_, ⟨oc, od, n9, n10, n11, n12, n13, n14, osl, rfl, q, c4⟩, kp⟩
    | _ => cases c4
end
end D

set_option Elab.async false
set_option linter.all false
set_option maxRecDepth 100000
set_option maxHeartbeats 1000000
/-! D16: facts that the head tells of a part of the heap, as checks. -/
namespace D
open PySem PySem.Spec PyProof.Rows L2
abbrev Fg := PySem.W.Frag
def recA (K : Fg) (p : Addr) (kind : String) : Addr := match PySem.W.recIn K p kind with
  | some (.ref g :: _) => g
  | _ => 0
def recOk (K : Fg) (p : Addr) (kind : String) : Bool := match PySem.W.recIn K p kind with
  | some (.ref _ :: _) => true
  | _ => false
theorem recOk_ok {K : Fg} {p : Addr} {kind : String} (h : recOk K p kind = true) : ∃ rest, PySem.W.recIn K p kind = some (.ref (recA K p kind) :: rest) := by
  unfold recOk at h
  unfold recA
  split at h
  · rename_i g rest e
    rw [e]; exact ⟨rest, rfl⟩
  · cases h
/-- a property's record, its getter -/
abbrev prA (K : Fg) (C : Addr) (m : Str) : Addr := He.ma K C m
abbrev pgA (K : Fg) (C : Addr) (m : Str) : Addr := recA K (He.ma K C m) "property"
abbrev cgA (K : Fg) (C : Addr) (m : Str) : Addr := recA K (He.ma K C m) "classmethod"
def dO {α : Type} [DecidableEq α] (a b : α) : Bool := decide (a = b)
theorem dO_ok {α : Type} [DecidableEq α] {a b : α} (h : dO a b = true) : a = b := of_decide_eq_true h
def propOk (K : Fg) (C : Addr) (m : Str) : Bool := dO (PySem.W.findIn K (.ref C) m) (some (some (.ref (prA K C m)))) && (dO (PySem.W.specialIn K (.ref (prA K C m)) "__get__") (some (some (.builtin "property.__get__"))) && (dO (PySem.W.takesIn K (.ref (prA K C m))) (some true) && recOk K (prA K C m) "property"))
theorem propOk_ok {K : Fg} {C : Addr} {m : Str} (h : propOk K C m = true) : PropOf K C m (prA K C m) (pgA K C m) := by
  obtain ⟨h1, h⟩ := He.ba h
  obtain ⟨h2, h⟩ := He.ba h
  obtain ⟨h3, h4⟩ := He.ba h
  exact ⟨dO_ok h1, dO_ok h2, dO_ok h3, recOk_ok h4⟩
def readOk (K : Fg) (C : Addr) : Bool := PySem.W.readsIn K C (.type "type") && dO (PySem.W.specialIn K (.ref C) "__getattribute__") (some (some (.builtin "type.__getattribute__")))
theorem readOk_ok {K : Fg} {C : Addr} (h : readOk K C = true) : ClX.CRead K C (.type "type") := ⟨(He.ba h).1, dO_ok (He.ba h).2⟩
def cmOk (K : Fg) (C : Addr) (m : Str) : Bool := (match PySem.W.findCls K (.ref C) (.type "type") m with
  | some (.get g a ob tp) => dO g (.builtin "classmethod.__get__") && (dO a (.ref (He.ma K C m)) && (dO ob .none && dO tp (.ref C)))
  | _ => false) && (recOk K (He.ma K C m) "classmethod" && PySem.W.fnIn K (cgA K C m))
theorem cmOk_ok {K : Fg} {C : Addr} {m : Str} (h : cmOk K C m = true) : ClX.CMet K C (.type "type") m (He.ma K C m) (cgA K C m) := by
  obtain ⟨h1, h⟩ := He.ba h
  obtain ⟨h2, h3⟩ := He.ba h
  refine ⟨?_, recOk_ok h2, h3⟩
  split at h1
  · rename_i e
    obtain ⟨a1, h1⟩ := He.ba h1
    obtain ⟨a2, h1⟩ := He.ba h1
    obtain ⟨a3, a4⟩ := He.ba h1
    rw [e, dO_ok a1, dO_ok a2, dO_ok a3, dO_ok a4]
  · cases h1
def isOk (K : Fg) (C : Addr) : Bool := dO (PySem.W.findIn K (.ref C) "__class__") (some (some (.builtin "object.__class__"))) && (dO (PySem.W.specialIn K (.builtin "object.__class__") "__get__") (some (some (.builtin "getset_descriptor.__get__"))) &&
  (dO (PySem.W.takesIn K (.builtin "object.__class__")) (some true) && dO (PySem.W.mroIn K C (.type "object")) (some true)))
theorem isOk_ok {K : Fg} {C : Addr} (c : Cls K C) (h : isOk K C = true) : OwnIs K C := by
  obtain ⟨h1, h⟩ := He.ba h
  obtain ⟨h2, h⟩ := He.ba h
  obtain ⟨h3, h4⟩ := He.ba h
  exact ⟨c, dO_ok h1, dO_ok h2, dO_ok h3, dO_ok h4⟩
def dunOk (K : Fg) (C : Addr) (m : Str) : Bool := dO (PySem.W.findIn K (.ref C) m) (some (some (.ref (He.ma K C m)))) && PySem.W.isFn K (.ref (He.ma K C m))
theorem dunOk_ok {K : Fg} {C : Addr} {m : Str} (h : dunOk K C m = true) : OwnM K C m (He.ma K C m) := ⟨dO_ok (He.ba h).1, (He.ba h).2⟩
def kitOk (K : Fg) (t c : Value) (b : Bool) : Bool := dO (PySem.W.kitOne K t c) (some b)
theorem kitOk_ok {K : Fg} {t c : Value} {b : Bool} (h : kitOk K t c b = true) : PySem.W.kitOne K t c = some b := dO_ok h
end D

set_option Elab.async false
set_option linter.all false
set_option maxRecDepth 100000
set_option maxHeartbeats 1000000
/-! D17: dict displays; defs that are known. -/
namespace D
open PySem PySem.Spec PyProof.Rows L2
section
variable {X : Cx} {pos p apos : Pos} {e o : Expr} {es : List Expr} {te tk tv : DTE} {t : DTA}
abbrev dPr : List (DTE × DTE) → DSt → MM → (List (DV × DV) → MM → Prop) → Prop
  | [], _, M, Q => Q [] M
  | (tk, tv) :: r, s, M, Q => tk s M fun x M1 => tv s M1 fun y M2 => dPr r s M2 fun ps M3 => Q ((x, y) :: ps) M3
structure DPs (X : Cx) (pos : Pos) (keys : List (Option Expr)) (values : List Expr) (trs : List (DTE × DTE)) : Prop where
  pps : PPs X pos keys values (trs.map fun p => (low p.1, low p.2))
theorem dps_nil : DPs X pos [] [] [] := ⟨pps_nil⟩
theorem dps_cons {k v : Expr} {ks : List (Option Expr)} {vs : List Expr} {trs : List (DTE × DTE)} (hk : DE X k tk) (hv : DE X v tv) (hr : DPs X pos ks vs trs) : DPs X pos (some k :: ks) (v :: vs) ((tk, tv) :: trs) := ⟨pps_cons hk.pe hv.pe hr.pps⟩
abbrev AtP (G : Hp) : List (DV × DV) → List (V × V) → Prop := Paired fun p q => At G p.1 q.1 ∧ At G p.2 q.2
theorem pr_low : ∀ (trs : List (DTE × DTE)) {G : Hp} {M : MM} {H : Hp} {s : DSt} {σ : L2.St} {R : List (DV × DV) → MM → Prop} {Q : List (V × V) → Hp → Prop}, Rep G M H → Slots G s σ → dPr trs s M R →
    (∀ ps M' G' H' qs, Stp G M H G' M' H' → AtP G' ps qs → R ps M' → Q qs H') → tPairs (trs.map fun p => (low p.1, low p.2)) σ H Q
  | [], G, M, H, _, _, _, _, rp, sl, h, c => c [] M G H [] (Stp.refl rp) .nil h
  | (tk, tv) :: r, G, M, H, s, σ, R, Q, rp, sl, h, c => ⟨G, M, s, _, rp, sl, h, fun x M1 G1 H1 v s1 a1 q1 => ⟨G1, M1, s, _, s1.rep, smono s1.ge sl, q1, fun y M2 G2 H2 w s2 a2 q2 =>
      pr_low r s2.rep (smono (s1.trans s2).ge sl) q2 fun ps M3 G3 H3 qs s3 a3 q3 => c ((x, y) :: ps) M3 G3 H3 ((v, w) :: qs) (s1.trans (s2.trans s3)) (.cons ⟨a1.mono (s2.ge.trans s3.ge), a2.mono s3.ge⟩ a3) q3⟩⟩
abbrev dDispM (trs : List (DTE × DTE)) : DTE := fun s M Q => dPr trs s M fun ps M1 => ∃ kvs : List (Key × DV), ps = kvs.map (fun kv => (keyD kv.1, kv.2)) ∧ kvs.length ≤ 15 ∧ ∀ p, M1 p = none → Q (.adr p) (updM M1 p (.dK (mergeD [] kvs)))
abbrev dDisp (trs : List (DTE × DTE)) : DTE := fun s M Q => dPr trs s M fun ps M1 => ∃ kvs : List (Key × DV), ps = kvs.map (fun kv => (keyD kv.1, kv.2)) ∧ kvs.length ≤ 15 ∧ Q (.dK (mergeD [] kvs)) M1
theorem atp_kv {G : Hp} : ∀ {kvs : List (Key × DV)} {qs : List (V × V)}, AtP G (kvs.map fun kv => (keyD kv.1, kv.2)) qs → ∃ ws : List (Key × V), qs = ws.map (fun kv => (kV kv.1, kv.2)) ∧ kvs.map Prod.fst = ws.map Prod.fst ∧ AtL G (kvs.map Prod.snd) (ws.map Prod.snd)
  | [], _, .nil => ⟨[], rfl, rfl, .nil⟩
  | (k, d) :: kvs, _, .cons (b := q) h t => by
    obtain ⟨ws, rfl, ef, rs⟩ := atp_kv t
    obtain ⟨q1, q2⟩ := q
    have e1 := keyD_at h.1
    have e1' : q1 = kV k := e1
    subst e1'
    exact ⟨(k, q2) :: ws, rfl, by simp [ef], .cons h.2 rs⟩
theorem disp_low {trs : List (DTE × DTE)} {q : List (Key × DV) → MM → DK → Prop} {σ : L2.St} {H : Hp} {Q : VK}
    (h : low (fun s M R => dPr trs s M fun ps M1 => ∃ kvs : List (Key × DV), ps = kvs.map (fun kv => (keyD kv.1, kv.2)) ∧ kvs.length ≤ 15 ∧ q (mergeD [] kvs) M1 R) σ H Q)
    (hq : ∀ (G : Hp) (M : MM) (H2 : Hp) (R : DK) (ks : List (Key × DV)) (kvs : List (Key × V)) (D : Addr) (G0 : Hp) (M0 : MM), Stp G0 M0 H G M H2 → H D = none → G D = none → M D = none → H2 D = some (.dK kvs) → ks.map Prod.fst = kvs.map Prod.fst → AtL G (ks.map Prod.snd) (kvs.map Prod.snd) → q ks M R → CD R Q G0 M0 H → Q (.ref D) H2) :
    tDisp (trs.map fun p => (low p.1, low p.2)) σ H Q := by
  obtain ⟨G, M, s, R, rp, sl, q1, c⟩ := h
  intro D hD
  have s0 := Stp.extra (o := .dK []) rp hD
  refine pr_low trs s0.rep (smono s0.ge sl) q1 fun ps M' G' H' qs st ap q2 => ?_
  obtain ⟨kvs, rfl, h15, q2⟩ := q2
  obtain ⟨g0, m0⟩ := rp.free hD
  obtain ⟨f1, f2, f3⟩ := st.fr D _ (fun _ => by intro z; cases z) upd_same g0 m0
  obtain ⟨ws, rfl, ef, rs⟩ := atp_kv ap
  obtain ⟨e2, r2⟩ := merge_rel (ks := []) (kvs := []) ef rs rfl .nil
  have hl : ws.length = kvs.length := by have := congrArg List.length ef; simpa using this.symm
  refine ⟨f1, ws, rfl, by omega, ?_⟩
  have st2 := (s0.trans st).tweak (o := .dK (mergeK [] ws)) hD f2 f3
  exact hq G' M' _ R _ _ D G M st2 hD f2 f3 upd_same e2 r2 q2 c
theorem de_dispM {keys : List (Option Expr)} {values : List Expr} {trs : List (DTE × DTE)} (h : DPs X pos keys values trs) (hall : keys.all (·.isSome) = true := by rfl) (hl : keys.length = values.length := by rfl) (h0 : keys ≠ [] := by exact fun e => nomatch e) (h15 : keys.length ≤ 15 := by decide) :
    DE X (.Dict keys values pos) (dDispM trs) := ⟨pe_imp (pe_disp h.pps hall hl h0 h15) fun σ H Q hw => disp_low (q := qM) hw fun G M H2 R ks kvs D G0 M0 st hD g m ho e r q c => c _ _ _ H2 _ (st.adoptM hD g ho (.dK e r)) (.adr D) (q D m)⟩
theorem de_disp {keys : List (Option Expr)} {values : List Expr} {trs : List (DTE × DTE)} (h : DPs X pos keys values trs) (hall : keys.all (·.isSome) = true := by rfl) (hl : keys.length = values.length := by rfl) (h0 : keys ≠ [] := by exact fun e => nomatch e) (h15 : keys.length ≤ 15 := by decide) :
    DE X (.Dict keys values pos) (dDisp trs) := ⟨pe_imp (pe_disp h.pps hall hl h0 h15) fun σ H Q hw => disp_low (q := qF) hw fun G M H2 R ks kvs D G0 M0 st hD g m ho e r q c => c _ M _ H2 _ (st.adopt hD g m ho nofz_dK) (.dK (.inl upd_same) e (r.mono (Ge.neu g))) q⟩

/-! ### names of the module -/
theorem de_globI {x : Str} {i : Int} (h : ∃ t, X.mg x = some (.int i t)) (hg : Gl X x) (hd : (x == ("__debug__" : Str)) = false := by decide) : DE X (.Name x pos) (dC (.int i)) := by
  obtain ⟨t, h⟩ := h
  exact de_glob (fun _ => .int i) hg h ⟨t, rfl⟩ hd
theorem de_globS {x z : Str} (h : ∃ t, X.mg x = some (.str z t)) (hg : Gl X x) (hd : (x == ("__debug__" : Str)) = false := by decide) : DE X (.Name x pos) (dC (.str z)) := by
  obtain ⟨t, h⟩ := h
  exact de_glob (fun _ => .str z) hg h ⟨t, rfl⟩ hd
theorem de_globA {x : Str} {a : Addr} (h : X.mg x = some (.ref a)) (hg : Gl X x) (hd : (x == ("__debug__" : Str)) = false := by decide) : DE X (.Name x pos) (dC (.adr a)) := de_glob (fun _ => .adr a) hg h rfl hd
end
/-- a def that keeps its promise -/
def Kn (P : Program) (w : World) (K : Fg) (mg : Str → Option Value) (base : Heap) (k : Nat) (f : Addr) (ps : List Str) (sp : DSp) : Prop := ∃ fd, FnOk P w K mg base CX0 k f fd ps (liftSp sp) ∧ Binds K fd ps [] ∧ PySem.W.keepIn K (.ref f) = true
def KnG (P : Program) (w : World) (K : Fg) (mg : Str → Option Value) (base : Heap) (k : Nat) (f : Addr) (ps : List Str) (sp : DSp) : Prop := ∃ fd, FnG P w K mg base k f fd ps (liftSp sp) ∧ Binds K fd ps [] ∧ PySem.W.keepIn K (.ref f) = true
section
variable {X : Cx} {k : Nat} {f C : Addr} {ps : List Str} {sp : DSp} {x m : Str} {p pos apos : Pos} {e o : Expr} {es : List Expr} {te : DTE} {t : DTA}
theorem Kn.fnd (F : Kn X.prog X.w X.K X.mg X.base k f ps sp) : FnD X k f sp := by
  obtain ⟨fd, F, b, _⟩ := F
  exact D.fnd F b
theorem de_callK (F : Kn X.prog X.w X.K X.mg X.base k f ps sp) (hr : Room k X.A) (hg : Gl X x) (hm : X.mg x = some (.ref f)) (ha : DA X (e :: es) t) (hdb : (x == ("__debug__" : Str)) = false := by decide) (he : starEach (e :: es) X.env = (false, eval e X.env) :: starEach es X.env := by rfl)
    (hpl : (backTo pos (starEach es X.env)).any (·.1) = false := by rfl) : DE X (.Call (.Name x p) (e :: es) [] pos) (dCall sp t) := by
  obtain ⟨fd, F, b, kp⟩ := F
  exact de_call F hr hg hm kp b ha hdb he hpl
theorem de_callKG (sh : Sh X) (F : KnG X.prog X.w X.K X.mg X.base k f ps sp) (hr : Room k X.A) (hg : Gl X x) (hm : X.mg x = some (.ref f)) (ha : DA X (e :: es) t) (hdb : (x == ("__debug__" : Str)) = false := by decide) (he : starEach (e :: es) X.env = (false, eval e X.env) :: starEach es X.env := by rfl)
    (hpl : (backTo pos (starEach es X.env)).any (·.1) = false := by rfl) : DE X (.Call (.Name x p) (e :: es) [] pos) (dCall sp t) := by
  obtain ⟨fd, F, b, kp⟩ := F
  exact de_callG sh F hr hg hm kp b ha hdb he hpl
theorem de_makeK {mk : DSp} (hmk : Makes C sp mk) (Mk' : Mk X.K C f) (F : Kn X.prog X.w X.K X.mg X.base k f ps sp) (hr : Room (k + 1) X.A) (hg : Gl X x) (hm : X.mg x = some (.ref C))
    (ha : DA X (e :: es) t) (hdb : (x == ("__debug__" : Str)) = false := by decide) (he : starEach (e :: es) X.env = (false, eval e X.env) :: starEach es X.env := by rfl) (hpl : (backTo pos (starEach es X.env)).any (·.1) = false := by rfl) :
    DE X (.Call (.Name x p) (e :: es) [] pos) (dCall mk t) := de_makeR hmk Mk' F.fnd hr hg hm ha hdb he hpl
theorem de_propK {pr : Addr} {fl : Str} (c : Cls X.K C) (hp : PropOf X.K C fl pr f) (F : Kn X.prog X.w X.K X.mg X.base k f ps sp) (hr : Room (k + 1) X.A) (he : DE X e te) (hab : attributeBase e fl X.env (eval e X.env) = eval e X.env := by rfl) :
    DE X (.Attribute e fl pos) (dProp C sp te) := by
  obtain ⟨fd, F, b, _⟩ := F
  exact de_prop c hp F hr b he hab
end
section
variable {P : Program} {w : World} {K : Fg} {mg : Str → Option Value} {base : Heap}
theorem kn_of {x qual : Str} {st : Stmt} {f : Addr} {N ps : List Str} {k : Nat} {sp : DSp} (F : ∃ fd, Fun K x qual st f fd) (S : FnScope N ps (defScope st)) (hb : ∀ (kV doc pm : Value) (an : Option Addr) (cdv ct : Value) (us : List Value), us.length = ps.length → bindArgs (PySem.W.fnOf x qual (defArgs st) (defBody st) (defScope st) .none kV doc pm an cdv ct) ⟨us, []⟩ = pure (ps.zip us))
    (len : ∀ ds M R E, sp ds M R E → ds.length = ps.length)
    (hbody : ∀ (cdv : Value) (A : Around) (outer : List Env) (s : Shared) (H : Hp) (E : XK), Room k (A.deeper (envOfC qual (defScope st) s.heap.objs.size f cdv)) →
      ∃ t, DSs (cxOf CX0 P w K mg base N qual (defScope st) f cdv A outer s H E).nox (defBody st) t ∧ ∀ ds M R F, sp ds M R F → t { nx := fun _ M' => Rf R .non M', rt := Rf R } (startD N.length ds) M) : Kn P w K mg base (k + 1) f ps sp := by
  obtain ⟨fd, F⟩ := F
  exact ⟨fd, ok_fn F S len hbody, F.binds hb, F.kp⟩
theorem knG_of {x qual : Str} {st : Stmt} {f : Addr} {N ps : List Str} {k : Nat} {sp : DSp} (F : ∃ fd, Fun K x qual st f fd) (S : FnScope N ps (defScope st)) (hb : ∀ (kV doc pm : Value) (an : Option Addr) (cdv ct : Value) (us : List Value), us.length = ps.length → bindArgs (PySem.W.fnOf x qual (defArgs st) (defBody st) (defScope st) .none kV doc pm an cdv ct) ⟨us, []⟩ = pure (ps.zip us))
    (len : ∀ ds M R E, sp ds M R E → ds.length = ps.length)
    (hbody : ∀ (cdv : Value) (A : Around) (outer : List Env) (s : Shared) (H : Hp) (E : XK), A.guards = some [] → (∃ o, base.get? sysModules = some o) → Room k (A.deeper (envOfC qual (defScope st) s.heap.objs.size f cdv)) →
      ∃ t, DSs (cxOf CX0 P w K mg base N qual (defScope st) f cdv A outer s H E).nox (defBody st) t ∧ ∀ ds M R F, sp ds M R F → t { nx := fun _ M' => Rf R .non M', rt := Rf R } (startD N.length ds) M) : KnG P w K mg base (k + 1) f ps sp := by
  obtain ⟨fd, F⟩ := F
  exact ⟨fd, ok_fnG F S len hbody, F.binds hb, F.kp⟩
end
end D

set_option Elab.async false
set_option linter.all false
set_option maxRecDepth 100000
set_option maxHeartbeats 1000000
/-! D18: a chain as a test; the empty dict; turns of comprehensions; unpacking a list. -/
namespace D
open PySem PySem.Spec PyProof.Rows L2
section
variable {X : Cx} {pos p apos : Pos} {a b e o : Expr} {es : List Expr} {te ta tb tk tv : DTE} {t : DTA}
theorem low_chain {r r' : DR2} {tc : DTE} {σ : L2.St} {H : Hp} {Q : VK} (h : low (dChain r r' ta tb tc) σ H Q) : tChain (low2 r) (low2 r') (low ta) (low tb) (low tc) σ H Q := by
  obtain ⟨G, M, s, R, rp, sl, q, c⟩ := h
  refine ⟨G, M, s, _, rp, sl, q, fun x M1 G1 H1 v s1 a1 q1 => ?_⟩
  refine ⟨G1, M1, s, _, s1.rep, smono s1.ge sl, q1, fun y M2 G2 H2 u s2 a2 q2 => ?_⟩
  refine ⟨G2, M2, x, y, _, s2.rep, a1.mono s2.ge, a2, q2, fun z M3 G3 H3 w s3 a3 q3 => ?_⟩
  obtain ⟨k, rfl⟩ : ∃ k, z = .bl k := by cases a3 <;> first | exact ⟨_, rfl⟩ | exact q3.elim
  cases a3
  refine ⟨k, rfl, ?_⟩
  cases k with
  | false => exact c _ M3 G3 H3 _ (s1.trans (s2.trans s3)) (.bl false) q3
  | true =>
    refine ⟨G3, M3, s, _, s3.rep, smono (s1.trans (s2.trans s3)).ge sl, q3, fun w M4 G4 H4 u s4 a4 q4 => ?_⟩
    exact ⟨G4, M4, y, w, R, s4.rep, a2.mono (s3.trans s4).ge, a4, q4, fun z M5 G5 H5 w s5 a5 q5 => c z M5 G5 H5 w (s1.trans (s2.trans (s3.trans (s4.trans s5)))) a5 q5⟩
theorem dt_chain {c : Expr} {op op' : CmpOp} {r r' : DR2} {tc : DTE} (ho : OpR X (compareOp op) (low2 r)) (ho' : OpR X (compareOp op') (low2 r')) (ha : DE X a ta) (hb : DE X b tb) (hc : DE X c tc)
    (hm : lastMarks [op, op'] [b, c] = false := by with_unfolding_all rfl) : DT X (.Compare a [op, op'] [b, c] pos) (dB (dChain r r' ta tb tc)) :=
  ⟨pt_imp (pt_chain ho ho' ha.pe hb.pe hc.pe hm) fun σ H Q h => low_chain (low_b h)⟩
/-- {} -/
abbrev dNewM : DTE := fun _ M Q => ∀ p, M p = none → Q (.adr p) (updM M p (.dK []))
abbrev dNew : DTE := fun _ M Q => Q (.dK []) M
theorem de_dnewM : DE X (.Dict [] [] pos) dNewM := ⟨pe_imp pe_dnewK fun σ H Q ⟨G, M, s, R, rp, sl, q, c⟩ => fin_dKM rp rfl .nil c q⟩
theorem de_dnew : DE X (.Dict [] [] pos) dNew := ⟨pe_imp pe_dnewK fun σ H Q ⟨G, M, s, R, rp, sl, q, c⟩ => fin_dK rp rfl .nil c q⟩
end
/-! ### pure turns of a comprehension -/
theorem LcI.pure {g : DTG} {tt : DTT} {te : DTE} {s : DSt} {xs : List DV} {M1 : MM} {E : List DV → MM → Prop} (F : DV → Option DV)
    (step : ∀ x ∈ xs, ∀ (K1 : DV → MM → Prop) (K0 : MM → Prop), (∀ y, F x = some y → K1 y M1) → (F x = none → K0 M1) → g x s M1 fun s3 M3 => tt s3 M3 fun b M4 => cnd b (te s3 M4 fun y M5 => K1 y M5) (K0 M4))
    (hl : xs.length ≤ sizeLine) (hE : E (xs.filterMap F) M1) : LcI g tt te s xs M1 E := by
  refine ⟨fun i M2 acc => M2 = M1 ∧ acc = (xs.take i).filterMap F, ⟨rfl, rfl⟩, ?_⟩
  rintro i M2 acc hi ⟨rfl, rfl⟩
  cases e : xs[i]? with
  | none =>
    have : xs.take i = xs := List.take_of_length_le (List.getElem?_eq_none_iff.mp e)
    show E _ _
    rw [this]; exact hE
  | some x =>
    have hx : x ∈ xs := List.mem_of_getElem? e
    have hlt : i < xs.length := (List.getElem?_eq_some_iff.mp e).1
    have hta : (xs.take (i + 1)).filterMap F = (xs.take i).filterMap F ++ (F x).toList := by
      rw [List.take_add_one, e, Option.toList_some, List.filterMap_append]
      cases h : F x <;> simp [h]
    have hlen : ((xs.take i).filterMap F).length < sizeLine := by
      have h1 := List.length_filterMap_le F (xs.take i)
      rw [List.length_take] at h1
      omega
    refine step x hx (fun y M5 => ((xs.take i).filterMap F).length < sizeLine ∧ M5 = M2 ∧ (xs.take i).filterMap F ++ [y] = (xs.take (i + 1)).filterMap F) (fun M4 => M4 = M2 ∧ (xs.take i).filterMap F = (xs.take (i + 1)).filterMap F) (fun y hy => ⟨hlen, rfl, ?_⟩) (fun hn => ⟨rfl, ?_⟩)
    · rw [hta, hy] <;> rfl
    · rw [hta, hn]; simp
theorem putD_new {κ : Type} [DecidableEq κ] {kvs : List (κ × DV)} {k : κ} {v : DV} (h : k ∉ kvs.map Prod.fst) : putD kvs k v = kvs ++ [(k, v)] := by
  unfold putD
  rw [if_neg]
  intro z
  obtain ⟨kv, hkv, e⟩ := List.any_eq_true.mp z
  exact h (List.mem_map.mpr ⟨kv, hkv, of_decide_eq_true e⟩)
theorem DcI.pure {g : DTG} {tt : DTT} {tk tv : DTE} {s : DSt} {xs : List DV} {M1 : MM} {E : List (Key × DV) → MM → Prop} (F : DV → Option (Key × DV))
    (step : ∀ x ∈ xs, ∀ (K1 : DV → DV → MM → Prop) (K0 : MM → Prop), (∀ k y, F x = some (k, y) → K1 (keyD k) y M1) → (F x = none → K0 M1) → g x s M1 fun s3 M3 => tt s3 M3 fun b M4 => cnd b (tk s3 M4 fun y M5 => tv s3 M5 fun z M6 => K1 y z M6) (K0 M4))
    (hl : xs.length ≤ sizeLine) (nd : ((xs.filterMap F).map Prod.fst).Nodup) (hE : E (xs.filterMap F) M1) : DcI g tt tk tv s xs M1 E := by
  refine ⟨fun i M2 acc => M2 = M1 ∧ acc = (xs.take i).filterMap F, ⟨rfl, rfl⟩, ?_⟩
  rintro i M2 acc hi ⟨rfl, rfl⟩
  cases e : xs[i]? with
  | none =>
    have : xs.take i = xs := List.take_of_length_le (List.getElem?_eq_none_iff.mp e)
    show E _ _
    rw [this]; exact hE
  | some x =>
    have hx : x ∈ xs := List.mem_of_getElem? e
    have hlt : i < xs.length := (List.getElem?_eq_some_iff.mp e).1
    have hta : (xs.take (i + 1)).filterMap F = (xs.take i).filterMap F ++ (F x).toList := by
      rw [List.take_add_one, e, Option.toList_some, List.filterMap_append]
      cases h : F x <;> simp [h]
    have hlen : ((xs.take i).filterMap F).length < sizeLine := by
      have h1 := List.length_filterMap_le F (xs.take i)
      rw [List.length_take] at h1
      omega
    refine step x hx (fun y z M6 => ∃ k, keyOf y = some k ∧ ((xs.take i).filterMap F).length < sizeLine ∧ M6 = M2 ∧ putD ((xs.take i).filterMap F) k z = (xs.take (i + 1)).filterMap F) (fun M4 => M4 = M2 ∧ (xs.take i).filterMap F = (xs.take (i + 1)).filterMap F) (fun k y hy => ⟨k, by cases k <;> rfl, hlen, rfl, ?_⟩) (fun hn => ⟨rfl, ?_⟩)
    · have h2 : (((xs.take (i + 1)).filterMap F).map Prod.fst).Nodup := by
        refine List.Nodup.sublist (List.Sublist.map _ (List.Sublist.filterMap F (List.take_sublist _ _))) nd
      rw [hta, hy] at h2
      rw [hta, hy]
      refine putD_new fun z => ?_
      simp only [Option.toList_some, List.map_append, List.map_cons, List.map_nil] at h2
      rw [List.nodup_append] at h2
      exact h2.2.2 k z k (by simp) rfl
    · rw [hta, hn]; simp
end D

set_option Elab.async false
set_option linter.all false
set_option maxRecDepth 100000
set_option maxHeartbeats 1000000
/-! D19: defs with *args and **keywords; unpacking a list. -/
namespace D
open PySem PySem.Spec PyProof.Rows L2
section
variable {P : Program} {w : World} {K : Fg} {mg : Str → Option Value} {base : Heap}
/-- f(self, .., *known, **counts), called by position -/
def spStar (n : Nat) (sp : DSp) : DSp := fun ds M Q E => ∃ ws rest, ds = ws ++ rest ∧ ws.length = n ∧ rest.length ≤ sizeLine ∧ ∀ p, M p = none → sp (ws ++ [.tup rest, .adr p]) (updM M p (.dK [])) Q E
theorem atl_split {G : Hp} : ∀ {ds es : List DV} {vs : List V}, AtL G (ds ++ es) vs → ∃ us ws, vs = us ++ ws ∧ AtL G ds us ∧ AtL G es ws
  | [], es, vs, h => ⟨[], vs, rfl, .nil, h⟩
  | d :: ds, es, _, .cons h t => by
    obtain ⟨us, ws, rfl, a, b⟩ := atl_split t
    exact ⟨_ :: us, ws, rfl, .cons h a, b⟩
theorem kn_star {x qual pv pd : Str} {st : Stmt} {f : Addr} {N ps : List Str} {k : Nat} {sp : DSp} (F : ∃ fd, Fun K x qual st f fd) (S : FnScope N (ps ++ [pv, pd]) (defScope st))
    (hb : ∀ (kV doc pm : Value) (an : Option Addr) (cdv ct : Value) (us rest : List Value), us.length = ps.length → bindArgs (PySem.W.fnOf x qual (defArgs st) (defBody st) (defScope st) .none kV doc pm an cdv ct) ⟨us ++ rest, []⟩ =
      (newTuple rest >>= fun t => (alloc ({ cls := .type "dict", data := .dict #[] } : Obj) : Sem Addr) >>= fun d => pure (ps.zip us ++ [(pv, t), (pd, Value.ref d)])))
    (hbody : ∀ (cdv : Value) (A : Around) (outer : List Env) (s : Shared) (H : Hp) (E : XK), Room k (A.deeper (envOfC qual (defScope st) s.heap.objs.size f cdv)) →
      ∃ t, DSs (cxOf CX0 P w K mg base N qual (defScope st) f cdv A outer s H E).nox (defBody st) t ∧ ∀ ds M R F, sp ds M R F → t { nx := fun _ M' => Rf R .non M', rt := Rf R } (startD N.length ds) M) : FnR P w K mg base CX0 (k + 1) f (liftSp (spStar ps.length sp)) := by
  obtain ⟨fd, F⟩ := F
  obtain ⟨oc, od, kV, doc, pm, an, cdv, ct, osl, rfl, lk, hcd⟩ := F.ex
  refine (StX.fn_starkw (CX := CX0) (sp := liftSp sp) lk hcd S StX.cxUp_none (hb kV doc pm an cdv ct) fun A outer s H vs Q E hr h => ?_).imp fun vs H Q E h => ?_
  · obtain ⟨t, ht, hq⟩ := hbody cdv A outer s H E hr
    obtain ⟨G, M, ds, R, F', rp, a, q, c, _⟩ := h
    exact ⟨_, ht.pss.nox, G, M, _, _, rp, slots_start a, hq ds M R F' q, ends_rf c⟩
  · obtain ⟨G, M, ds, R, F', rp, a, q, c, fx⟩ := h
    obtain ⟨ws, rest, rfl, hl, hz, q⟩ := q
    obtain ⟨us, rs, rfl, a1, a2⟩ := atl_split a
    refine ⟨us, rs, rfl, by rw [← a1.length]; exact hl, by rw [← a2.length]; exact hz, fun p d hp hd ne => ?_⟩
    have s1 := Stp.newF (a := p) (o := .tup rs) rp hp nofz_tup
    have hd2 : upd H p (.tup rs) d = none := by rw [upd_ne ne]; exact hd
    have s2 := Stp.newM (a := d) (o := .dK []) (m := .dK []) s1.rep hd2 (.dK rfl .nil)
    refine ⟨_, _, ws ++ [.tup rest, .adr d], R, F', s2.rep, ?_, q d (s1.rep.free hd2).2, fun z M' G' H' v st => c z M' G' H' v (s1.trans (s2.trans st)), fun C fs M' G' H' dd gs st => fx C fs M' G' H' dd gs (s1.trans (s2.trans st))⟩
    refine (a1.mono (s1.trans s2).ge).append (.cons (.tup ?_ (a2.mono (s1.trans s2).ge)) (.cons (.adr d) .nil))
    exact s2.ge.rd _ _ (.inl upd_same)
end
section
variable {X : Cx} {pos : Pos} {es : List Expr}
abbrev dgUnl (t : DTGs) : DTG := fun v s M Q => match view M v with
  | .lst xs => t xs s M Q
  | _ => False
theorem dg_unl {k : Nat} {t : DTGs} {n : Nat} {vs : List Nat} (hc : X.calm = true) (h : DGs X es t vs) (hl : ∀ ds s M Q, t ds s M Q → ds.length = n := by intro ds s M Q h; first | (rcases ds with _ | ⟨_, _ | ⟨_, _ | ⟨_, _ | ⟨_, _ | ⟨_, _⟩⟩⟩⟩⟩ <;> first | rfl | exact h.elim))
    (hn : (assignEach es X.env).length = n := by rfl) (hst : (assignEach es X.env).findIdx? (·.1) = none := by rfl) : DG X (.Tuple es k pos) (dgUnl t) vs :=
  ⟨pg_imp (pg_unl hc h.pgs hn hst) fun v σ H Q z => by
    obtain ⟨G, M, s, d, R, r, sl, av, q, c⟩ := z
    have va := view_at r av
    unfold dgUnl at q
    generalize view M d = y at va q
    cases va <;> first | exact q.elim | skip
    rename_i hr re
    exact ⟨_, _, rfl, .inl hr, by rw [← re.length]; exact hl _ _ _ _ q, G, M, s, _, R, r, sl, re, q, c⟩⟩
end
end D

set_option Elab.async false
set_option linter.all false
set_option maxRecDepth 100000
set_option maxHeartbeats 1000000
/-! D20: small words. -/
namespace D
open PySem PySem.Spec PyProof.Rows L2
section
variable {X : Cx}
theorem od_eqU (hu : X.A.units + 64 < cLine) : OpR X (compareOp .Eq) (low2 rEqG2) := od_eq (by omega)
theorem od_neU (hu : X.A.units + 64 < cLine) : OpR X (compareOp .NotEq) (low2 rNeG2) := od_ne (by omega)
theorem cd_isiK (K : Fg) (h : X.K = K) : CallR X (.builtin "isinstance") (lowC (rIsiD K)) := by
  subst h
  exact cd_isi
end
theorem view_lst {M : MM} {p : Addr} {l : List DV} (h : M p = some (.lst l)) : view M (.adr p) = .lst l := by
  show (match M p with
    | some (.lst xs) => DV.lst xs
    | some (.dK ks) => .dK ks
    | some (.dT ks) => .dT ks
    | _ => .adr p) = _
  rw [h]
theorem view_dK {M : MM} {p : Addr} {l : List (Key × DV)} (h : M p = some (.dK l)) : view M (.adr p) = .dK l := by
  show (match M p with
    | some (.lst xs) => DV.lst xs
    | some (.dK ks) => .dK ks
    | some (.dT ks) => .dT ks
    | _ => .adr p) = _
  rw [h]
theorem ty_at {M : MM} {p : Addr} {l : List DV} (h : M p = some (.lst l)) : tyLst (.adr p) M := by
  show (match view M (.adr p) with
    | .lst _ => True
    | _ => False)
  rw [view_lst h]
  trivial
theorem len_at {M : MM} {p : Addr} {l : List DV} {Q : DK} (h : M p = some (.lst l)) (q : Q (.int l.length) M) : rLenG [.adr p] M Q := by
  show (match view M (.adr p) with
    | .lst l => Q (.int l.length) M
    | .tup l => Q (.int l.length) M
    | .dK l => Q (.int l.length) M
    | .str z => z.length ≤ sizeLine ∧ Q (.int z.length) M
    | _ => False)
  rw [view_lst h]
  exact q
theorem getD_at {M : MM} {p : Addr} {l : List (Key × DV)} {y : DV} {k : Key} {d : DV} {Q : DK} (h : M p = some (.dK l)) (e : keyOf y = some k) (v : valD l k = some d) (q : Q d M) : rIxD (.adr p) y M Q := by
  show (match view M (.adr p) with
    | .dK ks => ∃ k d, keyOf y = some k ∧ valD ks k = some d ∧ Q d M
    | _ => False)
  rw [view_dK h]
  exact ⟨k, d, e, v, q⟩
end D

set_option Elab.async false
set_option linter.all false
set_option maxRecDepth 100000
namespace D
open PySem PySem.Spec PyProof.Rows L2
/-! ### what repr asks of a value, from its parts -/
def Rp (m n : Nat) (d : DV) : Prop := plain d = true ∧ (pyD d).showable = true ∧ (pyD d).depth ≤ m ∧ (pyD d).shown.length ≤ n
theorem pyDs_map : ∀ xs : List DV, pyDs xs = xs.map pyD
  | [] => by simp [pyDs]
  | x :: xs => by simp [pyDs, pyDs_map xs]
theorem plains_of : ∀ {xs : List DV}, (∀ x ∈ xs, plain x = true) → plains xs = true
  | [], _ => by simp [plains]
  | x :: xs, h => by
    simp only [plains, Bool.and_eq_true]
    exact ⟨h x (by simp), plains_of fun y hy => h y (by simp [hy])⟩
theorem depths_of {m : Nat} : ∀ {xs : List DV}, (∀ x ∈ xs, (pyD x).depth ≤ m) → PyData.depthAll (pyDs xs) ≤ m
  | [], _ => by simp [pyDs, PyData.depthAll]
  | x :: xs, h => by
    simp only [pyDs, PyData.depthAll]
    exact Nat.max_le.mpr ⟨h x (by simp), depths_of fun y hy => h y (by simp [hy])⟩
theorem shows_of : ∀ {xs : List DV}, (∀ x ∈ xs, (pyD x).showable = true) → PyData.showableAll (pyDs xs) = true
  | [], _ => by simp [pyDs, PyData.showableAll]
  | x :: xs, h => by
    simp only [pyDs, PyData.showableAll, Bool.and_eq_true]
    exact ⟨h x (by simp), shows_of fun y hy => h y (by simp [hy])⟩
theorem sums_of {n : Nat} : ∀ {xs : List DV}, (∀ x ∈ xs, (pyD x).shown.length ≤ n) → ((PyData.shownAll (pyDs xs)).map (·.length)).sum ≤ xs.length * n
  | [], _ => by simp [pyDs, PyData.shownAll]
  | x :: xs, h => by
    simp only [pyDs, PyData.shownAll, List.map_cons, List.sum_cons, List.length_cons]
    have h1 := h x (by simp)
    have h2 := sums_of (n := n) (xs := xs) fun y hy => h y (by simp [hy])
    rw [Nat.succ_mul]
    omega
theorem joins_of {n : Nat} {xs : List DV} (h : ∀ x ∈ xs, (pyD x).shown.length ≤ n) : (Str.join ", " (PyData.shownAll (pyDs xs))).length ≤ xs.length * (n + 2) := by
  have h1 := StrLaws.join_length_le ", " (PyData.shownAll (pyDs xs))
  have h2 := sums_of h
  have h3 : (PyData.shownAll (pyDs xs)).length = xs.length := by rw [PyData.shownAll_length, pyDs_map, List.length_map]
  have h4 : (", " : PySem.Str).length = 2 := by decide
  rw [h3, h4] at h1
  rw [Nat.mul_add]
  omega
theorem rp_lst {m n : Nat} {xs : List DV} (h : ∀ x ∈ xs, Rp m n x) : Rp (m + 1) (2 + xs.length * (n + 2)) (.lst xs) := by
  refine ⟨?_, ?_, ?_, ?_⟩
  · simp only [plain]; exact plains_of fun x hx => (h x hx).1
  · simp only [pyD, PyData.showable]; exact shows_of fun x hx => (h x hx).2.1
  · have := depths_of (m := m) fun x hx => (h x hx).2.2.1
    simp only [pyD, PyData.depth]
    omega
  · have := joins_of (n := n) fun x hx => (h x hx).2.2.2
    simp only [pyD]
    rw [PyData.shown_list, Str.length_append, Str.length_append]
    have h1 : ("[" : PySem.Str).length = 1 := by decide
    have h2 : ("]" : PySem.Str).length = 1 := by decide
    omega
theorem rp_tup {m n : Nat} {xs : List DV} (h : ∀ x ∈ xs, Rp m n x) : Rp (m + 1) (3 + xs.length * (n + 2)) (.tup xs) := by
  refine ⟨?_, ?_, ?_, ?_⟩
  · simp only [plain]; exact plains_of fun x hx => (h x hx).1
  · simp only [pyD, PyData.showable]; exact shows_of fun x hx => (h x hx).2.1
  · have := depths_of (m := m) fun x hx => (h x hx).2.2.1
    simp only [pyD, PyData.depth]
    omega
  · have := joins_of (n := n) fun x hx => (h x hx).2.2.2
    simp only [pyD]
    rw [PyData.shown_tuple, Str.length_append, Str.length_append]
    have h1 : ("(" : PySem.Str).length = 1 := by decide
    have h2 : ((if (pyDs xs).length == 1 then ",)" else ")" : String) : PySem.Str).length ≤ 2 := by split <;> decide
    omega
theorem rp_int {i : Int} (h : i.natAbs < 2 ^ 200) : Rp 1 202 (.int i) := by
  have hl : i.natAbs.log2 < 200 := by
    by_cases h0 : i.natAbs = 0
    · rw [h0]; decide
    · exact (Nat.log2_lt h0).mpr h
  refine ⟨rfl, ?_, ?_, ?_⟩
  · simp only [pyD, PyData.showable, decide_eq_true_eq]; omega
  · simp [pyD, PyData.depth]
  · simp only [pyD]
    rw [PyData.shown_int]
    have := int_text_length_le (a := i) (k := 200) (by decide) hl
    have e : (Str.ofString (toString i)).length = (toString i).length := PySem.ofString_length _
    omega
theorem rp_str {x : PySem.Str} {k : Nat} (h : x.length ≤ k) (hx : ∀ c ∈ x.cps.toList, c < 16 ^ 8) : Rp 1 (10 * k + 2) (.str x) := by
  refine ⟨rfl, ?_, ?_, ?_⟩
  · simp [pyD, PyData.showable]
  · simp [pyD, PyData.depth]
  · simp only [pyD]
    rw [PyData.shown_str]
    have := StrLaws.reprText_len x hx
    omega
theorem Rp.mono {m n m' n' : Nat} {d : DV} (h : Rp m n d) (a : m ≤ m') (b : n ≤ n') : Rp m' n' d := ⟨h.1, h.2.1, Nat.le_trans h.2.2.1 a, Nat.le_trans h.2.2.2 b⟩
/-- {text: int, ..} -/
theorem rp_ti {c : List (PySem.Str × Int)} {k : Nat} (h : ∀ y ∈ c, y.1.length ≤ k ∧ (∀ s ∈ y.1.cps.toList, s < 16 ^ 8) ∧ y.2.natAbs < 2 ^ 200) : Rp 2 (2 + c.length * (10 * k + 208)) (.dK (c.map fun p => (Sum.inr p.1, DV.int p.2))) := by
  refine ⟨?_, ?_, ?_, ?_⟩
  · simp only [plain]
    clear h
    induction c with
    | nil => rfl
    | cons y c ih => simpa [plainK, plain] using ih
  · simp only [pyD, PyData.showable]
    induction c with
    | nil => simp [pyKs, PyData.showableKv]
    | cons y c ih =>
      have h1 := (rp_int (h y (by simp)).2.2).2.1
      simp only [List.map_cons, pyKs, PyData.showableKv, Bool.and_eq_true]
      exact ⟨⟨by simp [PyData.showable], h1⟩, ih fun z hz => h z (by simp [hz])⟩
  · simp only [pyD, PyData.depth]
    have : PyData.depthKv (pyKs (c.map fun p => (Sum.inr p.1, DV.int p.2))) ≤ 1 := by
      clear h
      induction c with
      | nil => simp [pyKs, PyData.depthKv]
      | cons y c ih =>
        simp only [List.map_cons, pyKs, PyData.depthKv, pyD, PyData.depth]
        omega
    omega
  · simp only [pyD]
    rw [PyData.shown_dict, Str.length_append, Str.length_append]
    have h1 : ("{" : PySem.Str).length = 1 := by decide
    have h2 : ("}" : PySem.Str).length = 1 := by decide
    have h3 := StrLaws.join_length_le ", " (PyData.shownKv (pyKs (c.map fun p => (Sum.inr p.1, DV.int p.2))))
    have h4 : (", " : PySem.Str).length = 2 := by decide
    have h5 : (PyData.shownKv (pyKs (c.map fun p => (Sum.inr p.1, DV.int p.2)))).length = c.length := by
      clear h h3
      induction c with
      | nil => simp [pyKs, PyData.shownKv]
      | cons y c ih => simp only [List.map_cons, pyKs, PyData.shownKv, List.length_cons, ih]
    have h6 : ((PyData.shownKv (pyKs (c.map fun p => (Sum.inr p.1, DV.int p.2)))).map (·.length)).sum ≤ c.length * (10 * k + 206) := by
      clear h3 h5
      induction c with
      | nil => simp [pyKs, PyData.shownKv]
      | cons y c ih =>
        have ih := ih fun z hz => h z (by simp [hz])
        obtain ⟨a1, a2, a3⟩ := h y (by simp)
        have b1 := (rp_str a1 a2).2.2.2
        have b2 := (rp_int a3).2.2.2
        simp only [pyD] at b1 b2
        have b3 : (": " : PySem.Str).length = 2 := by decide
        simp only [List.map_cons, pyKs, PyData.shownKv, List.sum_cons, List.length_cons, Str.length_append, pyD] at ih ⊢
        rw [Nat.succ_mul]
        omega
    rw [h5, h4] at h3
    have e : c.length * (10 * k + 208) = c.length * (10 * k + 206) + c.length * 2 := by rw [← Nat.mul_add]
    omega
end D

set_option Elab.async false
set_option linter.all false
set_option maxRecDepth 100000
set_option maxHeartbeats 4000000
namespace K87
open PySem PySem.Spec PyProof.Rows L2 D
def top (i : Nat) : Stmt := PySem.Challenge.pw_crateround_k87_notes_that_tell_drives.main.body.getD i (.Pass ⟨0, 0, 0, 0⟩)
def fns : List D.FnX := [
  ⟨fun K => He.ga K "law", "law", "law", top 42⟩,
  ⟨fun K => He.ga K "is_integer", "is_integer", "is_integer", top 4⟩,
  ⟨fun K => He.ga K "is_word", "is_word", "is_word", top 5⟩,
  ⟨fun K => He.ga K "without_zeros", "without_zeros", "without_zeros", top 21⟩,
  ⟨fun K => He.ga K "checked", "checked", "checked", top 22⟩,
  ⟨fun K => He.ma K (He.ga K "Load") "__init__", "__init__", "Load.__init__", inClass (top 23) 0⟩,
  ⟨fun K => D.cgA K (He.ga K "Load") "of", "of", "Load.of", inClass (top 23) 1⟩,
  ⟨fun K => D.pgA K (He.ga K "Load") "counts", "counts", "Load.counts", inClass (top 23) 5⟩,
  ⟨fun K => D.pgA K (He.ga K "Load") "positive", "positive", "Load.positive", inClass (top 23) 7⟩,
  ⟨fun K => D.pgA K (He.ga K "Load") "negative", "negative", "Load.negative", inClass (top 23) 8⟩,
  ⟨fun K => He.ma K (He.ga K "Load") "__len__", "__len__", "Load.__len__", inClass (top 23) 12⟩,
  ⟨fun K => He.ma K (He.ga K "Load") "__bool__", "__bool__", "Load.__bool__", inClass (top 23) 13⟩,
  ⟨fun K => He.ga K "load_of", "load_of", "load_of", top 24⟩,
  ⟨fun K => He.ga K "is_delivered", "is_delivered", "is_delivered", top 26⟩,
  ⟨fun K => He.ma K (He.ga K "Note") "__init__", "__init__", "Note.__init__", inClass (top 27) 0⟩,
  ⟨fun K => He.ga K "drive_notes", "drive_notes", "drive_notes", top 29⟩,
  ⟨fun K => He.ga K "_law_pen", "_law_pen", "_law_pen", top 31⟩,
  ⟨fun K => He.ga K "_law_draw", "_law_draw", "_law_draw", top 32⟩,
  ⟨fun K => He.ga K "_law_pick", "_law_pick", "_law_pick", top 33⟩,
  ⟨fun K => He.ga K "_law_shuffled", "_law_shuffled", "_law_shuffled", top 34⟩,
  ⟨fun K => He.ga K "_law_words", "_law_words", "_law_words", top 35⟩,
  ⟨fun K => He.ga K "_law_count", "_law_count", "_law_count", top 36⟩,
  ⟨fun K => He.ga K "_law_counts", "_law_counts", "_law_counts", top 37⟩,
  ⟨fun K => He.ga K "_law_clean", "_law_clean", "_law_clean", top 38⟩,
  ⟨fun K => He.ga K "_law_rows_of", "_law_rows_of", "_law_rows_of", top 39⟩,
  ⟨fun K => He.ga K "_law_some_drives", "_law_some_drives", "_law_some_drives", top 40⟩,
  ⟨fun K => He.ga K "_law_lines", "_law_lines", "_law_lines", top 41⟩]

def facts : List (D.Fg → Bool) := [
  fun K => (He.Fa.cls "Load").ok K,
  fun K => (He.Fa.cls "Note").ok K,
  fun K => D.cmOk K (He.ga K "Load") "of",
  fun K => D.dunOk K (He.ga K "Load") "__bool__",
  fun K => D.dunOk K (He.ga K "Load") "__len__",
  fun K => (He.Fa.free "abs").ok K,
  fun K => (He.Fa.free "all").ok K,
  fun K => (He.Fa.free "bool").ok K,
  fun K => (He.Fa.free "dict").ok K,
  fun K => (He.Fa.free "int").ok K,
  fun K => (He.Fa.free "isinstance").ok K,
  fun K => (He.Fa.free "len").ok K,
  fun K => (He.Fa.free "list").ok K,
  fun K => (He.Fa.free "min").ok K,
  fun K => (He.Fa.free "range").ok K,
  fun K => (He.Fa.free "repr").ok K,
  fun K => (He.Fa.free "set").ok K,
  fun K => (He.Fa.free "sorted").ok K,
  fun K => (He.Fa.free "str").ok K,
  fun K => (He.Fa.free "tuple").ok K,
  fun K => (He.Fa.glo "Load").ok K,
  fun K => (He.Fa.glo "Note").ok K,
  fun K => (He.Fa.glo "_law_clean").ok K,
  fun K => (He.Fa.glo "_law_count").ok K,
  fun K => (He.Fa.glo "_law_counts").ok K,
  fun K => (He.Fa.glo "_law_draw").ok K,
  fun K => (He.Fa.glo "_law_lines").ok K,
  fun K => (He.Fa.glo "_law_pen").ok K,
  fun K => (He.Fa.glo "_law_pick").ok K,
  fun K => (He.Fa.glo "_law_rows_of").ok K,
  fun K => (He.Fa.glo "_law_shuffled").ok K,
  fun K => (He.Fa.glo "_law_some_drives").ok K,
  fun K => (He.Fa.glo "_law_words").ok K,
  fun K => (He.Fa.glo "checked").ok K,
  fun K => (He.Fa.glo "drive_notes").ok K,
  fun K => (He.Fa.glo "is_delivered").ok K,
  fun K => (He.Fa.glo "is_integer").ok K,
  fun K => (He.Fa.glo "is_word").ok K,
  fun K => (He.Fa.glo "law").ok K,
  fun K => (He.Fa.glo "load_of").ok K,
  fun K => (He.Fa.glo "without_zeros").ok K,
  fun K => (He.Fa.int "MOST_LETTERS" (8)).ok K,
  fun K => D.isOk K (He.ga K "Load"),
  fun K => D.isOk K (He.ga K "Note"),
  fun K => D.kitOk K (.ref (He.ga K "Load")) (.ref (He.ga K "Load")) true,
  fun K => D.kitOk K (.ref (He.ga K "Note")) (.ref (He.ga K "Note")) true,
  fun K => D.kitOk K (.type "bool") (.type "int") true,
  fun K => D.kitOk K (.type "int") (.type "bool") false,
  fun K => D.kitOk K (.type "list") (.type "list") true,
  fun K => D.kitOk K (.type "str") (.type "bool") false,
  fun K => D.kitOk K (.type "str") (.type "int") false,
  fun K => (He.Fa.mkr "Load").ok K,
  fun K => (He.Fa.mkr "Note").ok K,
  fun K => (He.Fa.noat "Load" "own_counts").ok K,
  fun K => (He.Fa.noat "Note" "day").ok K,
  fun K => (He.Fa.noat "Note" "giver").ok K,
  fun K => (He.Fa.noat "Note" "load").ok K,
  fun K => (He.Fa.noat "Note" "number").ok K,
  fun K => (He.Fa.noat "Note" "taker").ok K,
  fun K => D.propOk K (He.ga K "Load") "counts",
  fun K => D.propOk K (He.ga K "Load") "negative",
  fun K => D.propOk K (He.ga K "Load") "positive",
  fun K => D.readOk K (He.ga K "Load"),
  fun K => (He.Fa.str "LETTERS" "abcdefghijklmnopqrstuvwxyz").ok K]

structure Wld (K : Fg) (mg : PySem.Str → Option Value) : Prop where
  h : ∃ h : Heap, K.In h ∧ h.Ns mainGlobals mg
  c : SaysX facts fns K
variable {P : Program} {w : World} {K : Fg} {mg : PySem.Str → Option Value} {base : Heap}
theorem Wld.cls_Load (W : Wld K mg) : Cls K (He.ga K "Load") := He.cls_ok (W.c.fact 0 (f := fun K => (He.Fa.cls "Load").ok K))
theorem Wld.cls_Note (W : Wld K mg) : Cls K (He.ga K "Note") := He.cls_ok (W.c.fact 1 (f := fun K => (He.Fa.cls "Note").ok K))
theorem Wld.cm_Load_of (W : Wld K mg) : ClX.CMet K (He.ga K "Load") (.type "type") "of" (He.ma K (He.ga K "Load") "of") (D.cgA K (He.ga K "Load") "of") := D.cmOk_ok (W.c.fact 2 (f := fun K => D.cmOk K (He.ga K "Load") "of"))
theorem Wld.dun_Load___bool__ (W : Wld K mg) : D.OwnM K (He.ga K "Load") "__bool__" (He.ma K (He.ga K "Load") "__bool__") := D.dunOk_ok (W.c.fact 3 (f := fun K => D.dunOk K (He.ga K "Load") "__bool__"))
theorem Wld.dun_Load___len__ (W : Wld K mg) : D.OwnM K (He.ga K "Load") "__len__" (He.ma K (He.ga K "Load") "__len__") := D.dunOk_ok (W.c.fact 4 (f := fun K => D.dunOk K (He.ga K "Load") "__len__"))
theorem Wld.free_abs (W : Wld K mg) : mg "abs" = none := by
  obtain ⟨h, X, G⟩ := W.h
  exact He.free_ok X G (W.c.fact 5 (f := fun K => (He.Fa.free "abs").ok K))
theorem Wld.free_all (W : Wld K mg) : mg "all" = none := by
  obtain ⟨h, X, G⟩ := W.h
  exact He.free_ok X G (W.c.fact 6 (f := fun K => (He.Fa.free "all").ok K))
theorem Wld.free_bool (W : Wld K mg) : mg "bool" = none := by
  obtain ⟨h, X, G⟩ := W.h
  exact He.free_ok X G (W.c.fact 7 (f := fun K => (He.Fa.free "bool").ok K))
theorem Wld.free_dict (W : Wld K mg) : mg "dict" = none := by
  obtain ⟨h, X, G⟩ := W.h
  exact He.free_ok X G (W.c.fact 8 (f := fun K => (He.Fa.free "dict").ok K))
theorem Wld.free_int (W : Wld K mg) : mg "int" = none := by
  obtain ⟨h, X, G⟩ := W.h
  exact He.free_ok X G (W.c.fact 9 (f := fun K => (He.Fa.free "int").ok K))
theorem Wld.free_isinstance (W : Wld K mg) : mg "isinstance" = none := by
  obtain ⟨h, X, G⟩ := W.h
  exact He.free_ok X G (W.c.fact 10 (f := fun K => (He.Fa.free "isinstance").ok K))
theorem Wld.free_len (W : Wld K mg) : mg "len" = none := by
  obtain ⟨h, X, G⟩ := W.h
  exact He.free_ok X G (W.c.fact 11 (f := fun K => (He.Fa.free "len").ok K))
theorem Wld.free_list (W : Wld K mg) : mg "list" = none := by
  obtain ⟨h, X, G⟩ := W.h
  exact He.free_ok X G (W.c.fact 12 (f := fun K => (He.Fa.free "list").ok K))
theorem Wld.free_min (W : Wld K mg) : mg "min" = none := by
  obtain ⟨h, X, G⟩ := W.h
  exact He.free_ok X G (W.c.fact 13 (f := fun K => (He.Fa.free "min").ok K))
theorem Wld.free_range (W : Wld K mg) : mg "range" = none := by
  obtain ⟨h, X, G⟩ := W.h
  exact He.free_ok X G (W.c.fact 14 (f := fun K => (He.Fa.free "range").ok K))
theorem Wld.free_repr (W : Wld K mg) : mg "repr" = none := by
  obtain ⟨h, X, G⟩ := W.h
  exact He.free_ok X G (W.c.fact 15 (f := fun K => (He.Fa.free "repr").ok K))
theorem Wld.free_set (W : Wld K mg) : mg "set" = none := by
  obtain ⟨h, X, G⟩ := W.h
  exact He.free_ok X G (W.c.fact 16 (f := fun K => (He.Fa.free "set").ok K))
theorem Wld.free_sorted (W : Wld K mg) : mg "sorted" = none := by
  obtain ⟨h, X, G⟩ := W.h
  exact He.free_ok X G (W.c.fact 17 (f := fun K => (He.Fa.free "sorted").ok K))
theorem Wld.free_str (W : Wld K mg) : mg "str" = none := by
  obtain ⟨h, X, G⟩ := W.h
  exact He.free_ok X G (W.c.fact 18 (f := fun K => (He.Fa.free "str").ok K))
theorem Wld.free_tuple (W : Wld K mg) : mg "tuple" = none := by
  obtain ⟨h, X, G⟩ := W.h
  exact He.free_ok X G (W.c.fact 19 (f := fun K => (He.Fa.free "tuple").ok K))
theorem Wld.glo_Load (W : Wld K mg) : mg "Load" = some (.ref (He.ga K "Load")) := by
  obtain ⟨h, X, G⟩ := W.h
  exact He.glo_ok X G (W.c.fact 20 (f := fun K => (He.Fa.glo "Load").ok K))
theorem Wld.glo_Note (W : Wld K mg) : mg "Note" = some (.ref (He.ga K "Note")) := by
  obtain ⟨h, X, G⟩ := W.h
  exact He.glo_ok X G (W.c.fact 21 (f := fun K => (He.Fa.glo "Note").ok K))
theorem Wld.glo__law_clean (W : Wld K mg) : mg "_law_clean" = some (.ref (He.ga K "_law_clean")) := by
  obtain ⟨h, X, G⟩ := W.h
  exact He.glo_ok X G (W.c.fact 22 (f := fun K => (He.Fa.glo "_law_clean").ok K))
theorem Wld.glo__law_count (W : Wld K mg) : mg "_law_count" = some (.ref (He.ga K "_law_count")) := by
  obtain ⟨h, X, G⟩ := W.h
  exact He.glo_ok X G (W.c.fact 23 (f := fun K => (He.Fa.glo "_law_count").ok K))
theorem Wld.glo__law_counts (W : Wld K mg) : mg "_law_counts" = some (.ref (He.ga K "_law_counts")) := by
  obtain ⟨h, X, G⟩ := W.h
  exact He.glo_ok X G (W.c.fact 24 (f := fun K => (He.Fa.glo "_law_counts").ok K))
theorem Wld.glo__law_draw (W : Wld K mg) : mg "_law_draw" = some (.ref (He.ga K "_law_draw")) := by
  obtain ⟨h, X, G⟩ := W.h
  exact He.glo_ok X G (W.c.fact 25 (f := fun K => (He.Fa.glo "_law_draw").ok K))
theorem Wld.glo__law_lines (W : Wld K mg) : mg "_law_lines" = some (.ref (He.ga K "_law_lines")) := by
  obtain ⟨h, X, G⟩ := W.h
  exact He.glo_ok X G (W.c.fact 26 (f := fun K => (He.Fa.glo "_law_lines").ok K))
theorem Wld.glo__law_pen (W : Wld K mg) : mg "_law_pen" = some (.ref (He.ga K "_law_pen")) := by
  obtain ⟨h, X, G⟩ := W.h
  exact He.glo_ok X G (W.c.fact 27 (f := fun K => (He.Fa.glo "_law_pen").ok K))
theorem Wld.glo__law_pick (W : Wld K mg) : mg "_law_pick" = some (.ref (He.ga K "_law_pick")) := by
  obtain ⟨h, X, G⟩ := W.h
  exact He.glo_ok X G (W.c.fact 28 (f := fun K => (He.Fa.glo "_law_pick").ok K))
theorem Wld.glo__law_rows_of (W : Wld K mg) : mg "_law_rows_of" = some (.ref (He.ga K "_law_rows_of")) := by
  obtain ⟨h, X, G⟩ := W.h
  exact He.glo_ok X G (W.c.fact 29 (f := fun K => (He.Fa.glo "_law_rows_of").ok K))
theorem Wld.glo__law_shuffled (W : Wld K mg) : mg "_law_shuffled" = some (.ref (He.ga K "_law_shuffled")) := by
  obtain ⟨h, X, G⟩ := W.h
  exact He.glo_ok X G (W.c.fact 30 (f := fun K => (He.Fa.glo "_law_shuffled").ok K))
theorem Wld.glo__law_some_drives (W : Wld K mg) : mg "_law_some_drives" = some (.ref (He.ga K "_law_some_drives")) := by
  obtain ⟨h, X, G⟩ := W.h
  exact He.glo_ok X G (W.c.fact 31 (f := fun K => (He.Fa.glo "_law_some_drives").ok K))
theorem Wld.glo__law_words (W : Wld K mg) : mg "_law_words" = some (.ref (He.ga K "_law_words")) := by
  obtain ⟨h, X, G⟩ := W.h
  exact He.glo_ok X G (W.c.fact 32 (f := fun K => (He.Fa.glo "_law_words").ok K))
theorem Wld.glo_checked (W : Wld K mg) : mg "checked" = some (.ref (He.ga K "checked")) := by
  obtain ⟨h, X, G⟩ := W.h
  exact He.glo_ok X G (W.c.fact 33 (f := fun K => (He.Fa.glo "checked").ok K))
theorem Wld.glo_drive_notes (W : Wld K mg) : mg "drive_notes" = some (.ref (He.ga K "drive_notes")) := by
  obtain ⟨h, X, G⟩ := W.h
  exact He.glo_ok X G (W.c.fact 34 (f := fun K => (He.Fa.glo "drive_notes").ok K))
theorem Wld.glo_is_delivered (W : Wld K mg) : mg "is_delivered" = some (.ref (He.ga K "is_delivered")) := by
  obtain ⟨h, X, G⟩ := W.h
  exact He.glo_ok X G (W.c.fact 35 (f := fun K => (He.Fa.glo "is_delivered").ok K))
theorem Wld.glo_is_integer (W : Wld K mg) : mg "is_integer" = some (.ref (He.ga K "is_integer")) := by
  obtain ⟨h, X, G⟩ := W.h
  exact He.glo_ok X G (W.c.fact 36 (f := fun K => (He.Fa.glo "is_integer").ok K))
theorem Wld.glo_is_word (W : Wld K mg) : mg "is_word" = some (.ref (He.ga K "is_word")) := by
  obtain ⟨h, X, G⟩ := W.h
  exact He.glo_ok X G (W.c.fact 37 (f := fun K => (He.Fa.glo "is_word").ok K))
theorem Wld.glo_law (W : Wld K mg) : mg "law" = some (.ref (He.ga K "law")) := by
  obtain ⟨h, X, G⟩ := W.h
  exact He.glo_ok X G (W.c.fact 38 (f := fun K => (He.Fa.glo "law").ok K))
theorem Wld.glo_load_of (W : Wld K mg) : mg "load_of" = some (.ref (He.ga K "load_of")) := by
  obtain ⟨h, X, G⟩ := W.h
  exact He.glo_ok X G (W.c.fact 39 (f := fun K => (He.Fa.glo "load_of").ok K))
theorem Wld.glo_without_zeros (W : Wld K mg) : mg "without_zeros" = some (.ref (He.ga K "without_zeros")) := by
  obtain ⟨h, X, G⟩ := W.h
  exact He.glo_ok X G (W.c.fact 40 (f := fun K => (He.Fa.glo "without_zeros").ok K))
theorem Wld.int_MOST_LETTERS (W : Wld K mg) : ∃ t, mg "MOST_LETTERS" = some (.int (8) t) := by
  obtain ⟨h, X, G⟩ := W.h
  exact He.int_ok X G (W.c.fact 41 (f := fun K => (He.Fa.int "MOST_LETTERS" (8)).ok K))
theorem Wld.isok_Load (W : Wld K mg) : D.OwnIs K (He.ga K "Load") := D.isOk_ok W.cls_Load (W.c.fact 42 (f := fun K => D.isOk K (He.ga K "Load")))
theorem Wld.isok_Note (W : Wld K mg) : D.OwnIs K (He.ga K "Note") := D.isOk_ok W.cls_Note (W.c.fact 43 (f := fun K => D.isOk K (He.ga K "Note")))
theorem Wld.kit_Load_Load_true (W : Wld K mg) : PySem.W.kitOne K (.ref (He.ga K "Load")) (.ref (He.ga K "Load")) = some true := D.kitOk_ok (W.c.fact 44 (f := fun K => D.kitOk K (.ref (He.ga K "Load")) (.ref (He.ga K "Load")) true))
theorem Wld.kit_Note_Note_true (W : Wld K mg) : PySem.W.kitOne K (.ref (He.ga K "Note")) (.ref (He.ga K "Note")) = some true := D.kitOk_ok (W.c.fact 45 (f := fun K => D.kitOk K (.ref (He.ga K "Note")) (.ref (He.ga K "Note")) true))
theorem Wld.kit_bool_int_true (W : Wld K mg) : PySem.W.kitOne K (.type "bool") (.type "int") = some true := D.kitOk_ok (W.c.fact 46 (f := fun K => D.kitOk K (.type "bool") (.type "int") true))
theorem Wld.kit_int_bool_false (W : Wld K mg) : PySem.W.kitOne K (.type "int") (.type "bool") = some false := D.kitOk_ok (W.c.fact 47 (f := fun K => D.kitOk K (.type "int") (.type "bool") false))
theorem Wld.kit_list_list_true (W : Wld K mg) : PySem.W.kitOne K (.type "list") (.type "list") = some true := D.kitOk_ok (W.c.fact 48 (f := fun K => D.kitOk K (.type "list") (.type "list") true))
theorem Wld.kit_str_bool_false (W : Wld K mg) : PySem.W.kitOne K (.type "str") (.type "bool") = some false := D.kitOk_ok (W.c.fact 49 (f := fun K => D.kitOk K (.type "str") (.type "bool") false))
theorem Wld.kit_str_int_false (W : Wld K mg) : PySem.W.kitOne K (.type "str") (.type "int") = some false := D.kitOk_ok (W.c.fact 50 (f := fun K => D.kitOk K (.type "str") (.type "int") false))
theorem Wld.mkr_Load (W : Wld K mg) : Mk K (He.ga K "Load") (He.ma K (He.ga K "Load") "__init__") := He.mkr_ok (W.c.fact 51 (f := fun K => (He.Fa.mkr "Load").ok K))
theorem Wld.mkr_Note (W : Wld K mg) : Mk K (He.ga K "Note") (He.ma K (He.ga K "Note") "__init__") := He.mkr_ok (W.c.fact 52 (f := fun K => (He.Fa.mkr "Note").ok K))
theorem Wld.noat_Load_own_counts (W : Wld K mg) : NoAttr K (He.ga K "Load") "own_counts" := He.noat_ok (W.c.fact 53 (f := fun K => (He.Fa.noat "Load" "own_counts").ok K))
theorem Wld.noat_Note_day (W : Wld K mg) : NoAttr K (He.ga K "Note") "day" := He.noat_ok (W.c.fact 54 (f := fun K => (He.Fa.noat "Note" "day").ok K))
theorem Wld.noat_Note_giver (W : Wld K mg) : NoAttr K (He.ga K "Note") "giver" := He.noat_ok (W.c.fact 55 (f := fun K => (He.Fa.noat "Note" "giver").ok K))
theorem Wld.noat_Note_load (W : Wld K mg) : NoAttr K (He.ga K "Note") "load" := He.noat_ok (W.c.fact 56 (f := fun K => (He.Fa.noat "Note" "load").ok K))
theorem Wld.noat_Note_number (W : Wld K mg) : NoAttr K (He.ga K "Note") "number" := He.noat_ok (W.c.fact 57 (f := fun K => (He.Fa.noat "Note" "number").ok K))
theorem Wld.noat_Note_taker (W : Wld K mg) : NoAttr K (He.ga K "Note") "taker" := He.noat_ok (W.c.fact 58 (f := fun K => (He.Fa.noat "Note" "taker").ok K))
theorem Wld.prop_Load_counts (W : Wld K mg) : PropOf K (He.ga K "Load") "counts" (D.prA K (He.ga K "Load") "counts") (D.pgA K (He.ga K "Load") "counts") := D.propOk_ok (W.c.fact 59 (f := fun K => D.propOk K (He.ga K "Load") "counts"))
theorem Wld.prop_Load_negative (W : Wld K mg) : PropOf K (He.ga K "Load") "negative" (D.prA K (He.ga K "Load") "negative") (D.pgA K (He.ga K "Load") "negative") := D.propOk_ok (W.c.fact 60 (f := fun K => D.propOk K (He.ga K "Load") "negative"))
theorem Wld.prop_Load_positive (W : Wld K mg) : PropOf K (He.ga K "Load") "positive" (D.prA K (He.ga K "Load") "positive") (D.pgA K (He.ga K "Load") "positive") := D.propOk_ok (W.c.fact 61 (f := fun K => D.propOk K (He.ga K "Load") "positive"))
theorem Wld.read_Load (W : Wld K mg) : ClX.CRead K (He.ga K "Load") (.type "type") := D.readOk_ok (W.c.fact 62 (f := fun K => D.readOk K (He.ga K "Load")))
theorem Wld.str_LETTERS (W : Wld K mg) : ∃ t, mg "LETTERS" = some (.str "abcdefghijklmnopqrstuvwxyz" t) := by
  obtain ⟨h, X, G⟩ := W.h
  exact He.str_ok X G (W.c.fact 63 (f := fun K => (He.Fa.str "LETTERS" "abcdefghijklmnopqrstuvwxyz").ok K))
theorem Wld.fn_law (W : Wld K mg) : ∃ fd, Fun K "law" "law" (top 42) (He.ga K "law") fd := W.c.fun_ 0 (d := ⟨fun K => He.ga K "law", "law", "law", top 42⟩)
theorem Wld.fn_is_integer (W : Wld K mg) : ∃ fd, Fun K "is_integer" "is_integer" (top 4) (He.ga K "is_integer") fd := W.c.fun_ 1 (d := ⟨fun K => He.ga K "is_integer", "is_integer", "is_integer", top 4⟩)
theorem Wld.fn_is_word (W : Wld K mg) : ∃ fd, Fun K "is_word" "is_word" (top 5) (He.ga K "is_word") fd := W.c.fun_ 2 (d := ⟨fun K => He.ga K "is_word", "is_word", "is_word", top 5⟩)
theorem Wld.fn_without_zeros (W : Wld K mg) : ∃ fd, Fun K "without_zeros" "without_zeros" (top 21) (He.ga K "without_zeros") fd := W.c.fun_ 3 (d := ⟨fun K => He.ga K "without_zeros", "without_zeros", "without_zeros", top 21⟩)
theorem Wld.fn_checked (W : Wld K mg) : ∃ fd, Fun K "checked" "checked" (top 22) (He.ga K "checked") fd := W.c.fun_ 4 (d := ⟨fun K => He.ga K "checked", "checked", "checked", top 22⟩)
theorem Wld.fn_Load___init__ (W : Wld K mg) : ∃ fd, Fun K "__init__" "Load.__init__" (inClass (top 23) 0) (He.ma K (He.ga K "Load") "__init__") fd := W.c.fun_ 5 (d := ⟨fun K => He.ma K (He.ga K "Load") "__init__", "__init__", "Load.__init__", inClass (top 23) 0⟩)
theorem Wld.fn_Load_of (W : Wld K mg) : ∃ fd, Fun K "of" "Load.of" (inClass (top 23) 1) (D.cgA K (He.ga K "Load") "of") fd := W.c.fun_ 6 (d := ⟨fun K => D.cgA K (He.ga K "Load") "of", "of", "Load.of", inClass (top 23) 1⟩)
theorem Wld.fn_Load_counts (W : Wld K mg) : ∃ fd, Fun K "counts" "Load.counts" (inClass (top 23) 5) (D.pgA K (He.ga K "Load") "counts") fd := W.c.fun_ 7 (d := ⟨fun K => D.pgA K (He.ga K "Load") "counts", "counts", "Load.counts", inClass (top 23) 5⟩)
theorem Wld.fn_Load_positive (W : Wld K mg) : ∃ fd, Fun K "positive" "Load.positive" (inClass (top 23) 7) (D.pgA K (He.ga K "Load") "positive") fd := W.c.fun_ 8 (d := ⟨fun K => D.pgA K (He.ga K "Load") "positive", "positive", "Load.positive", inClass (top 23) 7⟩)
theorem Wld.fn_Load_negative (W : Wld K mg) : ∃ fd, Fun K "negative" "Load.negative" (inClass (top 23) 8) (D.pgA K (He.ga K "Load") "negative") fd := W.c.fun_ 9 (d := ⟨fun K => D.pgA K (He.ga K "Load") "negative", "negative", "Load.negative", inClass (top 23) 8⟩)
theorem Wld.fn_Load___len__ (W : Wld K mg) : ∃ fd, Fun K "__len__" "Load.__len__" (inClass (top 23) 12) (He.ma K (He.ga K "Load") "__len__") fd := W.c.fun_ 10 (d := ⟨fun K => He.ma K (He.ga K "Load") "__len__", "__len__", "Load.__len__", inClass (top 23) 12⟩)
theorem Wld.fn_Load___bool__ (W : Wld K mg) : ∃ fd, Fun K "__bool__" "Load.__bool__" (inClass (top 23) 13) (He.ma K (He.ga K "Load") "__bool__") fd := W.c.fun_ 11 (d := ⟨fun K => He.ma K (He.ga K "Load") "__bool__", "__bool__", "Load.__bool__", inClass (top 23) 13⟩)
theorem Wld.fn_load_of (W : Wld K mg) : ∃ fd, Fun K "load_of" "load_of" (top 24) (He.ga K "load_of") fd := W.c.fun_ 12 (d := ⟨fun K => He.ga K "load_of", "load_of", "load_of", top 24⟩)
theorem Wld.fn_is_delivered (W : Wld K mg) : ∃ fd, Fun K "is_delivered" "is_delivered" (top 26) (He.ga K "is_delivered") fd := W.c.fun_ 13 (d := ⟨fun K => He.ga K "is_delivered", "is_delivered", "is_delivered", top 26⟩)
theorem Wld.fn_Note___init__ (W : Wld K mg) : ∃ fd, Fun K "__init__" "Note.__init__" (inClass (top 27) 0) (He.ma K (He.ga K "Note") "__init__") fd := W.c.fun_ 14 (d := ⟨fun K => He.ma K (He.ga K "Note") "__init__", "__init__", "Note.__init__", inClass (top 27) 0⟩)
theorem Wld.fn_drive_notes (W : Wld K mg) : ∃ fd, Fun K "drive_notes" "drive_notes" (top 29) (He.ga K "drive_notes") fd := W.c.fun_ 15 (d := ⟨fun K => He.ga K "drive_notes", "drive_notes", "drive_notes", top 29⟩)
theorem Wld.fn__law_pen (W : Wld K mg) : ∃ fd, Fun K "_law_pen" "_law_pen" (top 31) (He.ga K "_law_pen") fd := W.c.fun_ 16 (d := ⟨fun K => He.ga K "_law_pen", "_law_pen", "_law_pen", top 31⟩)
theorem Wld.fn__law_draw (W : Wld K mg) : ∃ fd, Fun K "_law_draw" "_law_draw" (top 32) (He.ga K "_law_draw") fd := W.c.fun_ 17 (d := ⟨fun K => He.ga K "_law_draw", "_law_draw", "_law_draw", top 32⟩)
theorem Wld.fn__law_pick (W : Wld K mg) : ∃ fd, Fun K "_law_pick" "_law_pick" (top 33) (He.ga K "_law_pick") fd := W.c.fun_ 18 (d := ⟨fun K => He.ga K "_law_pick", "_law_pick", "_law_pick", top 33⟩)
theorem Wld.fn__law_shuffled (W : Wld K mg) : ∃ fd, Fun K "_law_shuffled" "_law_shuffled" (top 34) (He.ga K "_law_shuffled") fd := W.c.fun_ 19 (d := ⟨fun K => He.ga K "_law_shuffled", "_law_shuffled", "_law_shuffled", top 34⟩)
theorem Wld.fn__law_words (W : Wld K mg) : ∃ fd, Fun K "_law_words" "_law_words" (top 35) (He.ga K "_law_words") fd := W.c.fun_ 20 (d := ⟨fun K => He.ga K "_law_words", "_law_words", "_law_words", top 35⟩)
theorem Wld.fn__law_count (W : Wld K mg) : ∃ fd, Fun K "_law_count" "_law_count" (top 36) (He.ga K "_law_count") fd := W.c.fun_ 21 (d := ⟨fun K => He.ga K "_law_count", "_law_count", "_law_count", top 36⟩)
theorem Wld.fn__law_counts (W : Wld K mg) : ∃ fd, Fun K "_law_counts" "_law_counts" (top 37) (He.ga K "_law_counts") fd := W.c.fun_ 22 (d := ⟨fun K => He.ga K "_law_counts", "_law_counts", "_law_counts", top 37⟩)
theorem Wld.fn__law_clean (W : Wld K mg) : ∃ fd, Fun K "_law_clean" "_law_clean" (top 38) (He.ga K "_law_clean") fd := W.c.fun_ 23 (d := ⟨fun K => He.ga K "_law_clean", "_law_clean", "_law_clean", top 38⟩)
theorem Wld.fn__law_rows_of (W : Wld K mg) : ∃ fd, Fun K "_law_rows_of" "_law_rows_of" (top 39) (He.ga K "_law_rows_of") fd := W.c.fun_ 24 (d := ⟨fun K => He.ga K "_law_rows_of", "_law_rows_of", "_law_rows_of", top 39⟩)
theorem Wld.fn__law_some_drives (W : Wld K mg) : ∃ fd, Fun K "_law_some_drives" "_law_some_drives" (top 40) (He.ga K "_law_some_drives") fd := W.c.fun_ 25 (d := ⟨fun K => He.ga K "_law_some_drives", "_law_some_drives", "_law_some_drives", top 40⟩)
theorem Wld.fn__law_lines (W : Wld K mg) : ∃ fd, Fun K "_law_lines" "_law_lines" (top 41) (He.ga K "_law_lines") fd := W.c.fun_ 26 (d := ⟨fun K => He.ga K "_law_lines", "_law_lines", "_law_lines", top 41⟩)
/-! ### words and numbers -/
def sp_is_integer : DSp := fun ds M Q _ => ∃ i, ds = [.int i] ∧ Q (.bl true) M
theorem sc_is_integer : FnScope ["value"] ["value"] (defScope (top 4)) := ⟨rfl, rfl, rfl, by decide +kernel, rfl, by decide +kernel, by decide +kernel⟩
theorem kn_is_integer (W : Wld K mg) : Kn P w K mg base 1 (He.ga K "is_integer") ["value"] sp_is_integer := by
  refine kn_of W.fn_is_integer sc_is_integer (fun _ _ _ _ _ _ us hl => match us, hl with | [_], _ => rfl) ?_ fun cdv A outer s H E hr => ⟨_, (dss_one (ds_ret (de_and (de_callB (cd_isiK K rfl) (by rfl) (W.free_isinstance) (by rfl) (da_cons (dv 0) (da_cons (de_bltn (fun _ => .ty "int") (by rfl) (W.free_int) (by rfl) rfl) da_nil))) (de_one (de_not (de_callB (cd_isiK K rfl) (by rfl) (W.free_isinstance) (by rfl) (da_cons (dv 0) (da_cons (de_bltn (fun _ => .ty "bool") (by rfl) (W.free_bool) (by rfl) rfl) da_nil)))))))), ?_⟩
  · rintro ds M R E ⟨i, rfl, q⟩; rfl
  rintro ds M R F ⟨i, rfl, q⟩
  show dRet _ _ [some (.int i)] _
  with_reducible conv => whnf
  refine ⟨_, _, true, rfl, rfl, (fun C e => by cases e), rfl, ?_⟩
  with_reducible conv => whnf
  refine ⟨_, _, false, rfl, rfl, (fun C e => by cases e), W.kit_int_bool_false, ?_⟩
  with_reducible conv => whnf
  exact Rf.of q
theorem fm_true (l : List DV) : l.filterMap (fun _ => some (DV.bl true)) = (List.replicate l.length true).map DV.bl := by
  induction l with
  | nil => rfl
  | cons a l ih => simp [ih, List.replicate_succ]
theorem all_true (n : Nat) : (List.replicate n true).all id = true := by simp
/-- a word: one to eight of the letters a to z -/
def Wd (x : PySem.Str) : Prop := (1 ≤ x.length ∧ x.length ≤ 8) ∧ ∀ c ∈ x.cps.toList, 97 ≤ c ∧ c ≤ 122
def sp_is_word : DSp := fun ds M Q _ => ∃ x, ds = [.str x] ∧ Wd x ∧ Q (.bl true) M
theorem sc_is_word : FnScope ["value", "letter"] ["value"] (defScope (top 5)) := ⟨rfl, rfl, rfl, by decide +kernel, rfl, by decide +kernel, by decide +kernel⟩
theorem kn_is_word (W : Wld K mg) : Kn P w K mg base 1 (He.ga K "is_word") ["value"] sp_is_word := by
  refine kn_of W.fn_is_word sc_is_word (fun _ _ _ _ _ _ us hl => match us, hl with | [_], _ => rfl) ?_ fun cdv A outer s H E hr => ⟨_, (dss_cons (ds_if (DW.dt (dw_or (dt_not (dt_val (de_callB (cd_isiK K rfl) (by rfl) (W.free_isinstance) (by rfl) (da_cons (dv 0) (da_cons (de_bltn (fun _ => .ty "str") (by rfl) (W.free_str) (by rfl) rfl) da_nil))))) (dw_or1 (dt_not (dt_chain od_le od_le de_int (de_callB cd_len (by rfl) (W.free_len) (by rfl) (da_cons (dv 0) da_nil)) (de_globI (W.int_MOST_LETTERS) (by rfl))))))) (dss_one (ds_ret de_bl)) dss_nil)
      (dss_one (ds_ret (de_callB (cd_all rfl) (by rfl) (W.free_all) (by rfl) (da_cons (de_lc [("letter", 1)] rfl sc_is_word.nd (di_any (dv 0)) (by rfl) (fun _ _ _ _ _ => (dg_name 1 sc_is_word.nd)) (fun _ _ _ _ _ => dts_nil) (fun _ _ _ _ _ => (de_cmp (od_inS) (dv 1) (de_globS (W.str_LETTERS) (by rfl))))) da_nil))))), ?_⟩
  · rintro ds M R E ⟨i, rfl, q⟩; rfl
  rintro ds M R F ⟨x, rfl, hx, q⟩
  show dSeq _ _ _ [some (.str x), none] _
  with_reducible conv => whnf
  refine ⟨_, _, true, rfl, rfl, (fun C e => by cases e), rfl, ?_⟩
  with_reducible conv => whnf
  refine cnd_f ?_
  with_reducible conv => whnf
  refine ⟨Nat.le_trans hx.1.2 (by decide), ?_⟩
  with_reducible conv => whnf
  refine cnd_d (fun _ => ?_) (fun n => absurd (show (1 : Int) ≤ (x.length : Nat) by have := hx.1.1; omega) n)
  with_reducible conv => whnf
  refine cnd_nd (fun n => absurd (show ((x.length : Nat) : Int) ≤ 8 by have := hx.1.2; omega) n) fun _ => ?_
  with_reducible conv => whnf
  refine LcI.pure (fun _ => some (.bl true)) (fun d hd K1 K0 h1 _ => ?_) ?_ ?_
  · obtain ⟨c, hc, rfl⟩ := List.mem_map.mp hd
    with_reducible conv => whnf
    refine ⟨c, rfl, ?_⟩
    have e : decide (c ∈ ("abcdefghijklmnopqrstuvwxyz" : PySem.Str).cps.toList) = true := by
      obtain ⟨h1, h2⟩ := hx.2 c hc
      have key : ∀ n, n < 26 → decide (97 + n ∈ ("abcdefghijklmnopqrstuvwxyz" : PySem.Str).cps.toList) = true := by decide +kernel
      have z := key (c - 97) (by omega)
      rw [show 97 + (c - 97) = c from by omega] at z
      exact z
    rw [e]
    exact h1 _ rfl
  · have := hx.1.2
    have e : (signsD x).length = x.length := by unfold signsD PySem.Str.length; simp
    rw [e, sizeLine_eq]; omega
  · with_reducible conv => whnf
    have e : ∀ l : List DV, l.filterMap (fun _ => some (DV.bl true)) = (List.replicate l.length true).map DV.bl := fun l => by
      induction l with
      | nil => rfl
      | cons a l ih => simp [ih, List.replicate_succ]
    refine ⟨_, e _, ?_⟩
    with_reducible conv => whnf
    have e2 : (List.replicate (signsD x).length true).all id = true := by simp
    rw [e2]
    exact Rf.of q
/-! ### counts -/
abbrev CT := List (PySem.Str × Int)
abbrev tK (c : CT) : List (Key × DV) := c.map fun p => (Sum.inr p.1, DV.int p.2)
abbrev tD (c : CT) : DV := .dK (tK c)
def getC (c : CT) (k : PySem.Str) : Int := (c.lookup k).getD 0
def Good (c : CT) : Prop := (c.map Prod.fst).Nodup ∧ c.length ≤ 1000
theorem valD_tK {k : PySem.Str} : ∀ {c : CT}, k ∈ c.map Prod.fst → valD (tK c) (Sum.inr k) = some (.int (getC c k))
  | [], h => by simp at h
  | (a, i) :: c, h => by
    unfold valD tK getC
    rw [List.map_cons, List.find?_cons, List.lookup_cons]
    by_cases e : a = k
    · subst e; simp
    · have e1 : decide ((Sum.inr a : Key) = Sum.inr k) = false := decide_eq_false fun z => e (Sum.inr.inj z)
      have e2 : (k == a) = false := by simpa using fun z : k = a => e z.symm
      simp only [e1, e2]
      have ih := valD_tK (c := c) (k := k) (by
        rw [List.map_cons, List.mem_cons] at h
        exact h.resolve_left fun z => e z.symm)
      exact ih
theorem tK_fst (c : CT) : (tK c).map Prod.fst = (c.map Prod.fst).map Sum.inr := by simp [tK]
def clean (c : CT) : CT := ((sortS (c.map Prod.fst)).filter fun k => getC c k != 0).map fun k => (k, getC c k)
theorem mem_sorted {c : CT} {k : PySem.Str} : k ∈ sortS (c.map Prod.fst) ↔ k ∈ c.map Prod.fst := (sortS_perm _).mem_iff
theorem clean_fst (c : CT) : (clean c).map Prod.fst = (sortS (c.map Prod.fst)).filter fun k => getC c k != 0 := by
  unfold clean
  rw [List.map_map]
  exact (List.map_congr_left fun _ _ => rfl).trans (List.map_id _)
theorem good_clean {c : CT} (h : Good c) : Good (clean c) := by
  refine ⟨?_, ?_⟩
  · rw [clean_fst]
    exact (((sortS_perm _).nodup_iff).mpr h.1).filter _
  · unfold clean
    rw [List.length_map]
    have h1 := List.length_filter_le (fun k => getC c k != 0) (sortS (c.map Prod.fst))
    rw [(sortS_perm _).length_eq, List.length_map] at h1
    have := h.2
    omega
theorem fm_clean (c : CT) (l : List PySem.Str) : (l.map DV.str).filterMap (fun d => match d with
    | .str k => if getC c k != 0 then some (Sum.inr k, DV.int (getC c k)) else none
    | _ => none) = tK ((l.filter fun k => getC c k != 0).map fun k => (k, getC c k)) := by
  induction l with
  | nil => rfl
  | cons k l ih =>
    rw [List.map_cons, List.filterMap_cons, List.filter_cons]
    by_cases h : (getC c k != 0) = true
    · simp only [h, if_true, ih, List.map_cons]
    · simp only [h, if_false, ih, Bool.false_eq_true]
def sp_without_zeros : DSp := fun ds M Q _ => ∃ c, ds = [tD c] ∧ Good c ∧ Q (tD (clean c)) M
theorem ssd_len {c : CT} (g : Good c) : (tK c).length + 1 < scanBound := by
  have := g.2
  unfold scanBound
  rw [List.length_map]
  omega
theorem keys_len {c : CT} (g : Good c) : ((sortS (c.map Prod.fst)).map DV.str).length ≤ sizeLine := by
  rw [List.length_map, (sortS_perm _).length_eq, List.length_map, sizeLine_eq]
  have := g.2
  omega
theorem sc_without_zeros : FnScope ["counts", "kind"] ["counts"] (defScope (top 21)) := ⟨rfl, rfl, rfl, by decide +kernel, rfl, by decide +kernel, by decide +kernel⟩
theorem kn_without_zeros (W : Wld K mg) : Kn P w K mg base 1 (He.ga K "without_zeros") ["counts"] sp_without_zeros := by
  refine kn_of W.fn_without_zeros sc_without_zeros (fun _ _ _ _ _ _ us hl => match us, hl with | [_], _ => rfl) ?_ fun cdv A outer s H E hr => ⟨_, (dss_one (ds_ret (de_dc [("kind", 1)] rfl sc_without_zeros.nd (di_any (de_ssd rfl hr.units (by rfl) (W.free_sorted) (by rfl) (W.free_set) (dv 0))) (by rfl) (fun _ _ _ _ _ => (dg_name 1 sc_without_zeros.nd)) (fun _ _ _ _ _ => (dts_one (dt_cmp (od_neU hr.units) (de_ixD hr.units (dv 0) (dv 1)) de_int))) (fun _ _ _ _ _ => (dv 1)) (fun _ _ _ _ _ => (de_ixD hr.units (dv 0) (dv 1)))))), ?_⟩
  · rintro ds M R E ⟨i, rfl, q⟩; rfl
  rintro ds M R F ⟨c, rfl, g, q⟩
  show dRet _ _ [some (tD c), none] _
  with_reducible conv => whnf
  refine ⟨c.map Prod.fst, tK_fst c, ssd_len g, fun _ => ?_⟩
  with_reducible conv => whnf
  refine DcI.pure (fun d => match d with
    | .str k => if getC c k != 0 then some (Sum.inr k, DV.int (getC c k)) else none
    | _ => none) (fun d hd K1 K0 h1 h0 => ?_) (keys_len g) ?_ ?_
  · obtain ⟨k, hk, rfl⟩ := List.mem_map.mp hd
    have hv := valD_tK (mem_sorted.mp hk)
    with_reducible conv => whnf
    refine ⟨Sum.inr k, _, rfl, hv, ?_⟩
    with_reducible conv => whnf
    refine cnd_nd (fun n => ?_) (fun n => ?_)
    · with_reducible conv => whnf
      refine ⟨Sum.inr k, _, rfl, hv, ?_⟩
      with_reducible conv => whnf
      exact h1 (Sum.inr k) (.int (getC c k)) (by simp [n])
    · with_reducible conv => whnf
      exact h0 (by simp [n])
  · rw [fm_clean]
    show ((tK (clean c)).map Prod.fst).Nodup
    rw [tK_fst]
    exact List.Pairwise.map Sum.inr (fun a b h e => h (Sum.inr.inj e)) (good_clean g).1
  · rw [fm_clean]
    exact Rf.of q
def sp_checked : DSp := fun ds M Q _ => ∃ c, ds = [tD c] ∧ Good c ∧ (∀ k ∈ c.map Prod.fst, Wd k) ∧ Q (tD (clean c)) M
theorem sc_checked : FnScope ["counts", "kind"] ["counts"] (defScope (top 22)) := ⟨rfl, rfl, rfl, by decide +kernel, rfl, by decide +kernel, by decide +kernel⟩
theorem kn_checked (W : Wld K mg) : Kn P w K mg base 2 (He.ga K "checked") ["counts"] sp_checked := by
  refine kn_of W.fn_checked sc_checked (fun _ _ _ _ _ _ us hl => match us, hl with | [_], _ => rfl) ?_ fun cdv A outer s H E hr => ⟨_, (dss_cons (ds_for PassesOwn.never rfl (di_any (de_ssd rfl hr.units (by rfl) (W.free_sorted) (by rfl) (W.free_set) (dv 0))) (dg_name 1 sc_checked.nd)
      (dss_one (ds_if (DW.dt (dw_or (dt_not (dt_val (de_callK (kn_is_word W) (hr.mono (by decide)) (by rfl) (W.glo_is_word) (da_cons (dv 1) da_nil)))) (dw_or1 (dt_not (dt_val (de_callK (kn_is_integer W) (hr.mono (by decide)) (by rfl) (W.glo_is_integer) (da_cons (de_ixD hr.units (dv 0) (dv 1)) da_nil))))))) (dss_one ds_never) dss_nil)))
      (dss_one (ds_ret (de_callK (kn_without_zeros W) (hr.mono (by decide)) (by rfl) (W.glo_without_zeros) (da_cons (dv 0) da_nil))))), ?_⟩
  · rintro ds M R E ⟨i, rfl, q⟩; rfl
  rintro ds M R F ⟨c, rfl, g, hw, q⟩
  show dSeq _ _ _ [some (tD c), none] _
  with_reducible conv => whnf
  refine ⟨c.map Prod.fst, tK_fst c, ssd_len g, fun _ => ?_⟩
  with_reducible conv => whnf
  refine for_by (fun i s2 M2 => (∃ x, s2 = [some (tD c), x]) ∧ M2 = M) ⟨⟨_, rfl⟩, rfl⟩ ?_ ?_
  · rintro i d s2 M2 hd ⟨⟨x, rfl⟩, rfl⟩
    obtain ⟨k, hk, rfl⟩ := List.mem_map.mp (List.mem_of_getElem? hd)
    have hk' := mem_sorted.mp hk
    with_reducible conv => whnf
    refine ⟨k, rfl, hw k hk', ?_⟩
    with_reducible conv => whnf
    refine cnd_f ?_
    with_reducible conv => whnf
    refine ⟨Sum.inr k, _, rfl, valD_tK hk', ?_⟩
    with_reducible conv => whnf
    refine ⟨_, rfl, ?_⟩
    with_reducible conv => whnf
    refine cnd_f ?_
    with_reducible conv => whnf
    exact ⟨⟨_, rfl⟩, rfl⟩
  · rintro s2 M2 ⟨⟨x, rfl⟩, rfl⟩
    with_reducible conv => whnf
    exact ⟨c, rfl, g, Rf.of q⟩
/-! ### loads -/
abbrev LoadA (K : Fg) : Addr := He.ga K "Load"
abbrev loadD (K : Fg) (c : CT) : DV := .obj (LoadA K) [("own_counts", tD c)]
def sp_Load___init__ (K : Fg) : DSp := fun ds M Q _ => ∃ x d p M1, ds = [.adr x, .tup [d], .adr p] ∧ M = updM (updM M1 x (.ins (LoadA K) [])) p (.dK []) ∧ M1 x = none ∧ p ≠ x ∧ M1 p = none ∧ Q .non (updM M1 x (.ins (LoadA K) [("own_counts", d)]))
theorem sc_Load___init__ : FnScope ["self", "known", "counts"] ["self", "known", "counts"] (defScope (inClass (top 23) 0)) := ⟨rfl, rfl, rfl, by decide +kernel, rfl, by decide +kernel, by decide +kernel⟩
theorem kn_Load___init__ (W : Wld K mg) : FnR P w K mg base CX0 3 (He.ma K (He.ga K "Load") "__init__") (liftSp (spStar 1 (sp_Load___init__ K))) := by
  refine kn_star (ps := ["self"]) (pv := "known") (pd := "counts") W.fn_Load___init__ sc_Load___init__ (fun _ _ _ _ _ _ us rest hl => match us, hl, rest with | [_], _, [] => rfl | [_], _, _ :: _ => rfl) fun cdv A outer s H E hr => ⟨_, (dss_one (ds_fld (He.ga K "Load") (W.cls_Load) (W.noat_Load_own_counts) (dv 0) (de_if (dt_cmp (od_eqU hr.units) (dv 1) (de_tup da_nil)) (de_callK (kn_checked W) (hr.mono (by decide)) (by rfl) (W.glo_checked) (da_cons (dv 2) da_nil)) (de_ix (dv 1) de_int)))), ?_⟩
  rintro ds M R F ⟨x, d, p, M1, rfl, rfl, h1, h2, h3, q⟩
  show dsFld _ _ _ _ _ [some (.adr x), some (.tup [d]), some (.adr p)] _
  with_reducible conv => whnf
  refine ⟨Nat.zero_le _, ?_⟩
  with_reducible conv => whnf
  refine cnd_f ?_
  with_reducible conv => whnf
  refine ⟨d, rfl, ?_⟩
  with_reducible conv => whnf
  refine ⟨[], ?_, by decide, ?_⟩
  · rw [updM_ne (Ne.symm h2), updM_same]
  · refine Rf.sub (fun a o e => ?_) q
    by_cases ha : a = x
    · subst ha
      rw [updM_same] at e ⊢
      exact e
    · rw [updM_ne ha] at e ⊢
      have hp : a ≠ p := fun z => by rw [z, h3] at e; cases e
      rw [updM_ne hp, updM_ne ha]
      exact e
theorem delM_updM {M : MM} {x : Addr} {m : MO} (h : M x = none) : delM (updM M x m) x = M := by
  funext a
  unfold delM updM
  by_cases e : a = x
  · subst e; simp [h]
  · simp [e]
def mkLoad (K : Fg) : DSp := fun ds M Q _ => ∃ c, ds = [tD c] ∧ Q (loadD K c) M
theorem mk_Load : Makes (LoadA K) (spStar 1 (sp_Load___init__ K)) (mkLoad K) := by
  rintro ds M Q x hx ⟨c, rfl, q⟩
  refine ⟨[.adr x], [tD c], rfl, rfl, (by show 1 ≤ sizeLine; decide), fun p hp => ?_⟩
  have hpx : p ≠ x := fun e => by rw [e, updM_same] at hp; cases hp
  rw [updM_ne hpx] at hp
  refine ⟨x, tD c, p, M, rfl, rfl, hx, hpx, hp, rfl, _, updM_same, ?_⟩
  rw [delM_updM hx]
  exact q
def sp_Load_of (K : Fg) : DSp := fun ds M Q _ => ∃ c, ds = [.adr (LoadA K), tD c] ∧ Good c ∧ (∀ k ∈ c.map Prod.fst, Wd k) ∧ Q (loadD K (clean c)) M
theorem all_strs (c : CT) : ((tK c).map fun p => keyD p.1) = (c.map Prod.fst).map DV.str := by
  induction c with
  | nil => rfl
  | cons a c ih => simp only [tK, List.map_cons] at ih ⊢; rw [ih]; rfl
theorem sc_Load_of : FnScope ["cls", "counts", "kind"] ["cls", "counts"] (defScope (inClass (top 23) 1)) := ⟨rfl, rfl, rfl, by decide +kernel, rfl, by decide +kernel, by decide +kernel⟩
theorem kn_Load_of (W : Wld K mg) : Kn P w K mg base 5 (D.cgA K (He.ga K "Load") "of") ["cls", "counts"] (sp_Load_of K) := by
  refine kn_of W.fn_Load_of sc_Load_of (fun _ _ _ _ _ _ us hl => match us, hl with | [_, _], _ => rfl) ?_ fun cdv A outer s H E hr => ⟨_, (dss_cons (ds_if (DW.dt (dw_or (dt_not (dt_val (de_callB (cd_isiK K rfl) (by rfl) (W.free_isinstance) (by rfl) (da_cons (dv 1) (da_cons (de_bltn (fun _ => .ty "dict") (by rfl) (W.free_dict) (by rfl) rfl) da_nil))))) (dw_or1 (dt_not (dt_val (de_callB (cd_all rfl) (by rfl) (W.free_all) (by rfl) (da_cons (de_lc [("kind", 2)] rfl sc_Load_of.nd (di_any (dv 1)) (by rfl) (fun _ _ _ _ _ => (dg_name 2 sc_Load_of.nd)) (fun _ _ _ _ _ => dts_nil) (fun _ _ _ _ _ => (de_callB (cd_isiK K rfl) (by rfl) (W.free_isinstance) (by rfl) (da_cons (dv 2) (da_cons (de_bltn (fun _ => .ty "str") (by rfl) (W.free_str) (by rfl) rfl) da_nil))))) da_nil))))))) (dss_one ds_never) dss_nil)
      (dss_one (ds_ret (de_makeL 0 mk_Load (W.mkr_Load) (kn_Load___init__ W) (hr.mono (by decide)) (da_cons (de_callK (kn_checked W) (hr.mono (by decide)) (by rfl) (W.glo_checked) (da_cons (dv 1) da_nil)) da_nil))))), ?_⟩
  · rintro ds M R E ⟨i, rfl, q⟩; rfl
  rintro ds M R F ⟨c, rfl, g, hw, q⟩
  show dSeq _ _ _ [some (.adr (LoadA K)), some (tD c), none] _
  with_reducible conv => whnf
  refine ⟨_, _, true, rfl, rfl, (fun C e => by cases e), rfl, ?_⟩
  with_reducible conv => whnf
  refine cnd_f ?_
  with_reducible conv => whnf
  refine LcI.pure (fun _ => some (.bl true)) (fun d hd K1 K0 h1 _ => ?_) ?_ ?_
  · rw [all_strs] at hd
    obtain ⟨k, hk, rfl⟩ := List.mem_map.mp hd
    with_reducible conv => whnf
    refine ⟨_, _, true, rfl, rfl, (fun C e => by cases e), rfl, ?_⟩
    with_reducible conv => whnf
    exact h1 _ rfl
  · rw [all_strs, List.length_map, List.length_map, sizeLine_eq]
    have := g.2
    omega
  · with_reducible conv => whnf
    refine ⟨_, fm_true _, ?_⟩
    with_reducible conv => whnf
    rw [all_true]
    refine cnd_f ?_
    with_reducible conv => whnf
    refine ⟨rfl, ?_⟩
    with_reducible conv => whnf
    refine ⟨c, rfl, g, hw, ?_⟩
    with_reducible conv => whnf
    exact ⟨clean c, rfl, Rf.of q⟩
def sp_Load_counts (K : Fg) : DSp := fun ds M Q _ => ∃ c, ds = [loadD K c] ∧ Q (tD c) M
theorem sc_Load_counts : FnScope ["self"] ["self"] (defScope (inClass (top 23) 5)) := ⟨rfl, rfl, rfl, by decide +kernel, rfl, by decide +kernel, by decide +kernel⟩
theorem kn_Load_counts (W : Wld K mg) : Kn P w K mg base 1 (D.pgA K (He.ga K "Load") "counts") ["self"] (sp_Load_counts K) := by
  refine kn_of W.fn_Load_counts sc_Load_counts (fun _ _ _ _ _ _ us hl => match us, hl with | [_], _ => rfl) ?_ fun cdv A outer s H E hr => ⟨_, (dss_one (ds_ret (de_callTy cd_dictD (by rfl) (W.free_dict) (by rfl) (da_cons (de_fld (He.ga K "Load") ["own_counts"] 0 (W.cls_Load) (W.noat_Load_own_counts) (dv 0)) da_nil)))), ?_⟩
  · rintro ds M R E ⟨i, rfl, q⟩; rfl
  rintro ds M R F ⟨c, rfl, q⟩
  show dRet _ _ [some (loadD K c)] _
  with_reducible conv => whnf
  refine ⟨⟨rfl, rfl⟩, ?_⟩
  with_reducible conv => whnf
  exact Rf.of q
def sp_Load___len__ (K : Fg) : DSp := fun ds M Q _ => ∃ c, ds = [loadD K c] ∧ Q (.int c.length) M
theorem sc_Load___len__ : FnScope ["self"] ["self"] (defScope (inClass (top 23) 12)) := ⟨rfl, rfl, rfl, by decide +kernel, rfl, by decide +kernel, by decide +kernel⟩
theorem kn_Load___len__ (W : Wld K mg) : Kn P w K mg base 1 (He.ma K (He.ga K "Load") "__len__") ["self"] (sp_Load___len__ K) := by
  refine kn_of W.fn_Load___len__ sc_Load___len__ (fun _ _ _ _ _ _ us hl => match us, hl with | [_], _ => rfl) ?_ fun cdv A outer s H E hr => ⟨_, (dss_one (ds_ret (de_callB cd_len (by rfl) (W.free_len) (by rfl) (da_cons (de_fld (He.ga K "Load") ["own_counts"] 0 (W.cls_Load) (W.noat_Load_own_counts) (dv 0)) da_nil)))), ?_⟩
  · rintro ds M R E ⟨i, rfl, q⟩; rfl
  rintro ds M R F ⟨c, rfl, q⟩
  show dRet _ _ [some (loadD K c)] _
  with_reducible conv => whnf
  refine ⟨⟨rfl, rfl⟩, ?_⟩
  with_reducible conv => whnf
  have e : (tK c).length = c.length := List.length_map _
  rw [e]
  exact Rf.of q
def sp_Load___bool__ (K : Fg) : DSp := fun ds M Q _ => ∃ c, ds = [loadD K c] ∧ Q (.bl (!c.isEmpty)) M
theorem sc_Load___bool__ : FnScope ["self"] ["self"] (defScope (inClass (top 23) 13)) := ⟨rfl, rfl, rfl, by decide +kernel, rfl, by decide +kernel, by decide +kernel⟩
theorem kn_Load___bool__ (W : Wld K mg) : Kn P w K mg base 1 (He.ma K (He.ga K "Load") "__bool__") ["self"] (sp_Load___bool__ K) := by
  refine kn_of W.fn_Load___bool__ sc_Load___bool__ (fun _ _ _ _ _ _ us hl => match us, hl with | [_], _ => rfl) ?_ fun cdv A outer s H E hr => ⟨_, (dss_one (ds_ret (de_callTy cd_boolD (by rfl) (W.free_bool) (by rfl) (da_cons (de_fld (He.ga K "Load") ["own_counts"] 0 (W.cls_Load) (W.noat_Load_own_counts) (dv 0)) da_nil)))), ?_⟩
  · rintro ds M R E ⟨i, rfl, q⟩; rfl
  rintro ds M R F ⟨c, rfl, q⟩
  show dRet _ _ [some (loadD K c)] _
  with_reducible conv => whnf
  refine ⟨⟨rfl, rfl⟩, ?_⟩
  with_reducible conv => whnf
  have e : (tK c).isEmpty = c.isEmpty := by cases c <;> rfl
  rw [e]
  exact Rf.of q
def sp_load_of (K : Fg) : DSp := fun ds M Q _ => ∃ c, ds = [tD c] ∧ Good c ∧ Q (loadD K (clean c)) M
theorem sc_load_of : FnScope ["counts"] ["counts"] (defScope (top 24)) := ⟨rfl, rfl, rfl, by decide +kernel, rfl, by decide +kernel, by decide +kernel⟩
theorem kn_load_of (W : Wld K mg) : Kn P w K mg base 5 (He.ga K "load_of") ["counts"] (sp_load_of K) := by
  refine kn_of W.fn_load_of sc_load_of (fun _ _ _ _ _ _ us hl => match us, hl with | [_], _ => rfl) ?_ fun cdv A outer s H E hr => ⟨_, (dss_one (ds_ret (de_makeR mk_Load (W.mkr_Load) (kn_Load___init__ W) (hr.mono (by decide)) (by rfl) (W.glo_Load) (da_cons (de_callK (kn_without_zeros W) (hr.mono (by decide)) (by rfl) (W.glo_without_zeros) (da_cons (dv 0) da_nil)) da_nil)))), ?_⟩
  · rintro ds M R E ⟨i, rfl, q⟩; rfl
  rintro ds M R F ⟨c, rfl, g, q⟩
  show dRet _ _ [some (tD c)] _
  with_reducible conv => whnf
  refine ⟨c, rfl, g, ?_⟩
  with_reducible conv => whnf
  exact ⟨clean c, rfl, Rf.of q⟩
end K87

set_option Elab.async false
set_option linter.all false
set_option maxRecDepth 100000
set_option maxHeartbeats 4000000
namespace K87
open PySem PySem.Spec PyProof.Rows L2 D
variable {P : Program} {w : World} {K : Fg} {mg : PySem.Str → Option Value} {base : Heap}
def posC (c : CT) : CT := c.filter fun p => decide (0 < p.2)
def negC (c : CT) : CT := (c.filter fun p => decide (p.2 < 0)).map fun p => (p.1, -p.2)
theorem good_pos {c : CT} (h : Good c) : Good (posC c) := by
  refine ⟨List.Nodup.sublist (List.Sublist.map _ List.filter_sublist) h.1, Nat.le_trans (List.length_filter_le _ _) h.2⟩
theorem good_neg {c : CT} (h : Good c) : Good (negC c) := by
  refine ⟨?_, ?_⟩
  · unfold negC
    rw [List.map_map]
    exact List.Nodup.sublist (List.Sublist.map _ List.filter_sublist) h.1
  · unfold negC
    rw [List.length_map]
    exact Nat.le_trans (List.length_filter_le _ _) h.2
def sp_Load_positive (K : Fg) : DSp := fun ds M Q _ => ∃ c, ds = [loadD K c] ∧ Good c ∧ Q (loadD K (clean (posC c))) M
def fPos (d : DV) : Option (Key × DV) := match d with
  | .tup [.str k, .int v] => if 0 < v then some (Sum.inr k, DV.int v) else none
  | _ => none
def fNeg (d : DV) : Option (Key × DV) := match d with
  | .tup [.str k, .int v] => if v < 0 then some (Sum.inr k, DV.int (-v)) else none
  | _ => none
theorem fPos_eq (k : PySem.Str) (v : Int) : fPos (.tup [keyD (Sum.inr k), .int v]) = if 0 < v then some (Sum.inr k, DV.int v) else none := rfl
theorem fNeg_eq (k : PySem.Str) (v : Int) : fNeg (.tup [keyD (Sum.inr k), .int v]) = if v < 0 then some (Sum.inr k, DV.int (-v)) else none := rfl
theorem fm_pos (c : CT) : ((tK c).map fun p => DV.tup [keyD p.1, p.2]).filterMap fPos = tK (posC c) := by
  induction c with
  | nil => rfl
  | cons a c ih =>
    unfold posC tK at *
    rw [List.map_cons, List.map_cons, List.filterMap_cons, List.filter_cons, fPos_eq]
    by_cases h : 0 < a.2
    · simp only [h, if_true, decide_true, ih, List.map_cons]
    · simp only [h, if_false, decide_false, ih, Bool.false_eq_true]
theorem fm_neg (c : CT) : ((tK c).map fun p => DV.tup [keyD p.1, p.2]).filterMap fNeg = tK (negC c) := by
  induction c with
  | nil => rfl
  | cons a c ih =>
    unfold negC tK at *
    rw [List.map_cons, List.map_cons, List.filterMap_cons, List.filter_cons, fNeg_eq]
    by_cases h : a.2 < 0
    · simp only [h, if_true, decide_true, ih, List.map_cons]
    · simp only [h, if_false, decide_false, ih, Bool.false_eq_true]
theorem sc_Load_positive : FnScope ["self", "kind", "count"] ["self"] (defScope (inClass (top 23) 7)) := ⟨rfl, rfl, rfl, by decide +kernel, rfl, by decide +kernel, by decide +kernel⟩
theorem kn_Load_positive (W : Wld K mg) : Kn P w K mg base 6 (D.pgA K (He.ga K "Load") "positive") ["self"] (sp_Load_positive K) := by
  refine kn_of W.fn_Load_positive sc_Load_positive (fun _ _ _ _ _ _ us hl => match us, hl with | [_], _ => rfl) ?_ fun cdv A outer s H E hr => ⟨_, (dss_one (ds_ret (de_callK (kn_load_of W) (hr.mono (by decide)) (by rfl) (W.glo_load_of) (da_cons (de_dc [("kind", 1), ("count", 2)] rfl sc_Load_positive.nd (di_items (de_fld (He.ga K "Load") ["own_counts"] 0 (W.cls_Load) (W.noat_Load_own_counts) (dv 0))) (by rfl) (fun _ _ _ _ _ => (dg_tup (n := 2) rfl (dgs_cons (dg_name 1 sc_Load_positive.nd) (dgs_cons (dg_name 2 sc_Load_positive.nd) (dgs_nil (vs := [])))))) (fun _ _ _ _ _ => (dts_one (dt_cmp od_gt (dv 2) de_int))) (fun _ _ _ _ _ => (dv 1)) (fun _ _ _ _ _ => (dv 2))) da_nil)))), ?_⟩
  · rintro ds M R E ⟨i, rfl, q⟩; rfl
  rintro ds M R F ⟨c, rfl, g, q⟩
  show dRet _ _ [some (loadD K c), none, none] _
  with_reducible conv => whnf
  refine ⟨⟨rfl, rfl⟩, ?_⟩
  with_reducible conv => whnf
  refine DcI.pure fPos (fun d hd K1 K0 h1 h0 => ?_) ?_ ?_ ?_
  · obtain ⟨a, ha, rfl⟩ := List.mem_map.mp hd
    obtain ⟨p, hp, rfl⟩ := List.mem_map.mp ha
    with_reducible conv => whnf
    refine cnd_d (fun h => ?_) (fun h => ?_)
    · with_reducible conv => whnf
      exact h1 (Sum.inr p.1) _ ((fPos_eq p.1 p.2).trans (if_pos h))
    · exact h0 ((fPos_eq p.1 p.2).trans (if_neg h))
  · rw [List.length_map, List.length_map, sizeLine_eq]
    have := g.2
    omega
  · rw [fm_pos, tK_fst]
    exact List.Pairwise.map Sum.inr (fun a b h e => h (Sum.inr.inj e)) (good_pos g).1
  · rw [fm_pos]
    with_reducible conv => whnf
    exact ⟨posC c, rfl, good_pos g, Rf.of q⟩
def sp_Load_negative (K : Fg) : DSp := fun ds M Q _ => ∃ c, ds = [loadD K c] ∧ Good c ∧ Q (loadD K (clean (negC c))) M
theorem sc_Load_negative : FnScope ["self", "kind", "count"] ["self"] (defScope (inClass (top 23) 8)) := ⟨rfl, rfl, rfl, by decide +kernel, rfl, by decide +kernel, by decide +kernel⟩
theorem kn_Load_negative (W : Wld K mg) : Kn P w K mg base 6 (D.pgA K (He.ga K "Load") "negative") ["self"] (sp_Load_negative K) := by
  refine kn_of W.fn_Load_negative sc_Load_negative (fun _ _ _ _ _ _ us hl => match us, hl with | [_], _ => rfl) ?_ fun cdv A outer s H E hr => ⟨_, (dss_one (ds_ret (de_callK (kn_load_of W) (hr.mono (by decide)) (by rfl) (W.glo_load_of) (da_cons (de_dc [("kind", 1), ("count", 2)] rfl sc_Load_negative.nd (di_items (de_fld (He.ga K "Load") ["own_counts"] 0 (W.cls_Load) (W.noat_Load_own_counts) (dv 0))) (by rfl) (fun _ _ _ _ _ => (dg_tup (n := 2) rfl (dgs_cons (dg_name 1 sc_Load_negative.nd) (dgs_cons (dg_name 2 sc_Load_negative.nd) (dgs_nil (vs := [])))))) (fun _ _ _ _ _ => (dts_one (dt_cmp od_lt (dv 2) de_int))) (fun _ _ _ _ _ => (dv 1)) (fun _ _ _ _ _ => (de_neg (dv 2)))) da_nil)))), ?_⟩
  · rintro ds M R E ⟨i, rfl, q⟩; rfl
  rintro ds M R F ⟨c, rfl, g, q⟩
  show dRet _ _ [some (loadD K c), none, none] _
  with_reducible conv => whnf
  refine ⟨⟨rfl, rfl⟩, ?_⟩
  with_reducible conv => whnf
  refine DcI.pure fNeg (fun d hd K1 K0 h1 h0 => ?_) ?_ ?_ ?_
  · obtain ⟨a, ha, rfl⟩ := List.mem_map.mp hd
    obtain ⟨p, hp, rfl⟩ := List.mem_map.mp ha
    with_reducible conv => whnf
    refine cnd_d (fun h => ?_) (fun h => ?_)
    · with_reducible conv => whnf
      exact h1 (Sum.inr p.1) _ ((fNeg_eq p.1 p.2).trans (if_pos h))
    · exact h0 ((fNeg_eq p.1 p.2).trans (if_neg h))
  · rw [List.length_map, List.length_map, sizeLine_eq]
    have := g.2
    omega
  · rw [fm_neg, tK_fst]
    exact List.Pairwise.map Sum.inr (fun a b h e => h (Sum.inr.inj e)) (good_neg g).1
  · rw [fm_neg]
    with_reducible conv => whnf
    exact ⟨negC c, rfl, good_neg g, Rf.of q⟩
/-! ### notes -/
theorem clean_nil : clean [] = [] := by simp [clean, sortS]
theorem neg_nil {c : CT} (h : ∀ p ∈ c, 0 < p.2) : negC c = [] := by
  unfold negC
  rw [List.filter_eq_nil_iff.mpr (fun p hp => by have := h p hp; simp; omega)]
  rfl
def sp_is_delivered (K : Fg) : DSp := fun ds M Q _ => ∃ c, ds = [loadD K c] ∧ Good c ∧ c ≠ [] ∧ (∀ p ∈ c, 0 < p.2) ∧ Q (.bl true) M
theorem sc_is_delivered : FnScope ["value"] ["value"] (defScope (top 26)) := ⟨rfl, rfl, rfl, by decide +kernel, rfl, by decide +kernel, by decide +kernel⟩
theorem kn_is_delivered (W : Wld K mg) : Kn P w K mg base 8 (He.ga K "is_delivered") ["value"] (sp_is_delivered K) := by
  refine kn_of W.fn_is_delivered sc_is_delivered (fun _ _ _ _ _ _ us hl => match us, hl with | [_], _ => rfl) ?_ fun cdv A outer s H E hr => ⟨_, (dss_one (ds_ret (de_and (de_callB (cd_isiK K rfl) (by rfl) (W.free_isinstance) (by rfl) (da_cons (dv 0) (da_cons (de_globA (W.glo_Load) (by rfl)) da_nil))) (de_and (de_cmp od_gt (de_callB (cd_lenO (names := ["own_counts"]) (W.dun_Load___len__) (kn_Load___len__ W).fnd (hr.mono (by decide))) (by rfl) (W.free_len) (by rfl) (da_cons (dv 0) da_nil)) de_int) (de_one (de_cmp (od_eqU hr.units) (de_callB (cd_lenO (names := ["own_counts"]) (W.dun_Load___len__) (kn_Load___len__ W).fnd (hr.mono (by decide))) (by rfl) (W.free_len) (by rfl) (da_cons (de_propK (W.cls_Load) (W.prop_Load_negative) (kn_Load_negative W) (hr.mono (by decide)) (dv 0)) da_nil)) de_int)))))), ?_⟩
  · rintro ds M R E ⟨i, rfl, q⟩; rfl
  rintro ds M R F ⟨c, rfl, g, hne, hp, q⟩
  show dRet _ _ [some (loadD K c)] _
  with_reducible conv => whnf
  refine ⟨_, _, true, rfl, rfl, (fun C e => by cases e; exact W.isok_Load), W.kit_Load_Load_true, ?_⟩
  with_reducible conv => whnf
  refine ⟨⟨rfl, rfl⟩, c, rfl, ⟨by omega, by have := g.2; omega⟩, ?_⟩
  with_reducible conv => whnf
  refine cnd_d (fun _ => ?_) (fun n => absurd (show (0 : Int) < (c.length : Nat) by cases c with
    | nil => exact absurd rfl hne
    | cons a c => rw [List.length_cons]; omega) n)
  with_reducible conv => whnf
  refine ⟨rfl, c, rfl, g, ?_⟩
  with_reducible conv => whnf
  refine ⟨⟨rfl, rfl⟩, _, rfl, ⟨by omega, by rw [neg_nil hp, clean_nil]; decide⟩, ?_⟩
  with_reducible conv => whnf
  rw [neg_nil hp, clean_nil]
  exact Rf.of q
abbrev NoteA (K : Fg) : Addr := He.ga K "Note"
abbrev noteF (K : Fg) (n day : Int) (g t : PySem.Str) (c : CT) : List (PySem.Str × DV) := [("number", .int n), ("day", .int day), ("giver", .str g), ("taker", .str t), ("load", loadD K c)]
abbrev noteD (K : Fg) (n day : Int) (g t : PySem.Str) (c : CT) : DV := .obj (NoteA K) (noteF K n day g t c)
theorem putP_new {fs : List (PySem.Str × DV)} {f : PySem.Str} {d : DV} (h : f ∉ fs.map Prod.fst) : putP fs f d = fs ++ [(f, d)] := by
  induction fs with
  | nil => rfl
  | cons a fs ih =>
    simp only [List.map_cons, List.mem_cons, not_or] at h
    show (if a.1 = f then (a.1, d) :: fs else a :: putP fs f d) = _
    rw [if_neg (fun e => h.1 e.symm), ih h.2]
    rfl
abbrev nf1 (n : Int) : List (PySem.Str × DV) := [("number", .int n)]
abbrev nf2 (n day : Int) : List (PySem.Str × DV) := [("number", .int n), ("day", .int day)]
abbrev nf3 (n day : Int) (g : PySem.Str) : List (PySem.Str × DV) := [("number", .int n), ("day", .int day), ("giver", .str g)]
abbrev nf4 (n day : Int) (g t : PySem.Str) : List (PySem.Str × DV) := [("number", .int n), ("day", .int day), ("giver", .str g), ("taker", .str t)]
def OkN (n : Int) (g t : PySem.Str) (c : CT) : Prop := 1 ≤ n ∧ Wd g ∧ Wd t ∧ t ≠ g ∧ Good c ∧ c ≠ [] ∧ ∀ p ∈ c, 0 < p.2
def sp_Note___init__ (K : Fg) : DSp := fun ds M Q _ => ∃ x n day g t c, ds = [.adr x, .int n, .int day, .str g, .str t, loadD K c] ∧ M x = some (.ins (NoteA K) []) ∧ OkN n g t c ∧ Q .non (updM M x (.ins (NoteA K) (noteF K n day g t c)))
theorem sc_Note___init__ : FnScope ["self", "number", "day", "giver", "taker", "load"] ["self", "number", "day", "giver", "taker", "load"] (defScope (inClass (top 27) 0)) := ⟨rfl, rfl, rfl, by decide +kernel, rfl, by decide +kernel, by decide +kernel⟩
theorem kn_Note___init__ (W : Wld K mg) : Kn P w K mg base 9 (He.ma K (He.ga K "Note") "__init__") ["self", "number", "day", "giver", "taker", "load"] (sp_Note___init__ K) := by
  refine kn_of W.fn_Note___init__ sc_Note___init__ (fun _ _ _ _ _ _ us hl => match us, hl with | [_, _, _, _, _, _], _ => rfl) ?_ fun cdv A outer s H E hr => ⟨_, (dss_cons (ds_if (DW.dt (dw_or (dt_not (dt_val (de_callK (kn_is_integer W) (hr.mono (by decide)) (by rfl) (W.glo_is_integer) (da_cons (dv 1) da_nil)))) (dw_or1 (dt_cmp od_lt (dv 1) de_int)))) (dss_one ds_never) dss_nil)
      (dss_cons (ds_if (dt_not (dt_val (de_callK (kn_is_integer W) (hr.mono (by decide)) (by rfl) (W.glo_is_integer) (da_cons (dv 2) da_nil)))) (dss_one ds_never) dss_nil)
      (dss_cons (ds_if (dt_not (dt_val (de_callK (kn_is_word W) (hr.mono (by decide)) (by rfl) (W.glo_is_word) (da_cons (dv 3) da_nil)))) (dss_one ds_never) dss_nil)
      (dss_cons (ds_if (DW.dt (dw_or (dt_not (dt_val (de_callK (kn_is_word W) (hr.mono (by decide)) (by rfl) (W.glo_is_word) (da_cons (dv 4) da_nil)))) (dw_or1 (dt_cmp (od_eqU hr.units) (dv 4) (dv 3))))) (dss_one ds_never) dss_nil)
      (dss_cons (ds_if (dt_not (dt_val (de_callK (kn_is_delivered W) (hr.mono (by decide)) (by rfl) (W.glo_is_delivered) (da_cons (dv 5) da_nil)))) (dss_one ds_never) dss_nil)
      (dss_cons (ds_fld (He.ga K "Note") (W.cls_Note) (W.noat_Note_number) (dv 0) (dv 1))
      (dss_cons (ds_fld (He.ga K "Note") (W.cls_Note) (W.noat_Note_day) (dv 0) (dv 2))
      (dss_cons (ds_fld (He.ga K "Note") (W.cls_Note) (W.noat_Note_giver) (dv 0) (dv 3))
      (dss_cons (ds_fld (He.ga K "Note") (W.cls_Note) (W.noat_Note_taker) (dv 0) (dv 4))
      (dss_one (ds_fld (He.ga K "Note") (W.cls_Note) (W.noat_Note_load) (dv 0) (dv 5)))))))))))), ?_⟩
  · rintro ds M R E ⟨x, n, day, g, t, c, rfl, q⟩; rfl
  rintro ds M R F ⟨x, n, day, g, t, c, rfl, hM, ⟨h1, hg, ht, hne, gc, hc, hp⟩, q⟩
  show dSeq _ _ _ [some (.adr x), some (.int n), some (.int day), some (.str g), some (.str t), some (loadD K c)] _
  with_reducible conv => whnf
  refine ⟨n, rfl, ?_⟩
  with_reducible conv => whnf
  refine cnd_f ?_
  with_reducible conv => whnf
  refine cnd_d (fun h => absurd h (by omega)) fun _ => ?_
  with_reducible conv => whnf
  refine ⟨day, rfl, ?_⟩
  with_reducible conv => whnf
  refine cnd_f ?_
  with_reducible conv => whnf
  refine ⟨g, rfl, hg, ?_⟩
  with_reducible conv => whnf
  refine cnd_f ?_
  with_reducible conv => whnf
  refine ⟨t, rfl, ht, ?_⟩
  with_reducible conv => whnf
  refine cnd_f ?_
  with_reducible conv => whnf
  refine cnd_d (fun h => absurd h hne) fun _ => ?_
  with_reducible conv => whnf
  refine ⟨c, rfl, gc, hc, hp, ?_⟩
  with_reducible conv => whnf
  refine cnd_f ?_
  with_reducible conv => whnf
  have e2 : putP (nf1 n) "day" (.int day) = nf2 n day := putP_new (by show ("day" : PySem.Str) ∉ ([("number" : PySem.Str)] : List PySem.Str); decide)
  have e3 : putP (nf2 n day) "giver" (.str g) = nf3 n day g := putP_new (by show ("giver" : PySem.Str) ∉ ([("number" : PySem.Str), ("day" : PySem.Str)] : List PySem.Str); decide)
  have e4 : putP (nf3 n day g) "taker" (.str t) = nf4 n day g t := putP_new (by show ("taker" : PySem.Str) ∉ ([("number" : PySem.Str), ("day" : PySem.Str), ("giver" : PySem.Str)] : List PySem.Str); decide)
  have e5 : putP (nf4 n day g t) "load" (loadD K c) = noteF K n day g t c := putP_new (by show ("load" : PySem.Str) ∉ ([("number" : PySem.Str), ("day" : PySem.Str), ("giver" : PySem.Str), ("taker" : PySem.Str)] : List PySem.Str); decide)
  refine ⟨_, hM, by decide, ?_⟩
  have e1 : putP [] "number" (DV.int n) = nf1 n := rfl
  rw [e1]
  with_reducible conv => whnf
  refine ⟨_, updM_same, (by show 1 < 1000; decide), ?_⟩
  rw [updM_updM, e2]
  with_reducible conv => whnf
  refine ⟨_, updM_same, (by show 2 < 1000; decide), ?_⟩
  rw [updM_updM, e3]
  with_reducible conv => whnf
  refine ⟨_, updM_same, (by show 3 < 1000; decide), ?_⟩
  rw [updM_updM, e4]
  with_reducible conv => whnf
  refine ⟨_, updM_same, (by show 4 < 1000; decide), ?_⟩
  rw [updM_updM, e5]
  exact Rf.of q
def mkNote (K : Fg) : DSp := fun ds M Q _ => ∃ n day g t c, ds = [.int n, .int day, .str g, .str t, loadD K c] ∧ OkN n g t c ∧ Q (noteD K n day g t c) M
theorem mk_Note : Makes (NoteA K) (sp_Note___init__ K) (mkNote K) := by
  rintro ds M Q x hx ⟨n, day, g, t, c, rfl, ok, q⟩
  refine ⟨x, n, day, g, t, c, rfl, updM_same, ok, rfl, _, updM_same, ?_⟩
  rw [updM_updM, delM_updM hx]
  exact q
/-! ### drive_notes -/
abbrev Row := PySem.Str × PySem.Str × CT
abbrev rowD (K : Fg) (r : Row) : DV := .tup [.str r.1, .str r.2.1, loadD K r.2.2]
/-- giver, taker, part: the parts above 0, then those below -/
def totOf (r : Row) : List Row := [(r.1, r.2.1, clean (posC r.2.2)), (r.2.1, r.1, clean (negC r.2.2))]
def oneOf (r : Row) : List Row := if r.2.2.isEmpty = true then [] else [r]
def linesOf (rows : List Row) : List Row := rows.flatMap fun r => (totOf r).flatMap oneOf
def notesD (K : Fg) (num day : Int) (ls : List Row) : List DV := ls.mapIdx fun i r => noteD K (num + (i : Nat)) day r.1 r.2.1 r.2.2
def OkRow (r : Row) : Prop := Wd r.1 ∧ Wd r.2.1 ∧ r.1 ≠ r.2.1 ∧ Good r.2.2
def OkPart (r : Row) : Prop := Wd r.1 ∧ Wd r.2.1 ∧ r.2.1 ≠ r.1 ∧ Good r.2.2 ∧ ∀ p ∈ r.2.2, 0 < p.2
theorem getC_mem : ∀ {c : CT} {k : PySem.Str}, k ∈ c.map Prod.fst → (k, getC c k) ∈ c
  | [], _, h => by simp at h
  | (a, v) :: c, k, h => by
    unfold getC
    rw [List.lookup_cons]
    by_cases e : k = a
    · subst e; simp
    · have e2 : (k == a) = false := by simpa using e
      rw [List.map_cons, List.mem_cons] at h
      have ih := getC_mem (c := c) (h.resolve_left e)
      simp only [e2]
      exact List.mem_cons_of_mem _ ih
theorem clean_mem {c : CT} {p : PySem.Str × Int} (h : p ∈ clean c) : p ∈ c := by
  unfold clean at h
  obtain ⟨k, hk, rfl⟩ := List.mem_map.mp h
  exact getC_mem (mem_sorted.mp (List.mem_filter.mp hk).1)
theorem ok_tot {r : Row} (h : OkRow r) : ∀ x ∈ totOf r, OkPart x := by
  obtain ⟨h1, h2, h3, h4⟩ := h
  intro x hx
  unfold totOf at hx
  rcases List.mem_cons.mp hx with e | e
  · subst e
    refine ⟨h1, h2, fun z => h3 z.symm, good_clean (good_pos h4), fun p hp => ?_⟩
    have := (List.mem_filter.mp (clean_mem hp)).2
    simpa using this
  · rw [List.mem_singleton] at e
    subst e
    refine ⟨h2, h1, h3, good_clean (good_neg h4), fun p hp => ?_⟩
    obtain ⟨q, hq, rfl⟩ := List.mem_map.mp (clean_mem hp)
    have := (List.mem_filter.mp hq).2
    have h5 : q.2 < 0 := by simpa using this
    show 0 < -q.2
    omega
theorem notes_snoc (K : Fg) (num day : Int) (ls : List Row) (r : Row) : notesD K num day (ls ++ [r]) = notesD K num day ls ++ [noteD K (num + (ls.length : Nat)) day r.1 r.2.1 r.2.2] := by
  unfold notesD
  rw [List.mapIdx_concat]
theorem notes_len (K : Fg) (num day : Int) (ls : List Row) : (notesD K num day ls).length = ls.length := by simp [notesD]
theorem one_len (r : Row) : (oneOf r).length ≤ 1 := by
  unfold oneOf
  split <;> simp
theorem flat_len : ∀ l : List Row, (l.flatMap oneOf).length ≤ l.length
  | [] => by simp
  | r :: l => by
    rw [List.flatMap_cons, List.length_append, List.length_cons]
    have := one_len r
    have := flat_len l
    omega
theorem lines_len : ∀ rows : List Row, (linesOf rows).length ≤ 2 * rows.length
  | [] => by simp [linesOf]
  | r :: rows => by
    have ih := lines_len rows
    have h2 := flat_len (totOf r)
    have h3 : (totOf r).length = 2 := rfl
    unfold linesOf at *
    rw [List.flatMap_cons, List.length_append, List.length_cons]
    omega
theorem take_flat {α β : Type} {f : α → List β} {l : List α} {i : Nat} {x : α} (h : l[i]? = some x) : (l.take (i + 1)).flatMap f = (l.take i).flatMap f ++ f x := by
  rw [List.take_add_one, h, Option.toList_some, List.flatMap_append]
  simp
def sp_drive_notes (K : Fg) : DSp := fun ds M Q _ => ∃ (rows : List Row) (day num : Int) (d : DV), ds = [d, .int day, .int num] ∧ (d = .lst (rows.map (rowD K)) ∨ d = .tup (rows.map (rowD K))) ∧ 1 ≤ num ∧ (∀ r ∈ rows, OkRow r) ∧ rows.length ≤ 1000 ∧ Q (.lst (notesD K num day (linesOf rows))) M
theorem sc_drive_notes : FnScope ["drives", "day", "number", "found", "one", "other", "load", "giver", "taker", "part"] ["drives", "day", "number"] (defScope (top 29)) := ⟨rfl, rfl, rfl, by decide +kernel, rfl, by decide +kernel, by decide +kernel⟩
theorem kf_of {x qual : PySem.Str} {st : Stmt} {f : Addr} {N ps : List PySem.Str} {k : Nat} {sp : DSp} (F : ∃ fd, Fun K x qual st f fd) (S : FnScope N ps (defScope st))
    (len : ∀ ds M R E, sp ds M R E → ds.length = ps.length)
    (hbody : ∀ (cdv : Value) (A : Around) (outer : List Env) (s : Shared) (H : Hp) (E : XK), Room k (A.deeper (envOfC qual (defScope st) s.heap.objs.size f cdv)) →
      ∃ t, DSs (cxOf CX0 P w K mg base N qual (defScope st) f cdv A outer s H E).nox (defBody st) t ∧ ∀ ds M R F, sp ds M R F → t { nx := fun _ M' => Rf R .non M', rt := Rf R } (startD N.length ds) M) : ∃ fd, Fun K x qual st f fd ∧ FnOk P w K mg base CX0 (k + 1) f fd ps (liftSp sp) := by
  obtain ⟨fd, F⟩ := F
  exact ⟨fd, F, ok_fn F S len hbody⟩
theorem vals_perm {vs : List V} {us : List Value} (h : Vals vs us) : ∀ perm : List Nat, Vals (permV perm vs) (permV perm us)
  | [] => .nil
  | j :: r => by
    unfold permV
    rw [List.filterMap_cons, List.filterMap_cons]
    have ih := vals_perm h r
    cases e : vs[j]? with
    | none => rw [h.none_of e]; exact ih
    | some d =>
      obtain ⟨v, ev, av⟩ := h.get e
      rw [ev]; exact .cons av ih
theorem kf_drive_notes (W : Wld K mg) : ∃ fd, Fun K "drive_notes" "drive_notes" (top 29) (He.ga K "drive_notes") fd ∧ FnOk P w K mg base CX0 11 (He.ga K "drive_notes") fd ["drives", "day", "number"] (liftSp (sp_drive_notes K)) := by
  refine kf_of W.fn_drive_notes sc_drive_notes ?_ fun cdv A outer s H E hr => ⟨_, (dss_cons (ds_set 3 sc_drive_notes.nd (de_lstM da_nil))
      (dss_cons (ds_for PassesOwn.never rfl (di_any (dv 0)) (dg_tup (n := 3) rfl (dgs_cons (dg_name 4 sc_drive_notes.nd) (dgs_cons (dg_name 5 sc_drive_notes.nd) (dgs_cons (dg_name 6 sc_drive_notes.nd) (dgs_nil (vs := []))))))
      (dss_one (ds_for PassesOwn.never rfl (di_any (de_tup (da_cons (de_tup (da_cons (dv 4) (da_cons (dv 5) (da_cons (de_propK (W.cls_Load) (W.prop_Load_positive) (kn_Load_positive W) (hr.mono (by decide)) (dv 6)) da_nil)))) (da_cons (de_tup (da_cons (dv 5) (da_cons (dv 4) (da_cons (de_propK (W.cls_Load) (W.prop_Load_negative) (kn_Load_negative W) (hr.mono (by decide)) (dv 6)) da_nil)))) da_nil)))) (dg_tup (n := 3) rfl (dgs_cons (dg_name 7 sc_drive_notes.nd) (dgs_cons (dg_name 8 sc_drive_notes.nd) (dgs_cons (dg_name 9 sc_drive_notes.nd) (dgs_nil (vs := []))))))
      (dss_one (ds_if (dt_truth (dv 9) (td_own (names := ["own_counts"]) (W.dun_Load___bool__) (kn_Load___bool__ W).fnd (hr.mono (by decide)))) (dss_one (ds_expr (de_bm PySem.F.plainAttrs_list PySem.F.slot_list_append PySem.F.type_list_append md_app ty_lst (dv 3) (da_cons (de_makeK mk_Note (W.mkr_Note) (kn_Note___init__ W) (hr.mono (by decide)) (by rfl) (W.glo_Note) (da_cons (de_op od_add (dv 2) (de_callB cd_len (by rfl) (W.free_len) (by rfl) (da_cons (dv 3) da_nil))) (da_cons (dv 1) (da_cons (dv 7) (da_cons (dv 8) (da_cons (dv 9) da_nil)))))) da_nil)))) dss_nil)))))
      (dss_one (ds_ret (dv 3))))), ?_⟩
  · rintro ds M R E ⟨x, n, day, g, rfl, q⟩; rfl
  rintro ds M R F ⟨rows, day, num, d, rfl, hd, h1, hrows, hlen, q⟩
  show dSeq _ _ _ [some d, some (.int day), some (.int num), none, none, none, none, none, none, none] _
  with_reducible conv => whnf
  refine ⟨by decide, fun p hp => ?_⟩
  rcases hd with rfl | rfl
  all_goals
    with_reducible conv => whnf
    refine for_by (fun i s2 M2 => (∃ z a b c e f h, s2 = [z, some (.int day), some (.int num), some (.adr p), a, b, c, e, f, h]) ∧ M2 = updM M p (.lst (notesD K num day (linesOf (rows.take i))))) ⟨⟨_, _, _, _, _, _, _, rfl⟩, rfl⟩ ?_ ?_
    · rintro i x s2 M2 hx ⟨⟨z, a, b, c, e, f, h, rfl⟩, rfl⟩
      rw [List.getElem?_map] at hx
      obtain ⟨r, hr, rfl⟩ := Option.map_eq_some_iff.mp hx
      have okr := hrows r (List.mem_of_getElem? hr)
      with_reducible conv => whnf
      refine ⟨rfl, _, rfl, okr.2.2.2, ?_⟩
      with_reducible conv => whnf
      refine ⟨(by show 3 ≤ sizeLine; decide), ?_⟩
      with_reducible conv => whnf
      refine ⟨rfl, _, rfl, okr.2.2.2, ?_⟩
      with_reducible conv => whnf
      refine ⟨(by show 3 ≤ sizeLine; decide), ?_⟩
      with_reducible conv => whnf
      refine ⟨(by show 2 ≤ sizeLine; decide), ?_⟩
      with_reducible conv => whnf
      refine for_by (fun j s2 M2 => (∃ z a b c e f h, s2 = [z, some (.int day), some (.int num), some (.adr p), a, b, c, e, f, h]) ∧ M2 = updM M p (.lst (notesD K num day (linesOf (rows.take i) ++ ((totOf r).take j).flatMap oneOf)))) ⟨⟨_, _, _, _, _, _, _, rfl⟩, by simp⟩ ?_ ?_
      · rintro j y s2 M2 hy ⟨⟨z, a, b, c, e, f, h, rfl⟩, rfl⟩
        have hy' : ((totOf r).map (rowD K))[j]? = some y := hy
        rw [List.getElem?_map] at hy'
        obtain ⟨u, hu, rfl⟩ := Option.map_eq_some_iff.mp hy'
        have ok := ok_tot okr u (List.mem_of_getElem? hu)
        with_reducible conv => whnf
        refine ⟨⟨rfl, rfl⟩, u.2.2, rfl, ?_⟩
        with_reducible conv => whnf
        refine cnd_i (fun hb => ?_) (fun hb => ?_)
        · have hne : u.2.2 ≠ [] := fun e => by rw [e] at hb; cases hb
          have h1' : oneOf u = [u] := by unfold oneOf; rw [if_neg (by simpa using hb)]
          with_reducible conv => whnf
          refine ⟨ty_at updM_same, ?_⟩
          with_reducible conv => whnf
          rw [view_lst updM_same]
          with_reducible conv => whnf
          have len2 : (linesOf (rows.take i) ++ ((totOf r).take j).flatMap oneOf).length ≤ 3000 := by
            rw [List.length_append]
            have a1 := lines_len (rows.take i)
            have a2 := flat_len ((totOf r).take j)
            have a3 : (rows.take i).length ≤ rows.length := by rw [List.length_take]; omega
            have a4 : ((totOf r).take j).length ≤ 2 := by
              have : (totOf r).length = 2 := rfl
              rw [List.length_take]; omega
            omega
          rw [notes_len]
          refine ⟨_, day, u.1, u.2.1, u.2.2, rfl, ⟨by omega, ok.1, ok.2.1, ok.2.2.1, ok.2.2.2.1, hne, ok.2.2.2.2⟩, ?_⟩
          with_reducible conv => whnf
          refine ⟨_, updM_same, by rw [notes_len, sizeLine_eq]; omega, ?_⟩
          with_reducible conv => whnf
          refine ⟨⟨_, _, _, _, _, _, _, rfl⟩, ?_⟩
          rw [updM_updM, take_flat hu, h1', ← List.append_assoc, notes_snoc]
        · have h1' : oneOf u = [] := by unfold oneOf; rw [if_pos (by simpa using hb)]
          with_reducible conv => whnf
          refine ⟨⟨_, _, _, _, _, _, _, rfl⟩, ?_⟩
          rw [take_flat hu, h1', List.append_nil]
      · rintro s2 M2 ⟨⟨z, a, b, c, e, f, h, rfl⟩, rfl⟩
        with_reducible conv => whnf
        refine ⟨⟨_, _, _, _, _, _, _, rfl⟩, ?_⟩
        have e1 : linesOf (rows.take (i + 1)) = linesOf (rows.take i) ++ (totOf r).flatMap oneOf := take_flat hr
        rw [e1]
        rfl
    · rintro s2 M2 ⟨⟨z, a, b, c, e, f, h, rfl⟩, rfl⟩
      rw [List.length_map, List.take_length]
      with_reducible conv => whnf
      exact Rf.lst updM_same (fun a o e => by
        unfold delM
        by_cases ha : a = p
        · rw [ha, hp] at e; cases e
        · rw [if_neg ha, updM_ne ha]; exact e) q
theorem kn_drive_notes (W : Wld K mg) : Kn P w K mg base 11 (He.ga K "drive_notes") ["drives", "day", "number"] (sp_drive_notes K) := by
  obtain ⟨fd, F, ok⟩ := kf_drive_notes (P := P) (w := w) (base := base) W
  exact ⟨fd, ok, F.binds (fun _ _ _ _ _ _ us hl => match us, hl with | [_, _, _], _ => rfl), F.kp⟩
theorem kw_drive_notes (W : Wld K mg) : ∃ fd, FnOk P w K mg base CX0 11 (He.ga K "drive_notes") fd ["drives", "day", "number"] (liftSp (sp_drive_notes K)) ∧ KBn K fd ["drives", "day", "number"] 0 ["number", "day", "drives"] (fun _ ws => permV [2, 1, 0] ws) (fun _ zs => permV [2, 1, 0] zs) ∧ PySem.W.keepIn K (.ref (He.ga K "drive_notes")) = true := by
  obtain ⟨fd, F, ok⟩ := kf_drive_notes (P := P) (w := w) (base := base) W
  refine ⟨fd, ok, ⟨fun s us ws X hu hw => ?_, fun _ r => vals_perm r _⟩, F.kp⟩
  obtain ⟨oc, od, kV, doc, pm, an, cdv, ct, osl, rfl, lk, hcd⟩ := F.ex
  match us, hu, ws, hw with
  | [], _, [a, b, c], _ => exact BindsTo.of_eq rfl
end K87

set_option Elab.async false
set_option linter.all false
set_option maxRecDepth 100000
set_option maxHeartbeats 4000000
namespace K87
open PySem PySem.Spec PyProof.Rows L2 D
variable {P : Program} {w : World} {K : Fg} {mg : PySem.Str → Option Value} {base : Heap}
/-! ### the pen -/
abbrev penK (cells : List Int) (b l : Int) : List (Key × DV) := [(.inr "cells", .lst (cells.map .int)), (.inr "begun", .int b), (.inr "left", .int l)]
def Pen (cells : List Int) (p : Addr) (k : Nat) (M : MM) : Prop := ∃ b l : Int, M p = some (.dK (penK cells b l)) ∧ 0 ≤ b ∧ b + k ≤ 2 ^ 60 ∧ 0 ≤ l
def Oth (p : Addr) (M M' : MM) : Prop := ∀ a, a ≠ p → M' a = M a
theorem Oth.refl (p : Addr) (M : MM) : Oth p M M := fun _ _ => rfl
theorem Oth.trans {p : Addr} {M M1 M2 : MM} (a : Oth p M M1) (b : Oth p M1 M2) : Oth p M M2 := fun c h => (b c h).trans (a c h)
theorem Oth.upd {p : Addr} {M M1 : MM} {m : MO} (a : Oth p M M1) : Oth p M (updM M1 p m) := fun c h => (updM_ne h).trans (a c h)
theorem Pen.mono {cells : List Int} {p : Addr} {k j : Nat} {M : MM} (h : Pen cells p k M) (e : j ≤ k) : Pen cells p j M := by
  obtain ⟨b, l, h1, h2, h3, h4⟩ := h
  exact ⟨b, l, h1, h2, by omega, h4⟩
theorem Pen.oth {cells : List Int} {p a : Addr} {k : Nat} {M : MM} {m : MO} (h : Pen cells p k M) (e : a ≠ p) : Pen cells p k (updM M a m) := by
  obtain ⟨b, l, h1, h2⟩ := h
  exact ⟨b, l, by rw [updM_ne (Ne.symm e)]; exact h1, h2⟩
theorem Pen.some {cells : List Int} {p : Addr} {k : Nat} {M : MM} (h : Pen cells p k M) : M p ≠ none := by
  obtain ⟨b, l, h1, _⟩ := h
  rw [h1]; exact fun e => nomatch e
theorem pen_cells {cells : List Int} {b l : Int} : valD (penK cells b l) (Sum.inr "cells") = some (.lst (cells.map .int)) := rfl
theorem pen_begun {cells : List Int} {b l : Int} : valD (penK cells b l) (Sum.inr "begun") = some (.int b) := rfl
theorem pen_left {cells : List Int} {b l : Int} : valD (penK cells b l) (Sum.inr "left") = some (.int l) := rfl
theorem put_begun {cells : List Int} {b l b' : Int} : putD (penK cells b l) (Sum.inr "begun") (.int b') = penK cells b' l := rfl
theorem put_left {cells : List Int} {b l l' : Int} : putD (penK cells b l) (Sum.inr "left") (.int l') = penK cells b l' := rfl
def sp__law_pen : DSp := fun ds M Q _ => ∃ ns : List Int, ds = [.lst (ns.map .int)] ∧ ∀ cells p M', M p = none → Pen cells p (2 ^ 59) M' → Oth p M M' → Q (.adr p) M'
theorem sc__law_pen : FnScope ["_law_script"] ["_law_script"] (defScope (top 31)) := ⟨rfl, rfl, rfl, by decide +kernel, rfl, by decide +kernel, by decide +kernel⟩
theorem kn__law_pen (W : Wld K mg) : Kn P w K mg base 1 (He.ga K "_law_pen") ["_law_script"] sp__law_pen := by
  refine kn_of W.fn__law_pen sc__law_pen (fun _ _ _ _ _ _ us hl => match us, hl with | [_], _ => rfl) ?_ fun cdv A outer s H E hr => ⟨_, (dss_one (ds_ret (de_dispM (dps_cons de_str (de_callTy (cd_listF rfl) (by rfl) (W.free_list) (by rfl) (da_cons (de_slice (dv 0) do_none (do_some de_int)) da_nil)) (dps_cons de_str de_int (dps_cons de_str de_int dps_nil)))))), ?_⟩
  · rintro ds M R E ⟨i, rfl, q⟩; rfl
  rintro ds M R F ⟨ns, rfl, q⟩
  show dRet _ _ [some (.lst (ns.map .int))] _
  with_reducible conv => whnf
  refine ⟨_, rfl, ?_⟩
  with_reducible conv => whnf
  have e : D.cutD (ns.map DV.int) none (some 63) = ((ns.drop (HT.sIx (ns.map DV.int).length 0 none)).take (HT.sIx (ns.map DV.int).length (ns.map DV.int).length (some 63) - HT.sIx (ns.map DV.int).length 0 none)).map DV.int := by
    unfold D.cutD
    rw [List.map_take, List.map_drop]
  refine ⟨penK ((ns.drop (HT.sIx (ns.map DV.int).length 0 none)).take (HT.sIx (ns.map DV.int).length (ns.map DV.int).length (some 63) - HT.sIx (ns.map DV.int).length 0 none)) 0 0, ?_, (by show 3 ≤ 15; decide), fun p hp => ?_⟩
  · rw [e]; rfl
  · exact Rf.of (q _ p _ hp ⟨0, 0, updM_same, by decide, by decide, by decide⟩ (Oth.refl p M).upd)
theorem atI_lt {α : Type} {l : List α} {i : Int} (h0 : 0 ≤ i) (h1 : i < (l.length : Nat)) : ∃ x, x ∈ l ∧ atI l i = some x := by
  unfold atI ixN
  rw [if_pos h0, if_pos h1]
  exact ⟨l[i.toNat]'(by omega), List.getElem_mem _, List.getElem?_eq_getElem (by omega)⟩
def sp__law_draw : DSp := fun ds M Q _ => ∃ cells p k many, ds = [.adr p, .int many] ∧ 0 < many ∧ many < 1000000 ∧ Pen cells p (k + 1) M ∧ ∀ i M', 0 ≤ i → i < many → Pen cells p k M' → Oth p M M' → Q (.int i) M'
theorem sc__law_draw : FnScope ["_law_pen_here", "_law_many", "_law_cell", "_law_blend", "_law_digit", "_law_at", "_law_size"] ["_law_pen_here", "_law_many"] (defScope (top 32)) := ⟨rfl, rfl, rfl, by decide +kernel, rfl, by decide +kernel, by decide +kernel⟩
theorem kn__law_draw (W : Wld K mg) : Kn P w K mg base 1 (He.ga K "_law_draw") ["_law_pen_here", "_law_many"] sp__law_draw := by
  refine kn_of W.fn__law_draw sc__law_draw (fun _ _ _ _ _ _ us hl => match us, hl with | [_, _], _ => rfl) ?_ fun cdv A outer s H E hr => ⟨_, (dss_cons (ds_if (dt_cmp od_gt (de_ixD hr.units (dv 0) de_str) de_int) (dss_cons (ds_set 4 sc__law_draw.nd (de_op od_mod (de_callTy cd_int (by rfl) (W.free_int) (by rfl) (da_cons (de_ixD hr.units (dv 0) de_str) da_nil)) (dv 1)))
      (dss_cons (ds_asg (de_op od_fdiv (de_ixD hr.units (dv 0) de_str) (dv 1)) (dg_sub (dv 0) de_str (pd_dct hr.units)))
      (dss_one (ds_ret (dv 4))))) dss_nil)
      (dss_cons (ds_par 5 6 rfl sc__law_draw.nd (da_cons (de_ixD hr.units (dv 0) de_str) (da_cons (de_callB cd_len (by rfl) (W.free_len) (by rfl) (da_cons (de_ixD hr.units (dv 0) de_str) da_nil)) da_nil)))
      (dss_cons (ds_asg (de_op od_add (dv 5) de_int) (dg_sub (dv 0) de_str (pd_dct hr.units)))
      (dss_cons (ds_set 2 sc__law_draw.nd (de_if (dt_cmp od_gt (dv 6) de_int) (de_ix (de_ixD hr.units (dv 0) de_str) (de_op od_mod (de_callTy cd_int (by rfl) (W.free_int) (by rfl) (da_cons (dv 5) da_nil)) (dv 6))) (de_op od_add (de_op od_mul de_int (dv 5)) de_int)))
      (dss_cons (ds_if (DW.dt (dw_and (dt_cmp od_lt (dv 5) (dv 6)) (dw_and1 (dt_cmp od_ge (de_callB cd_abs (by rfl) (W.free_abs) (by rfl) (da_cons (dv 2) da_nil)) (de_op od_pow de_int de_int))))) (dss_cons (ds_asg (de_op od_fdiv (de_op od_sub (de_callB cd_abs (by rfl) (W.free_abs) (by rfl) (da_cons (dv 2) da_nil)) (de_op od_pow de_int de_int)) (dv 1)) (dg_sub (dv 0) de_str (pd_dct hr.units)))
      (dss_one (ds_ret (de_op od_mod (de_callTy cd_int (by rfl) (W.free_int) (by rfl) (da_cons (de_op od_sub (de_callB cd_abs (by rfl) (W.free_abs) (by rfl) (da_cons (dv 2) da_nil)) (de_op od_pow de_int de_int)) da_nil)) (dv 1))))) dss_nil)
      (dss_cons (ds_set 3 sc__law_draw.nd (de_op od_mod (de_callTy cd_int (by rfl) (W.free_int) (by rfl) (da_cons (de_op od_add (de_op od_add (de_op od_add (de_op od_mul (de_op od_mod (de_callTy cd_int (by rfl) (W.free_int) (by rfl) (da_cons (dv 2) da_nil)) de_int) de_int) (de_op od_mul (de_op od_mul de_int (dv 5)) (dv 5))) (de_op od_mul de_int (dv 5))) de_int) da_nil)) de_int))
      (dss_cons (ds_set 3 sc__law_draw.nd (de_op od_mod (de_callTy cd_int (by rfl) (W.free_int) (by rfl) (da_cons (de_op od_add (de_op od_add (de_op od_mul (dv 3) (dv 3)) (de_op od_mul de_int (dv 3))) (de_op od_mul de_int (dv 5))) da_nil)) de_int))
      (dss_one (ds_ret (de_op od_mod (de_callTy cd_int (by rfl) (W.free_int) (by rfl) (da_cons (de_op od_fdiv (de_op od_mod (de_callTy cd_int (by rfl) (W.free_int) (by rfl) (da_cons (de_op od_mul (dv 3) (de_op od_add (dv 3) de_int)) da_nil)) de_int) de_int) da_nil)) (dv 1))))))))))), ?_⟩
  · rintro ds M R E ⟨cells, p, k, many, rfl, q⟩; rfl
  rintro ds M R F ⟨cells, p, k, many, rfl, h0, h1, hp, q⟩
  obtain ⟨b, l, hM, hb, hk, hl⟩ := hp
  show dSeq _ _ _ [some (.adr p), some (.int many), none, none, none, none, none] _
  with_reducible conv => whnf
  rw [view_dK hM]
  refine ⟨Sum.inr "left", _, rfl, pen_left, ?_⟩
  with_reducible conv => whnf
  refine cnd_d (fun h => ?_) (fun h => ?_)
  · with_reducible conv => whnf
    rw [view_dK hM]
    refine ⟨Sum.inr "left", _, rfl, pen_left, ?_⟩
    with_reducible conv => whnf
    refine ⟨h0, ?_⟩
    with_reducible conv => whnf
    rw [view_dK hM]
    refine ⟨Sum.inr "left", _, rfl, pen_left, ?_⟩
    with_reducible conv => whnf
    refine ⟨⟨h0, by omega⟩, ?_⟩
    with_reducible conv => whnf
    refine ⟨_, _, hM, rfl, (by show 3 < sizeLine; decide), ?_⟩
    with_reducible conv => whnf
    exact Rf.of (q _ _ (Int.emod_nonneg _ (by omega)) (Int.emod_lt_of_pos _ h0) ⟨b, l / many, by rw [updM_same, put_left], hb, by omega, Int.ediv_nonneg hl (by omega)⟩ (Oth.refl p M).upd)
  · with_reducible conv => whnf
    rw [view_dK hM]
    refine ⟨Sum.inr "begun", _, rfl, pen_begun, ?_⟩
    with_reducible conv => whnf
    rw [view_dK hM]
    refine ⟨Sum.inr "cells", _, rfl, pen_cells, ?_⟩
    with_reducible conv => whnf
    refine ⟨_, _, hM, rfl, (by show 3 < sizeLine; decide), ?_⟩
    rw [put_begun]
    have hP : Pen cells p k (updM M p (.dK (penK cells (b + 1) l))) := ⟨b + 1, l, updM_same, by omega, by omega, hl⟩
    have hO : Oth p M (updM M p (.dK (penK cells (b + 1) l))) := (Oth.refl p M).upd
    have hM1 : updM M p (.dK (penK cells (b + 1) l)) p = some (.dK (penK cells (b + 1) l)) := updM_same
    generalize updM M p (.dK (penK cells (b + 1) l)) = M1 at hP hO hM1
    with_reducible conv => whnf
    have hb60 : b ≤ 2 ^ 60 := by omega
    refine cnd_d (fun hs => ?A) (fun hs => ?B)
    case' A =>
      with_reducible conv => whnf
      rw [view_dK hM1]
      refine ⟨Sum.inr "cells", _, rfl, pen_cells, ?_⟩
      with_reducible conv => whnf
      refine ⟨hs, ?_⟩
      with_reducible conv => whnf
      obtain ⟨d, hd, e⟩ := atI_lt (l := cells.map DV.int) (Int.emod_nonneg b (by omega)) (Int.emod_lt_of_pos b hs)
      obtain ⟨cell, _, rfl⟩ := List.mem_map.mp hd
      refine ⟨_, e, ?_⟩
    case' B =>
      with_reducible conv => whnf
      refine ⟨.inl ⟨by decide, by decide⟩, ?_⟩
    case' A =>
      with_reducible conv => whnf
      refine cnd_d (fun h5 => ?A1) (fun h5 => ?A2)
    case' B =>
      with_reducible conv => whnf
      refine cnd_d (fun h5 => ?B1) (fun h5 => ?B2)
    case B1 =>
      exact absurd (show (0 : Int) < ((cells.map DV.int).length : Nat) by omega) hs
    case' A1 =>
      with_reducible conv => whnf
      refine ⟨⟨by decide, by decide, by decide⟩, ?_⟩
      with_reducible conv => whnf
      refine cnd_d (fun h6 => ?A3) (fun h6 => ?A4)
    case A3 =>
      with_reducible conv => whnf
      refine ⟨⟨by decide, by decide, by decide⟩, ?_⟩
      with_reducible conv => whnf
      refine ⟨⟨h0, by omega⟩, ?_⟩
      with_reducible conv => whnf
      refine ⟨_, _, hM1, rfl, (by show 3 < sizeLine; decide), ?_⟩
      with_reducible conv => whnf
      refine ⟨⟨by decide, by decide, by decide⟩, ?_⟩
      with_reducible conv => whnf
      refine ⟨h0, ?_⟩
      with_reducible conv => whnf
      refine Rf.of (q _ _ (Int.emod_nonneg _ (by omega)) (Int.emod_lt_of_pos _ h0) ⟨b + 1, _, by rw [updM_same, put_left], by omega, by omega, Int.ediv_nonneg (Int.sub_nonneg_of_le h6) (by omega)⟩ hO.upd)
    all_goals
      with_reducible conv => whnf
      have r1 : ∀ x : Int, 0 ≤ x % 2147483543 ∧ x % 2147483543 < 2147483543 := fun x => ⟨Int.emod_nonneg _ (by decide), Int.emod_lt_of_pos _ (by decide)⟩
      have r2 : ∀ x : Int, 0 ≤ x % 2147483549 ∧ x % 2147483549 < 2147483549 := fun x => ⟨Int.emod_nonneg _ (by decide), Int.emod_lt_of_pos _ (by decide)⟩
      have r3 : ∀ x : Int, 0 ≤ x % 2147483477 ∧ x % 2147483477 < 2147483477 := fun x => ⟨Int.emod_nonneg _ (by decide), Int.emod_lt_of_pos _ (by decide)⟩
      refine ⟨(show (0 : Int) < 2147483543 by decide), ?_⟩
      with_reducible conv => whnf
      refine ⟨.inr ⟨by decide, by decide⟩, ?_⟩
      with_reducible conv => whnf
      refine ⟨.inl ⟨by decide, by decide⟩, ?_⟩
      with_reducible conv => whnf
      refine ⟨.inr ⟨by omega, by omega⟩, ?_⟩
      with_reducible conv => whnf
      refine ⟨.inl ⟨by decide, by decide⟩, ?_⟩
      with_reducible conv => whnf
      refine ⟨(show (0 : Int) < 2147483549 by decide), ?_⟩
      with_reducible conv => whnf
      refine ⟨.inl ⟨Int.lt_of_lt_of_le (by decide) (r2 _).1, Int.lt_trans (r2 _).2 (by decide)⟩, ?_⟩
      with_reducible conv => whnf
      refine ⟨.inl ⟨by decide, by decide⟩, ?_⟩
      with_reducible conv => whnf
      refine ⟨.inl ⟨by decide, by decide⟩, ?_⟩
      with_reducible conv => whnf
      refine ⟨(show (0 : Int) < 2147483477 by decide), ?_⟩
      with_reducible conv => whnf
      refine ⟨.inl ⟨Int.lt_of_lt_of_le (by decide) (r3 _).1, Int.lt_trans (r3 _).2 (by decide)⟩, ?_⟩
      with_reducible conv => whnf
      refine ⟨(show (0 : Int) < 2147483423 by decide), ?_⟩
      with_reducible conv => whnf
      refine ⟨⟨by decide, by decide⟩, ?_⟩
      with_reducible conv => whnf
      refine ⟨h0, ?_⟩
      with_reducible conv => whnf
      exact Rf.of (q _ _ (Int.emod_nonneg _ (by omega)) (Int.emod_lt_of_pos _ h0) hP hO)
end K87

set_option Elab.async false
set_option linter.all false
set_option maxRecDepth 100000
set_option maxHeartbeats 4000000
namespace K87
open PySem PySem.Spec PyProof.Rows L2 D
variable {P : Program} {w : World} {K : Fg} {mg : PySem.Str → Option Value} {base : Heap}
def sp__law_pick : DSp := fun ds M Q _ => ∃ cells p k it xs, ds = [.adr p, it] ∧ (it = .lst xs ∨ ∃ z, it = .str z ∧ xs = signsD z ∧ z.length ≤ 1000) ∧ 0 < xs.length ∧ xs.length < 1000000 ∧ Pen cells p (k + 1) M ∧ ∀ d ∈ xs, ∀ M', Pen cells p k M' → Oth p M M' → Q d M'
theorem sc__law_pick : FnScope ["_law_pen_here", "_law_items"] ["_law_pen_here", "_law_items"] (defScope (top 33)) := ⟨rfl, rfl, rfl, by decide +kernel, rfl, by decide +kernel, by decide +kernel⟩
theorem kn__law_pick (W : Wld K mg) : Kn P w K mg base 3 (He.ga K "_law_pick") ["_law_pen_here", "_law_items"] sp__law_pick := by
  refine kn_of W.fn__law_pick sc__law_pick (fun _ _ _ _ _ _ us hl => match us, hl with | [_, _], _ => rfl) ?_ fun cdv A outer s H E hr => ⟨_, (dss_one (ds_ret (de_ix (dv 1) (de_callK (kn__law_draw W) (hr.mono (by decide)) (by rfl) (W.glo__law_draw) (da_cons (dv 0) (da_cons (de_callB cd_len (by rfl) (W.free_len) (by rfl) (da_cons (dv 1) da_nil)) da_nil)))))), ?_⟩
  · rintro ds M R E ⟨cells, p, k, it, xs, rfl, q⟩; rfl
  rintro ds M R F ⟨cells, p, k, it, xs, rfl, hit, h0, h1, hp, q⟩
  show dRet _ _ [some (.adr p), some it] _
  rcases hit with rfl | ⟨z, rfl, rfl, hz⟩
  · with_reducible conv => whnf
    refine ⟨cells, p, k, _, rfl, by omega, by omega, hp, fun i M1 i0 i1 hP hO => ?_⟩
    with_reducible conv => whnf
    obtain ⟨d, hd, e⟩ := atI_lt i0 i1
    exact ⟨d, e, Rf.of (q d hd M1 hP hO)⟩
  · have el : (signsD z).length = z.length := by unfold signsD PySem.Str.length; simp
    have el2 : z.cps.toList.length = z.length := by unfold PySem.Str.length; simp
    with_reducible conv => whnf
    refine ⟨Nat.le_trans hz (by decide), ?_⟩
    with_reducible conv => whnf
    refine ⟨cells, p, k, _, rfl, by omega, by omega, hp, fun i M1 i0 i1 hP hO => ?_⟩
    with_reducible conv => whnf
    obtain ⟨d, hd, e⟩ := atI_lt (l := z.cps.toList) i0 (by omega)
    exact ⟨Nat.le_trans hz (by decide), d, e, Rf.of (q _ (List.mem_map_of_mem hd) M1 hP hO)⟩
theorem seq_ix {n : Nat} {i : Int} (h0 : 0 ≤ i) (h1 : i < (n : Nat)) : seqIndex? i n = some i.toNat := by
  refine (ixN_seq (n := n) (i := i) ?_).1
  unfold ixN
  rw [if_pos h0, if_pos h1]
theorem perm_erase {l : List DV} {i : Nat} (h : i < l.length) : ([l[i]] ++ l.eraseIdx i).Perm l := by
  induction l generalizing i with
  | nil => simp at h
  | cons x l ih =>
    cases i with
    | zero => exact .refl _
    | succ i =>
      have h' : i < l.length := by simpa using h
      show (l[i] :: x :: l.eraseIdx i).Perm (x :: l)
      exact (List.Perm.swap _ _ _).trans (.cons x (ih h'))
theorem k_pen {cells : List Int} {p : Addr} {k : Nat} {M M2 : MM} (h : Pen cells p (k + 0) M2) : Pen cells p k (fun c => if c = p then M2 p else M c) := by
  obtain ⟨b, l, h1, h2⟩ := h
  exact ⟨b, l, by simpa using h1, h2⟩
def sp__law_shuffled : DSp := fun ds M Q _ => ∃ cells p k xs, ds = [.adr p, .lst xs] ∧ xs.length ≤ 1000 ∧ Pen cells p (k + xs.length) M ∧ ∀ ys M', ys.Perm xs → Pen cells p k M' → Oth p M M' → Q (.lst ys) M'
theorem sc__law_shuffled : FnScope ["_law_pen_here", "_law_items", "_law_left", "_law_found"] ["_law_pen_here", "_law_items"] (defScope (top 34)) := ⟨rfl, rfl, rfl, by decide +kernel, rfl, by decide +kernel, by decide +kernel⟩
theorem kn__law_shuffled (W : Wld K mg) : Kn P w K mg base 3 (He.ga K "_law_shuffled") ["_law_pen_here", "_law_items"] sp__law_shuffled := by
  refine kn_of W.fn__law_shuffled sc__law_shuffled (fun _ _ _ _ _ _ us hl => match us, hl with | [_, _], _ => rfl) ?_ fun cdv A outer s H E hr => ⟨_, (dss_cons (ds_par 2 3 rfl sc__law_shuffled.nd (da_cons (de_callTy (cd_listM rfl) (by rfl) (W.free_list) (by rfl) (da_cons (dv 1) da_nil)) (da_cons (de_lstM da_nil) da_nil)))
      (dss_cons (ds_while PassesOwn.never (dt_cmp (od_neU hr.units) (dv 2) (de_lst da_nil))
      (dss_one (ds_expr (de_bm PySem.F.plainAttrs_list PySem.F.slot_list_append PySem.F.type_list_append md_app ty_lst (dv 3) (da_cons (de_bm PySem.F.plainAttrs_list PySem.F.slot_list_pop PySem.F.type_list_pop md_popAt ty_lst (dv 2) (da_cons (de_callK (kn__law_draw W) (hr.mono (by decide)) (by rfl) (W.glo__law_draw) (da_cons (dv 0) (da_cons (de_callB cd_len (by rfl) (W.free_len) (by rfl) (da_cons (dv 2) da_nil)) da_nil))) da_nil)) da_nil)))))
      (dss_one (ds_ret (dv 3))))), ?_⟩
  · rintro ds M R E ⟨cells, p, k, xs, rfl, q⟩; rfl
  rintro ds M R F ⟨cells, p, k, xs, rfl, hl, hp, q⟩
  show dSeq _ _ _ [some (.adr p), some (.lst xs), none, none] _
  with_reducible conv => whnf
  refine ⟨_, rfl, fun a ha => ?_⟩
  with_reducible conv => whnf
  refine ⟨by decide, fun b hb => ?_⟩
  have hpa : p ≠ a := fun e => hp.some (e ▸ ha)
  have hab : a ≠ b := fun e => by rw [← e, updM_same] at hb; cases hb
  rw [updM_ne (Ne.symm hab)] at hb
  have hpb : p ≠ b := fun e => hp.some (e ▸ hb)
  with_reducible conv => whnf
  refine ⟨fun m s2 M2 => (s2 = [some (.adr p), some (.lst xs), some (.adr a), some (.adr b)]) ∧ ∃ l f, M2 a = some (.lst l) ∧ M2 b = some (.lst f) ∧ (f ++ l).Perm xs ∧ l.length = m ∧ Pen cells p (k + m) M2 ∧ ∀ c, c ≠ p → c ≠ a → c ≠ b → M2 c = M c, ⟨xs.length, rfl, xs, [], ?_, updM_same, .refl _, rfl, (hp.oth (Ne.symm hpa)).oth (Ne.symm hpb), fun c h1 h2 h3 => by rw [updM_ne h3, updM_ne h2]⟩, ?_⟩
  · rw [updM_ne hab, updM_same]
  rintro m s2 M2 ⟨rfl, l, f, hA, hB, pf, rfl, hP, hO⟩
  with_reducible conv => whnf
  refine ⟨by decide, ?_⟩
  show rNeG2 (DV.adr a) (DV.lst []) M2 _
  have e0 : ∀ Q : DK, Q (.bl (!l.isEmpty)) M2 → rNeG2 (DV.adr a) (DV.lst []) M2 Q := fun Q h => by
    unfold rNeG2
    rw [view_lst hA]
    exact h
  refine e0 _ ?_
  with_reducible conv => whnf
  refine cnd_i (fun h => ?_) (fun h => ?_)
  · have hne : l ≠ [] := fun e => by rw [e] at h; cases h
    have hpos : 0 < l.length := List.length_pos_iff.mpr hne
    have hlx : l.length ≤ xs.length := by
      have := pf.length_eq
      rw [List.length_append] at this
      omega
    with_reducible conv => whnf
    refine ⟨ty_at hB, ?_⟩
    with_reducible conv => whnf
    refine ⟨ty_at hA, ?_⟩
    with_reducible conv => whnf
    rw [view_lst hA]
    with_reducible conv => whnf
    refine ⟨cells, p, k + (l.length - 1), _, rfl, by omega, by omega, hP.mono (by omega), fun i M3 i0 i1 hP3 hO3 => ?_⟩
    have hi : i.toNat < l.length := by omega
    with_reducible conv => whnf
    refine ⟨l, i.toNat, l[i.toNat], by rw [hO3 a (Ne.symm hpa), hA], by omega, by omega, ?_, List.getElem?_eq_getElem hi, ?_⟩
    · exact seq_ix i0 i1
    with_reducible conv => whnf
    refine ⟨f, by rw [updM_ne (Ne.symm hab), hO3 b (Ne.symm hpb), hB], ?_, ?_⟩
    · have := pf.length_eq
      rw [List.length_append] at this
      rw [sizeLine_eq]
      omega
    with_reducible conv => whnf
    refine ⟨l.length - 1, by omega, rfl, l.eraseIdx i.toNat, f ++ [l[i.toNat]], by rw [updM_ne hab, updM_same], updM_same, ?_, ?_, (hP3.oth (Ne.symm hpa)).oth (Ne.symm hpb), fun c h1 h2 h3 => by rw [updM_ne h3, updM_ne h2, hO3 c h1, hO c h1 h2 h3]⟩
    · refine List.Perm.trans ?_ pf
      rw [List.append_assoc]
      exact List.Perm.append_left f (perm_erase hi)
    · rw [List.length_eraseIdx, if_pos hi]
  · have he : l = [] := by cases l with
      | nil => rfl
      | cons x l => cases h
    subst he
    rw [List.append_nil] at pf
    with_reducible conv => whnf
    refine Rf.lst (M0 := fun c => if c = p then M2 p else M c) hB (fun c o e => ?_) (q f _ pf (k_pen hP) (fun c h => by simp [h]))
    unfold delM
    by_cases h1 : c = p
    · subst h1
      rw [if_neg hpb]
      simpa using e
    · simp only [if_neg h1] at e
      have h2 : c ≠ a := fun z => by rw [z, ha] at e; cases e
      have h3 : c ≠ b := fun z => by rw [z, hb] at e; cases e
      rw [if_neg h3, hO c h1 h2 h3, e]
def sp__law_count : DSp := fun ds M Q _ => ∃ cells p k, ds = [.adr p] ∧ Pen cells p (k + 3) M ∧ ∀ v M', v ≠ 0 → -1000000000 ≤ v → v ≤ 1000000000 → Pen cells p k M' → Oth p M M' → Q (.int v) M'
theorem sc__law_count : FnScope ["_law_pen_here", "_law_size"] ["_law_pen_here"] (defScope (top 36)) := ⟨rfl, rfl, rfl, by decide +kernel, rfl, by decide +kernel, by decide +kernel⟩
theorem kn__law_count (W : Wld K mg) : Kn P w K mg base 5 (He.ga K "_law_count") ["_law_pen_here"] sp__law_count := by
  refine kn_of W.fn__law_count sc__law_count (fun _ _ _ _ _ _ us hl => match us, hl with | [_], _ => rfl) ?_ fun cdv A outer s H E hr => ⟨_, (dss_cons (ds_set 1 sc__law_count.nd (de_callK (kn__law_pick W) (hr.mono (by decide)) (by rfl) (W.glo__law_pick) (da_cons (dv 0) (da_cons (de_lst (da_cons de_int (da_cons de_int (da_cons de_int (da_cons de_int (da_cons de_int (da_cons de_int (da_cons de_int (da_cons (de_op od_add de_int (de_callK (kn__law_draw W) (hr.mono (by decide)) (by rfl) (W.glo__law_draw) (da_cons (dv 0) (da_cons de_int da_nil)))) (da_cons (de_op od_pow de_int de_int) da_nil)))))))))) da_nil))))
      (dss_one (ds_ret (de_if (dt_cmp (od_eqU hr.units) (de_callK (kn__law_draw W) (hr.mono (by decide)) (by rfl) (W.glo__law_draw) (da_cons (dv 0) (da_cons de_int da_nil))) de_int) (dv 1) (de_op od_sub de_int (dv 1)))))), ?_⟩
  · rintro ds M R E ⟨cells, p, k, rfl, q⟩; rfl
  rintro ds M R F ⟨cells, p, k, rfl, hp, q⟩
  show dSeq _ _ _ [some (.adr p), none] _
  with_reducible conv => whnf
  refine ⟨cells, p, k + 2, 999, rfl, by decide, by decide, hp, fun i M1 i0 i1 hP hO => ?_⟩
  with_reducible conv => whnf
  refine ⟨⟨by decide, by decide, by decide⟩, ?_⟩
  with_reducible conv => whnf
  refine ⟨(by show 9 ≤ sizeLine; decide), ?_⟩
  with_reducible conv => whnf
  refine ⟨cells, p, k + 1, _, _, rfl, .inl rfl, by show 0 < 9; decide, by show 9 < 1000000; decide, hP, fun d hd M2 hP2 hO2 => ?_⟩
  have hv : ∃ v : Int, d = .int v ∧ 1 ≤ v ∧ v ≤ 1000000000 := by
    simp only [List.mem_cons, List.mem_nil_iff, or_false] at hd
    rcases hd with rfl | rfl | rfl | rfl | rfl | rfl | rfl | rfl | rfl
    all_goals first | exact ⟨_, rfl, by decide, by decide⟩ | exact ⟨_, rfl, by omega, by omega⟩
  obtain ⟨v, rfl, v1, v2⟩ := hv
  with_reducible conv => whnf
  refine ⟨cells, p, k, 2, rfl, by decide, by decide, hP2, fun j M3 j0 j1 hP3 hO3 => ?_⟩
  with_reducible conv => whnf
  have hO4 := hO.trans (hO2.trans hO3)
  refine cnd_d (fun _ => ?_) (fun _ => ?_)
  · with_reducible conv => whnf
    exact Rf.of (q _ _ (by omega) (by omega) (by omega) hP3 hO4)
  · with_reducible conv => whnf
    exact Rf.of (q _ _ (by omega) (by omega) (by omega) hP3 hO4)
theorem merge_app : ∀ (more ks : List (Key × DV)), ((ks ++ more).map Prod.fst).Nodup → mergeD ks more = ks ++ more
  | [], ks, _ => by simp [mergeD]
  | (k, v) :: more, ks, h => by
    have h' : (((ks ++ [(k, v)]) ++ more).map Prod.fst).Nodup := by simpa using h
    have e : putD ks k v = ks ++ [(k, v)] := putD_new fun z => by
      rw [List.map_append, List.nodup_append] at h
      exact h.2.2 k z k (by simp) rfl
    show mergeD (putD ks k v) more = _
    rw [e, merge_app more _ h']
    simp
theorem merge_nil {more : List (Key × DV)} (h : (more.map Prod.fst).Nodup) : mergeD [] more = more := merge_app more [] h
theorem fm_cleanP (c : CT) (l : List PySem.Str) : (l.map DV.str).filterMap (fun d => match d with
    | .str k => if getC c k != 0 then some (DV.tup [.str k, .int (getC c k)]) else none
    | _ => none) = (tK ((l.filter fun k => getC c k != 0).map fun k => (k, getC c k))).map pairV := by
  induction l with
  | nil => rfl
  | cons k l ih =>
    rw [List.map_cons, List.filterMap_cons, List.filter_cons]
    by_cases h : (getC c k != 0) = true
    · simp only [h, if_true, ih, List.map_cons]
      rfl
    · simp only [h, if_false, ih, Bool.false_eq_true]
def sp__law_clean : DSp := fun ds M Q _ => ∃ c, ds = [tD c] ∧ Good c ∧ Q (tD (clean c)) M
theorem sc__law_clean : FnScope ["_law_counts_here", "_law_kind"] ["_law_counts_here"] (defScope (top 38)) := ⟨rfl, rfl, rfl, by decide +kernel, rfl, by decide +kernel, by decide +kernel⟩
theorem kn__law_clean (W : Wld K mg) : Kn P w K mg base 1 (He.ga K "_law_clean") ["_law_counts_here"] sp__law_clean := by
  refine kn_of W.fn__law_clean sc__law_clean (fun _ _ _ _ _ _ us hl => match us, hl with | [_], _ => rfl) ?_ fun cdv A outer s H E hr => ⟨_, (dss_one (ds_ret (de_callTy (cd_dictP rfl) (by rfl) (W.free_dict) (by rfl) (da_cons (de_lc [("_law_kind", 1)] rfl sc__law_clean.nd (di_any (de_ssd rfl hr.units (by rfl) (W.free_sorted) (by rfl) (W.free_set) (dv 0))) (by rfl) (fun _ _ _ _ _ => (dg_name 1 sc__law_clean.nd)) (fun _ _ _ _ _ => (dts_one (dt_cmp (od_neU hr.units) (de_ixD hr.units (dv 0) (dv 1)) de_int))) (fun _ _ _ _ _ => (de_tup (da_cons (dv 1) (da_cons (de_ixD hr.units (dv 0) (dv 1)) da_nil))))) da_nil)))), ?_⟩
  · rintro ds M R E ⟨i, rfl, q⟩; rfl
  rintro ds M R F ⟨c, rfl, g, q⟩
  show dRet _ _ [some (tD c), none] _
  with_reducible conv => whnf
  refine ⟨c.map Prod.fst, tK_fst c, ssd_len g, fun _ => ?_⟩
  with_reducible conv => whnf
  refine LcI.pure (fun d => match d with
    | .str k => if getC c k != 0 then some (.tup [.str k, .int (getC c k)]) else none
    | _ => none) (fun d hd K1 K0 h1 h0 => ?_) (keys_len g) ?_
  · obtain ⟨k, hk, rfl⟩ := List.mem_map.mp hd
    have hv := valD_tK (mem_sorted.mp hk)
    with_reducible conv => whnf
    refine ⟨Sum.inr k, _, rfl, hv, ?_⟩
    with_reducible conv => whnf
    refine cnd_nd (fun n => ?_) (fun n => ?_)
    · with_reducible conv => whnf
      refine ⟨Sum.inr k, _, rfl, hv, ?_⟩
      with_reducible conv => whnf
      refine ⟨(by show 2 ≤ sizeLine; decide), ?_⟩
      exact h1 _ (by simp [n])
    · with_reducible conv => whnf
      exact h0 (by simp [n])
  · with_reducible conv => whnf
    refine ⟨tK (clean c), fm_cleanP c _, ?_⟩
    rw [merge_nil (by rw [tK_fst]; exact List.Pairwise.map Sum.inr (fun a b h e => h (Sum.inr.inj e)) (good_clean g).1)]
    exact Rf.of q
end K87

set_option Elab.async false
set_option linter.all false
set_option maxRecDepth 100000
set_option maxHeartbeats 4000000
namespace K87
open PySem PySem.Spec PyProof.Rows L2 D
variable {P : Program} {w : World} {K : Fg} {mg : PySem.Str → Option Value} {base : Heap}
theorem perm_str {ys : List DV} {ks : List PySem.Str} (h : ys.Perm (ks.map DV.str)) : ∃ zs : List PySem.Str, ys = zs.map DV.str ∧ zs.Perm ks := by
  have e : ∀ l : List PySem.Str, (l.map DV.str).filterMap (fun d => match d with
    | .str x => some x
    | _ => none) = l := fun l => by
    induction l with
    | nil => rfl
    | cons a l ih => simp only [List.map_cons, List.filterMap_cons, ih]
  have h2 := h.filterMap (fun d => match d with
    | DV.str x => some x
    | _ => none)
  rw [e] at h2
  refine ⟨_, ?_, h2⟩
  have hm : ∀ d ∈ ys, ∃ x, d = DV.str x := fun d hd => by
    obtain ⟨x, _, rfl⟩ := List.mem_map.mp (h.mem_iff.mp hd)
    exact ⟨x, rfl⟩
  clear h h2
  induction ys with
  | nil => rfl
  | cons d ys ih =>
    obtain ⟨x, rfl⟩ := hm d (by simp)
    have := ih fun d hd => hm d (by simp [hd])
    simp only [List.filterMap_cons, List.map_cons]
    rw [← this]
def Al (x : PySem.Str) : Prop := ∀ c ∈ x.cps.toList, 97 ≤ c ∧ c ≤ 122
theorem al_cut {z : PySem.Str} {lo hi : Option Int} (h : Al z) : Al (cutS z lo hi) := fun c hc => by
  unfold cutS at hc
  exact h c (List.mem_of_mem_drop (List.mem_of_mem_take (by simpa using hc)))
theorem cut_hi {z : PySem.Str} {i : Int} (h : 0 ≤ i) : (cutS z none (some i)).length ≤ i.toNat := by
  show (((z.cps.toList.drop (HT.sIx z.length 0 none)).take (HT.sIx z.length z.length (some i) - HT.sIx z.length 0 none)).toArray).size ≤ _
  rw [List.size_toArray, List.length_take]
  have e1 : HT.sIx z.length 0 none = 0 := rfl
  have e2 : HT.sIx z.length z.length (some i) = min i.toNat z.length := by
    show (if i < 0 then _ else _) = _
    rw [if_neg (by omega)]
  rw [e1, e2]
  omega
theorem cut_lo {z : PySem.Str} {i : Int} (h : 0 ≤ i) : (cutS z (some i) none).length ≤ z.length - i.toNat := by
  show (((z.cps.toList.drop (HT.sIx z.length 0 (some i))).take (HT.sIx z.length z.length none - HT.sIx z.length 0 (some i))).toArray).size ≤ _
  rw [List.size_toArray, List.length_take]
  have e1 : HT.sIx z.length z.length none = z.length := rfl
  have e2 : HT.sIx z.length 0 (some i) = min i.toNat z.length := by
    show (if i < 0 then _ else _) = _
    rw [if_neg (by omega)]
  rw [e1, e2]
  omega
theorem join0 (ys : List PySem.Str) : (Txt.join "" ys).cps.toList = ys.flatMap fun y => y.cps.toList := by
  have key : ∀ (l : List PySem.Str) (a : Array Nat), (l.foldl (fun acc p => acc ++ ("" : PySem.Str).cps ++ p.cps) a).toList = a.toList ++ l.flatMap fun y => y.cps.toList := fun l => by
    induction l with
    | nil => intro a; simp
    | cons y l ih =>
      intro a
      rw [List.foldl_cons, ih]
      have : ("" : PySem.Str).cps = #[] := rfl
      simp [this]
  cases ys with
  | nil => rfl
  | cons y l => exact key l y.cps
def sp__law_counts : DSp := fun ds M Q _ => ∃ (cells : List Int) (p : Addr) (k : Nat) (ks : List PySem.Str), ds = [.adr p, .lst (ks.map .str)] ∧ ks.Nodup ∧ ks.length ≤ 8 ∧ Pen cells p (k + 40) M ∧ ∀ (c : CT) M', (c.map Prod.fst).Nodup → (∀ x ∈ c.map Prod.fst, x ∈ ks) → c.length ≤ 8 → (∀ y ∈ c, y.2 ≠ 0 ∧ -1000000000 ≤ y.2 ∧ y.2 ≤ 1000000000) → Pen cells p k M' → Oth p M M' → Q (tD c) M'
theorem sc__law_counts : FnScope ["_law_pen_here", "_law_kinds", "_law_some", "_law_kind"] ["_law_pen_here", "_law_kinds"] (defScope (top 37)) := ⟨rfl, rfl, rfl, by decide +kernel, rfl, by decide +kernel, by decide +kernel⟩
theorem kn__law_counts (W : Wld K mg) : Kn P w K mg base 7 (He.ga K "_law_counts") ["_law_pen_here", "_law_kinds"] sp__law_counts := by
  refine kn_of W.fn__law_counts sc__law_counts (fun _ _ _ _ _ _ us hl => match us, hl with | [_, _], _ => rfl) ?_ fun cdv A outer s H E hr => ⟨_, (dss_cons (ds_set 2 sc__law_counts.nd (de_slice (de_callK (kn__law_shuffled W) (hr.mono (by decide)) (by rfl) (W.glo__law_shuffled) (da_cons (dv 0) (da_cons (dv 1) da_nil))) do_none (do_some (de_callK (kn__law_draw W) (hr.mono (by decide)) (by rfl) (W.glo__law_draw) (da_cons (dv 0) (da_cons de_int da_nil))))))
      (dss_one (ds_ret (de_callTy (cd_dictP rfl) (by rfl) (W.free_dict) (by rfl) (da_cons (de_lc [("_law_kind", 3)] rfl sc__law_counts.nd (di_any (dv 2)) (by rfl) (fun _ _ _ _ _ => (dg_name 3 sc__law_counts.nd)) (fun _ _ _ _ _ => dts_nil) (fun _ _ _ _ _ => (de_tup (da_cons (dv 3) (da_cons (de_callK (kn__law_count W) (hr.mono (by decide)) (by rfl) (W.glo__law_count) (da_cons (dv 0) da_nil)) da_nil))))) da_nil))))), ?_⟩
  · rintro ds M R E ⟨cells, p, k, n, rfl, q⟩; rfl
  rintro ds M R F ⟨cells, p, k, ks, rfl, nd, hl, hp, q⟩
  show dSeq _ _ _ [some (.adr p), some (.lst (ks.map .str)), none, none] _
  with_reducible conv => whnf
  refine ⟨cells, p, k + 32, _, rfl, by rw [List.length_map]; omega, hp.mono (by rw [List.length_map]; omega), fun ys M1 pm hP hO => ?_⟩
  obtain ⟨zs, rfl, pz⟩ := perm_str pm
  with_reducible conv => whnf
  refine ⟨cells, p, k + 31, 4, rfl, by decide, by decide, hP, fun i M2 i0 i1 hP2 hO2 => ?_⟩
  with_reducible conv => whnf
  have ec : D.cutD (zs.map DV.str) none (some i) = (zs.take i.toNat).map DV.str := by
    unfold D.cutD
    rw [List.map_take]
    have e1 : HT.sIx (zs.map DV.str).length 0 none = 0 := rfl
    have e2 : HT.sIx (zs.map DV.str).length (zs.map DV.str).length (some i) = min i.toNat (zs.map DV.str).length := by
      show (if i < 0 then _ else _) = _
      rw [if_neg (by omega)]
    rw [e1, e2, List.drop_zero, Nat.sub_zero]
    by_cases h : i.toNat ≤ (zs.map DV.str).length
    · rw [Nat.min_eq_left h]
    · rw [Nat.min_eq_right (by omega), List.take_of_length_le (Nat.le_refl _), List.take_of_length_le (by omega)]
  rw [ec]
  have sub : (zs.take i.toNat).Sublist zs := List.take_sublist _ _
  have nds : (zs.take i.toNat).Nodup := (pz.nodup_iff.mpr nd).sublist sub
  have hin : ∀ x ∈ zs.take i.toNat, x ∈ ks := fun x hx => pz.mem_iff.mp (sub.subset hx)
  have hln : (zs.take i.toNat).length ≤ 3 := by rw [List.length_take]; omega
  generalize zs.take i.toNat = us at nds hin hln
  with_reducible conv => whnf
  refine ⟨fun j M3 acc => ∃ c : CT, acc = (tK c).map pairV ∧ c.map Prod.fst = us.take j ∧ (∀ y ∈ c, y.2 ≠ 0 ∧ -1000000000 ≤ y.2 ∧ y.2 ≤ 1000000000) ∧ Pen cells p (k + 3 * (us.length - j)) M3 ∧ Oth p M M3, ⟨[], rfl, rfl, (fun _ h => nomatch h), hP2.mono (by omega), hO.trans hO2⟩, ?_⟩
  rintro j M3 acc hj ⟨c, rfl, hc, hv, hP3, hO3⟩
  have hcl : c.length ≤ 3 := by
    rw [← List.length_map (f := Prod.fst), hc, List.length_take]; omega
  rw [List.length_map] at hj
  rw [List.getElem?_map]
  cases e : us[j]? with
  | none =>
    have : us.take j = us := List.take_of_length_le (List.getElem?_eq_none_iff.mp e)
    rw [this] at hc
    with_reducible conv => whnf
    refine ⟨_, rfl, ?_⟩
    have hnd : (c.map Prod.fst).Nodup := hc ▸ nds
    rw [merge_nil (by rw [tK_fst]; exact List.Pairwise.map Sum.inr (fun a b h e => h (Sum.inr.inj e)) hnd)]
    exact Rf.of (q c M3 hnd (fun x hx => hin x (hc ▸ hx)) (by omega) hv (hP3.mono (by omega)) hO3)
  | some x =>
    have hlt : j < us.length := (List.getElem?_eq_some_iff.mp e).1
    with_reducible conv => whnf
    refine ⟨cells, p, k + 3 * (us.length - (j + 1)), rfl, hP3.mono (by omega), fun v M4 v0 v1 v2 hP4 hO4 => ?_⟩
    with_reducible conv => whnf
    refine ⟨(by show 2 ≤ sizeLine; decide), ?_⟩
    with_reducible conv => whnf
    refine ⟨by rw [List.length_map, List.length_map, sizeLine_eq]; omega, c ++ [(x, v)], by simp; rfl, ?_, ?_, hP4, hO3.trans hO4⟩
    · rw [List.map_append, hc, List.take_add_one, e]
      rfl
    · intro y hy
      rcases List.mem_append.mp hy with h | h
      · exact hv y h
      · rw [List.mem_singleton] at h
        subst h
        exact ⟨v0, v1, v2⟩
def sp__law_rows_of (K : Fg) : DSp := fun ds M Q _ => ∃ rows : List Row, ds = [.lst (rows.map (rowD K))] ∧ rows.length ≤ 1000 ∧ Q (.lst (rows.map fun r => .tup [.str r.1, .str r.2.1, tD r.2.2])) M
theorem sc__law_rows_of : FnScope ["_law_told", "_law_one", "_law_other", "_law_load"] ["_law_told"] (defScope (top 39)) := ⟨rfl, rfl, rfl, by decide +kernel, rfl, by decide +kernel, by decide +kernel⟩
theorem kn__law_rows_of (W : Wld K mg) : Kn P w K mg base 4 (He.ga K "_law_rows_of") ["_law_told"] (sp__law_rows_of K) := by
  refine kn_of W.fn__law_rows_of sc__law_rows_of (fun _ _ _ _ _ _ us hl => match us, hl with | [_], _ => rfl) ?_ fun cdv A outer s H E hr => ⟨_, (dss_one (ds_ret (de_lc [("_law_one", 1), ("_law_other", 2), ("_law_load", 3)] rfl sc__law_rows_of.nd (di_any (dv 0)) (by rfl) (fun _ _ _ _ _ => (dg_tup (n := 3) rfl (dgs_cons (dg_name 1 sc__law_rows_of.nd) (dgs_cons (dg_name 2 sc__law_rows_of.nd) (dgs_cons (dg_name 3 sc__law_rows_of.nd) (dgs_nil (vs := []))))))) (fun _ _ _ _ _ => dts_nil) (fun _ _ _ _ _ => (de_tup (da_cons (dv 1) (da_cons (dv 2) (da_cons (de_propK (W.cls_Load) (W.prop_Load_counts) (kn_Load_counts W) (hr.mono (by decide)) (dv 3)) da_nil)))))))), ?_⟩
  · rintro ds M R E ⟨i, rfl, q⟩; rfl
  rintro ds M R F ⟨rows, rfl, hl, q⟩
  show dRet _ _ [some (.lst (rows.map (rowD K))), none, none, none] _
  with_reducible conv => whnf
  refine LcI.pure (fun d => match d with
    | .tup [.str a, .str b, .obj _ [(_, l)]] => some (.tup [.str a, .str b, l])
    | _ => none) (fun d hd K1 K0 h1 h0 => ?_) (by rw [List.length_map, sizeLine_eq]; omega) ?_
  · obtain ⟨r, hr, rfl⟩ := List.mem_map.mp hd
    with_reducible conv => whnf
    refine ⟨rfl, _, rfl, ?_⟩
    with_reducible conv => whnf
    refine ⟨(by show 3 ≤ sizeLine; decide), ?_⟩
    exact h1 _ rfl
  · have e : ∀ l : List Row, (l.map (rowD K)).filterMap (fun d => match d with
      | .tup [.str a, .str b, .obj _ [(_, l)]] => some (.tup [.str a, .str b, l])
      | _ => none) = l.map fun r => (.tup [.str r.1, .str r.2.1, tD r.2.2] : DV) := fun l => by
      induction l with
      | nil => rfl
      | cons r l ih => simp only [List.map_cons, List.filterMap_cons, ih]
    rw [e]
    exact Rf.of q
end K87

set_option Elab.async false
set_option linter.all false
set_option maxRecDepth 100000
set_option maxHeartbeats 4000000
namespace K87
open PySem PySem.Spec PyProof.Rows L2 D
variable {P : Program} {w : World} {K : Fg} {mg : PySem.Str → Option Value} {base : Heap}
abbrev ltrs : PySem.Str := "abcdefghijklmnopqrstuvwxyz"
theorem ltrs_at (i : Nat) (h : i < 26) : ltrs.cps.toList[i]? = some (97 + i) := by
  have key : ∀ n, n < 26 → ltrs.cps.toList[n]? = some (97 + n) := by decide +kernel
  exact key i h
theorem ltrs_len : ltrs.cps.toList.length = 26 := by decide +kernel
theorem ltrs_ix {i : Int} (h0 : 0 ≤ i) (h1 : i < 26) : atI ltrs.cps.toList i = some (97 + i.toNat) := by
  unfold atI ixN
  rw [ltrs_len, if_pos h0, if_pos (by omega)]
  exact ltrs_at _ (by omega)
theorem ltrs_mem {d : DV} (h : d ∈ signsD ltrs) : ∃ c, d = .str ⟨#[c]⟩ ∧ 97 ≤ c ∧ c ≤ 122 := by
  obtain ⟨c, hc, rfl⟩ := List.mem_map.mp h
  have key : ∀ c ∈ ltrs.cps.toList, 97 ≤ c ∧ c ≤ 122 := by decide +kernel
  exact ⟨c, rfl, key c hc⟩
def Sg (y : PySem.Str) : Prop := ∃ c, y = ⟨#[c]⟩ ∧ 97 ≤ c ∧ c ≤ 122
theorem sg_join {ys : List PySem.Str} (h : ∀ y ∈ ys, Sg y) : Al (Txt.join "" ys) ∧ (Txt.join "" ys).length = ys.length ∧ (ys.map (·.length)).sum = ys.length := by
  refine ⟨?_, ?_, ?_⟩
  · intro c hc
    rw [join0] at hc
    obtain ⟨y, hy, hc⟩ := List.mem_flatMap.mp hc
    obtain ⟨d, rfl, h1⟩ := h y hy
    have : c = d := by simpa using hc
    exact this ▸ h1
  · have e : (Txt.join "" ys).length = ((Txt.join "" ys).cps.toList).length := by unfold PySem.Str.length; simp
    rw [e, join0]
    clear e
    induction ys with
    | nil => rfl
    | cons y ys ih =>
      obtain ⟨d, rfl, _⟩ := h y (by simp)
      rw [List.flatMap_cons, List.length_append, ih fun y hy => h y (by simp [hy]), List.length_cons]
      simp; omega
  · induction ys with
    | nil => rfl
    | cons y ys ih =>
      obtain ⟨d, rfl, _⟩ := h y (by simp)
      rw [List.map_cons, List.sum_cons, ih fun y hy => h y (by simp [hy]), List.length_cons]
      have : (⟨#[d]⟩ : PySem.Str).length = 1 := rfl
      simp [this]; omega
/-- the word that begins so, with that letter, and at most m more -/
def IsW (pre : PySem.Str) (m : Nat) (code : Nat) (x : PySem.Str) : Prop := ∃ t, x = pre ++ ⟨#[code]⟩ ++ t ∧ t.length ≤ m ∧ Al t
theorem isw_at {pre : PySem.Str} {m code : Nat} {x : PySem.Str} (h : IsW pre m code x) : x.cps.toList[pre.cps.toList.length]? = some code := by
  obtain ⟨t, rfl, _⟩ := h
  show (pre.cps ++ #[code] ++ t.cps).toList[_]? = _
  simp
theorem isw_wd {pre : PySem.Str} {m code : Nat} {x : PySem.Str} (h : IsW pre m code x) (hp : Al pre) (hc : 97 ≤ code ∧ code ≤ 122) (hl : pre.length + 1 + m ≤ 8) : Wd x := by
  obtain ⟨t, rfl, ht, ha⟩ := h
  refine ⟨?_, ?_⟩
  · rw [PySem.Str.length_append, PySem.Str.length_append]
    have : (⟨#[code]⟩ : PySem.Str).length = 1 := rfl
    omega
  · intro c hc'
    have : c ∈ (pre.cps ++ #[code] ++ t.cps).toList := hc'
    simp only [Array.toList_append, List.mem_append] at this
    rcases this with (h | h) | h
    · exact hp c h
    · have : c = code := by simpa using h
      exact this ▸ hc
    · exact ha c h
theorem steps {f st : Int} {i j : Nat} (hs : st = 1 ∨ st = 3 ∨ st = 5 ∨ st = 7 ∨ st = 9 ∨ st = 11 ∨ st = 15 ∨ st = 17) (h1 : i < j) (h2 : j ≤ 8) : ((f + st * (i : Int)) % 26).toNat ≠ ((f + st * (j : Int)) % 26).toNat := by
  rcases hs with rfl | rfl | rfl | rfl | rfl | rfl | rfl | rfl <;> omega
theorem ws_nodup {pre : PySem.Str} {m : Nat} {f st : Int} {ws : List PySem.Str} (hs : st = 1 ∨ st = 3 ∨ st = 5 ∨ st = 7 ∨ st = 9 ∨ st = 11 ∨ st = 15 ∨ st = 17) (hl : ws.length ≤ 8) (h : ∀ (j : Nat) x, ws[j]? = some x → IsW pre m (97 + ((f + st * (j : Int)) % 26).toNat) x) : ws.Nodup := by
  refine List.pairwise_iff_getElem.mpr fun i j hi hj hij e => ?_
  have a := isw_at (h i _ (List.getElem?_eq_getElem hi))
  have b := isw_at (h j _ (List.getElem?_eq_getElem hj))
  rw [e, b] at a
  have := Option.some.inj a
  exact steps (f := f) hs hij (by omega) (by omega)
def sp__law_words : DSp := fun ds M Q _ => ∃ cells p k n, ds = [.adr p, .int n] ∧ 0 ≤ n ∧ n ≤ 8 ∧ Pen cells p (k + 20) M ∧ ∀ (ws : List PySem.Str) M', ws.length = n.toNat → (∀ x ∈ ws, Wd x) → ws.Nodup → Pen cells p k M' → Oth p M M' → Q (.lst (ws.map .str)) M'
theorem sc__law_words : FnScope ["_law_pen_here", "_law_many", "_law_letters", "_law_stem", "_law_found", "_law_k", "_law_at", "_law_front", "_law_step", "_law_is_cut", "_law_tail"] ["_law_pen_here", "_law_many"] (defScope (top 35)) := ⟨rfl, rfl, rfl, by decide +kernel, rfl, by decide +kernel, by decide +kernel⟩
theorem kn__law_words (W : Wld K mg) : Kn P w K mg base 5 (He.ga K "_law_words") ["_law_pen_here", "_law_many"] sp__law_words := by
  refine kn_of W.fn__law_words sc__law_words (fun _ _ _ _ _ _ us hl => match us, hl with | [_, _], _ => rfl) ?_ fun cdv A outer s H E hr => ⟨_, (dss_cons (ds_set 2 sc__law_words.nd de_str)
      (dss_cons (ds_set 3 sc__law_words.nd (de_bm PySem.F.plainAttrs_str PySem.F.slot_str_join PySem.F.type_str_join md_join ty_str de_str (da_cons (de_lc [("_law_k", 5)] rfl sc__law_words.nd (di_range1 (by rfl) (W.free_range) (da_cons (de_callK (kn__law_draw W) (hr.mono (by decide)) (by rfl) (W.glo__law_draw) (da_cons (dv 0) (da_cons de_int da_nil))) da_nil)) (by rfl) (fun _ _ _ _ _ => (dg_name 5 sc__law_words.nd)) (fun _ _ _ _ _ => dts_nil) (fun _ _ _ _ _ => (de_callK (kn__law_pick W) (hr.mono (by decide)) (by rfl) (W.glo__law_pick) (da_cons (dv 0) (da_cons (dv 2) da_nil))))) da_nil)))
      (dss_cons (ds_par 6 7 rfl sc__law_words.nd (da_cons (de_callK (kn__law_draw W) (hr.mono (by decide)) (by rfl) (W.glo__law_draw) (da_cons (dv 0) (da_cons (de_op od_add (de_callB cd_len (by rfl) (W.free_len) (by rfl) (da_cons (dv 3) da_nil)) de_int) da_nil))) (da_cons (de_callK (kn__law_draw W) (hr.mono (by decide)) (by rfl) (W.glo__law_draw) (da_cons (dv 0) (da_cons de_int da_nil))) da_nil)))
      (dss_cons (ds_par 8 9 rfl sc__law_words.nd (da_cons (de_callK (kn__law_pick W) (hr.mono (by decide)) (by rfl) (W.glo__law_pick) (da_cons (dv 0) (da_cons (de_lst (da_cons de_int (da_cons de_int (da_cons de_int (da_cons de_int (da_cons de_int (da_cons de_int (da_cons de_int (da_cons de_int da_nil))))))))) da_nil))) (da_cons (de_callK (kn__law_draw W) (hr.mono (by decide)) (by rfl) (W.glo__law_draw) (da_cons (dv 0) (da_cons de_int da_nil))) da_nil)))
      (dss_cons (ds_set 4 sc__law_words.nd (de_lstM da_nil))
      (dss_cons (ds_for PassesOwn.never rfl (di_range1 (by rfl) (W.free_range) (da_cons (dv 1) da_nil)) (dg_name 5 sc__law_words.nd)
      (dss_cons (ds_set 10 sc__law_words.nd (de_if (dt_cmp (od_eqU hr.units) (dv 9) de_int) (de_slice (de_slice (dv 3) (do_some (dv 6)) do_none) do_none (do_some (de_op od_mod (de_callTy cd_int (by rfl) (W.free_int) (by rfl) (da_cons (dv 5) da_nil)) de_int))) (de_slice (dv 3) (do_some (dv 6)) do_none)))
      (dss_one (ds_expr (de_bm PySem.F.plainAttrs_list PySem.F.slot_list_append PySem.F.type_list_append md_app ty_lst (dv 4) (da_cons (de_op od_add (de_op od_add (de_slice (dv 3) do_none (do_some (dv 6))) (de_ix (dv 2) (de_op od_mod (de_callTy cd_int (by rfl) (W.free_int) (by rfl) (da_cons (de_op od_add (dv 7) (de_op od_mul (dv 8) (dv 5))) da_nil)) de_int))) (dv 10)) da_nil))))))
      (dss_one (ds_ret (dv 4))))))))), ?_⟩
  · rintro ds M R E ⟨cells, p, k, n, rfl, q⟩; rfl
  rintro ds M R F ⟨cells, p, k, n, rfl, n0, n1, hp, q⟩
  show dSeq _ _ _ [some (.adr p), some (.int n), none, none, none, none, none, none, none, none, none] _
  with_reducible conv => whnf
  refine ⟨trivial, ?_⟩
  with_reducible conv => whnf
  refine ⟨cells, p, k + 19, 8, rfl, by decide, by decide, hp, fun i M1 i0 i1 hP hO => ?_⟩
  with_reducible conv => whnf
  refine ⟨⟨by omega, by omega⟩, ?_⟩
  refine ⟨fun j M2 acc => ∃ ys : List PySem.Str, acc = ys.map DV.str ∧ ys.length = j ∧ (∀ y ∈ ys, Sg y) ∧ Pen cells p (k + 5 + (i.toNat - j)) M2 ∧ Oth p M M2, ⟨[], rfl, rfl, (fun _ h => nomatch h), hP.mono (by omega), hO⟩, ?_⟩
  have rl : (rangeD 0 i.toNat).length = i.toNat := by simp [rangeD]
  rintro j M2 acc hj ⟨ys, rfl, hyl, hy, hP2, hO2⟩
  rw [rl] at hj
  cases e : (rangeD 0 i.toNat)[j]? with
  | some x =>
    have hlt : j < i.toNat := rl ▸ (List.getElem?_eq_some_iff.mp e).1
    with_reducible conv => whnf
    refine ⟨cells, p, k + 5 + (i.toNat - (j + 1)), _, signsD ltrs, rfl, .inr ⟨ltrs, rfl, rfl, by decide⟩, by decide, by decide, hP2.mono (by omega), fun d hd M3 hP3 hO3 => ?_⟩
    obtain ⟨c, rfl, hc⟩ := ltrs_mem hd
    with_reducible conv => whnf
    refine ⟨by rw [List.length_map, sizeLine_eq]; omega, ys ++ [⟨#[c]⟩], by simp, by simp [hyl], fun y h => ?_, hP3, hO2.trans hO3⟩
    rcases List.mem_append.mp h with h | h
    · exact hy y h
    · rw [List.mem_singleton] at h
      exact ⟨c, h, hc⟩
  | none =>
    have hje : j = i.toNat := by
      have := List.getElem?_eq_none_iff.mp e
      omega
    obtain ⟨hal, hjl, hsum⟩ := sg_join hy
    with_reducible conv => whnf
    refine ⟨ys, .inl rfl, by rw [hsum]; have : ("" : PySem.Str).length = 0 := rfl; rw [this]; omega, ?_⟩
    generalize hst : Txt.join "" ys = stem at hal hjl
    have hst7 : stem.length ≤ 7 := by omega
    with_reducible conv => whnf
    refine ⟨Nat.le_trans hst7 (by decide), ?_⟩
    with_reducible conv => whnf
    refine ⟨cells, p, k + 4, _, rfl, by omega, by omega, hP2.mono (by omega), fun at_ M3 a0 a1 hP3 hO3 => ?_⟩
    with_reducible conv => whnf
    refine ⟨cells, p, k + 3, 26, rfl, by decide, by decide, hP3, fun fr M4 f0 f1 hP4 hO4 => ?_⟩
    with_reducible conv => whnf
    refine ⟨(by show 8 ≤ sizeLine; decide), ?_⟩
    with_reducible conv => whnf
    refine ⟨cells, p, k + 2, _, _, rfl, .inl rfl, by show 0 < 8; decide, by show 8 < 1000000; decide, hP4, fun d hd M5 hP5 hO5 => ?_⟩
    have hs : ∃ st : Int, d = .int st ∧ (st = 1 ∨ st = 3 ∨ st = 5 ∨ st = 7 ∨ st = 9 ∨ st = 11 ∨ st = 15 ∨ st = 17) := by
      simp only [List.mem_cons, List.mem_nil_iff, or_false] at hd
      rcases hd with rfl | rfl | rfl | rfl | rfl | rfl | rfl | rfl
      all_goals exact ⟨_, rfl, by decide⟩
    obtain ⟨st, rfl, hs⟩ := hs
    have hsb : 0 < st ∧ st ≤ 17 := by omega
    with_reducible conv => whnf
    refine ⟨cells, p, k + 1, 2, rfl, by decide, by decide, hP5, fun ct M6 c0 c1 hP6 hO6 => ?_⟩
    have hO7 := hO2.trans (hO3.trans (hO4.trans (hO5.trans hO6)))
    with_reducible conv => whnf
    refine ⟨by decide, fun b hb => ?_⟩
    have hpb : b ≠ p := fun e => hP6.some (e ▸ hb)
    with_reducible conv => whnf
    refine ⟨⟨by omega, by omega⟩, ?_⟩
    have rl2 : (rangeD 0 n.toNat).length = n.toNat := by simp [rangeD]
    have hpre : (cutS stem none (some at_)).length ≤ at_.toNat := cut_hi a0
    have htl : (cutS stem (some at_) none).length ≤ stem.length - at_.toNat := cut_lo a0
    refine for_by (fun j s2 M2 => (∃ x y, s2 = [some (.adr p), some (.int n), some (.str ltrs), some (.str stem), some (.adr b), x, some (.int at_), some (.int fr), some (.int st), some (.int ct), y]) ∧ ∃ ws : List PySem.Str, M2 = updM M6 b (.lst (ws.map DV.str)) ∧ ws.length = j ∧ ∀ (j : Nat) x, ws[j]? = some x → IsW (cutS stem none (some at_)) (stem.length - at_.toNat) (97 + ((fr + st * (j : Int)) % 26).toNat) x) ⟨⟨_, _, rfl⟩, [], rfl, rfl, fun j x h => by simp at h⟩ ?_ ?_
    · rintro j x s2 M7 hx ⟨⟨x1, y1, rfl⟩, ws, rfl, hwl, hw⟩
      have hjn : j < n.toNat := rl2 ▸ (List.getElem?_eq_some_iff.mp hx).1
      have hx' : x = .int j := by
        have : (rangeD 0 n.toNat)[j]? = some (.int (0 + (j : Int))) := by simp [rangeD, hjn]
        rw [this, Int.zero_add] at hx
        exact (Option.some.inj hx).symm
      subst hx'
      have hal2 : Al (cutS stem (some at_) none) := al_cut hal
      have hcond : 0 ≤ (fr + st * (j : Int)) % 26 ∧ (fr + st * (j : Int)) % 26 < 26 := ⟨Int.emod_nonneg _ (by decide), Int.emod_lt_of_pos _ (by decide)⟩
      have hsn : ∀ t : PySem.Str, t.length ≤ stem.length - at_.toNat → Al t → ∀ (j' : Nat) x, (ws ++ [cutS stem none (some at_) ++ ⟨#[97 + ((fr + st * (j : Int)) % 26).toNat]⟩ ++ t])[j']? = some x → IsW (cutS stem none (some at_)) (stem.length - at_.toNat) (97 + ((fr + st * (j' : Int)) % 26).toNat) x := fun t t1 t2 j' x h => by
        by_cases hj' : j' < ws.length
        · rw [List.getElem?_append_left hj'] at h
          exact hw j' x h
        · rw [List.getElem?_append_right (by omega)] at h
          have e0 : j' - ws.length = 0 := by
            have := (List.getElem?_eq_some_iff.mp h).1
            simp at this
            omega
          have e1 : j' = j := by omega
          rw [e0] at h
          have := Option.some.inj h
          subst this
          subst e1
          exact ⟨t, rfl, t1, t2⟩
      with_reducible conv => whnf
      refine cnd_d (fun _ => ?A) (fun _ => ?B)
      case' A =>
        with_reducible conv => whnf
        refine ⟨Nat.le_trans hst7 (by decide), ?_⟩
        with_reducible conv => whnf
        refine ⟨(show (0 : Int) < 3 by decide), ?_⟩
        with_reducible conv => whnf
        refine ⟨Nat.le_trans (cutS_length _ _ _) (Nat.le_trans hst7 (by decide)), ?_⟩
        have ht1 := Nat.le_trans (cutS_length (cutS stem (some at_) none) none (some ((j : Int) % 3))) htl
        have ht2 : Al (cutS (cutS stem (some at_) none) none (some ((j : Int) % 3))) := al_cut hal2
        generalize cutS (cutS stem (some at_) none) none (some ((j : Int) % 3)) = t at ht1 ht2
      case' B =>
        with_reducible conv => whnf
        refine ⟨Nat.le_trans hst7 (by decide), ?_⟩
        have ht1 := htl
        have ht2 := hal2
        generalize cutS stem (some at_) none = t at ht1 ht2
      all_goals
        with_reducible conv => whnf
        refine ⟨ty_at updM_same, ?_⟩
        with_reducible conv => whnf
        refine ⟨Nat.le_trans hst7 (by decide), ?_⟩
        with_reducible conv => whnf
        refine ⟨.inl ⟨by omega, by omega⟩, ?_⟩
        with_reducible conv => whnf
        refine ⟨(show (0 : Int) < 26 by decide), ?_⟩
        with_reducible conv => whnf
        refine ⟨by decide, _, ltrs_ix hcond.1 hcond.2, ?_⟩
        with_reducible conv => whnf
        refine ⟨Nat.le_trans (Nat.add_le_add (Nat.le_trans (cutS_length _ _ _) hst7) (show (⟨#[97 + ((fr + st * (j : Int)) % 26).toNat]⟩ : PySem.Str).length ≤ 1 from Nat.le_refl _)) (by decide), ?_⟩
        with_reducible conv => whnf
        refine ⟨by rw [PySem.Str.length_append]; exact Nat.le_trans (Nat.add_le_add (Nat.add_le_add (Nat.le_trans (cutS_length _ _ _) hst7) (show (⟨#[97 + ((fr + st * (j : Int)) % 26).toNat]⟩ : PySem.Str).length ≤ 1 from Nat.le_refl _)) (Nat.le_trans ht1 (Nat.le_trans (Nat.sub_le _ _) hst7))) (by decide), ?_⟩
        with_reducible conv => whnf
        refine ⟨_, updM_same, by rw [List.length_map, sizeLine_eq]; omega, ?_⟩
        with_reducible conv => whnf
        refine ⟨⟨_, _, rfl⟩, ws ++ [cutS stem none (some at_) ++ ⟨#[97 + ((fr + st * (j : Int)) % 26).toNat]⟩ ++ t], ?_, by simp [hwl], hsn t ht1 ht2⟩
        rw [updM_updM, List.map_append]
        rfl
    · rintro s2 M7 ⟨⟨x1, y1, rfl⟩, ws, rfl, hwl, hw⟩
      rw [rl2] at hwl
      with_reducible conv => whnf
      refine Rf.lst (M0 := M6) updM_same (fun a o e => ?_) (q ws M6 hwl (fun x hx => ?_) (ws_nodup hs (by omega) hw) (hP6.mono (by omega)) hO7)
      · unfold delM
        by_cases h : a = b
        · rw [h, hb] at e; cases e
        · rw [if_neg h, updM_ne h]; exact e
      · obtain ⟨j, hj⟩ := List.getElem?_of_mem hx
        exact isw_wd (hw j x hj) (al_cut hal) (by omega) (by omega)
end K87

set_option Elab.async false
set_option linter.all false
set_option maxRecDepth 100000
set_option maxHeartbeats 4000000
namespace K87
open PySem PySem.Spec PyProof.Rows L2 D
variable {P : Program} {w : World} {K : Fg} {mg : PySem.Str → Option Value} {base : Heap}
/-! ### counts in order -/
def SrtC (c : CT) : Prop := (c.map Prod.fst).Pairwise (fun a b => leS a b = true) ∧ (c.map Prod.fst).Nodup ∧ ∀ y ∈ c, y.2 ≠ 0
theorem getC_of {c : CT} (nd : (c.map Prod.fst).Nodup) {y : PySem.Str × Int} (h : y ∈ c) : getC c y.1 = y.2 := by
  induction c with
  | nil => simp at h
  | cons a c ih =>
    obtain ⟨k, v⟩ := a
    rw [List.map_cons, List.nodup_cons] at nd
    unfold getC
    rw [List.lookup_cons]
    by_cases e : y.1 = k
    · have e2 : (y.1 == k) = true := by simpa using e
      simp only [e2]
      rcases List.mem_cons.mp h with rfl | h
      · rfl
      · have h' := List.mem_map_of_mem (f := Prod.fst) h
        rw [e] at h'
        exact absurd h' nd.1
    · have e2 : (y.1 == k) = false := by simpa using e
      simp only [e2]
      rcases List.mem_cons.mp h with rfl | h
      · exact absurd rfl e
      · exact ih nd.2 h
theorem map_get {c : CT} (nd : (c.map Prod.fst).Nodup) : (c.map Prod.fst).map (fun k => (k, getC c k)) = c := by
  rw [List.map_map]
  refine (List.map_congr_left fun y hy => ?_).trans (List.map_id c)
  show (y.1, getC c y.1) = y
  rw [getC_of nd hy]
theorem clean_srt {c : CT} (h : SrtC c) : clean c = c := by
  obtain ⟨h1, h2, h3⟩ := h
  unfold clean sortS
  rw [List.mergeSort_of_pairwise h1]
  rw [List.filter_eq_self.mpr fun k hk => ?_]
  · exact map_get h2
  · obtain ⟨y, hy, rfl⟩ := List.mem_map.mp hk
    rw [getC_of h2 hy]
    simpa using h3 y hy
theorem srt_clean {c : CT} (nd : (c.map Prod.fst).Nodup) : SrtC (clean c) := by
  refine ⟨?_, ?_, ?_⟩
  · rw [clean_fst]
    exact (sortS_sorted _).filter _
  · rw [clean_fst]
    exact (((sortS_perm _).nodup_iff).mpr nd).filter _
  · intro y hy
    unfold clean at hy
    obtain ⟨k, hk, rfl⟩ := List.mem_map.mp hy
    simpa using (List.mem_filter.mp hk).2
theorem srt_pos {c : CT} (h : SrtC c) : SrtC (posC c) := by
  have sub : ((posC c).map Prod.fst).Sublist (c.map Prod.fst) := List.Sublist.map _ List.filter_sublist
  exact ⟨h.1.sublist sub, h.2.1.sublist sub, fun y hy => h.2.2 y (List.mem_filter.mp hy).1⟩
theorem neg_fst (c : CT) : ((negC c).map Prod.fst).Sublist (c.map Prod.fst) := by
  unfold negC
  rw [List.map_map]
  exact List.Sublist.map _ List.filter_sublist
theorem srt_neg {c : CT} (h : SrtC c) : SrtC (negC c) := by
  refine ⟨h.1.sublist (neg_fst c), h.2.1.sublist (neg_fst c), fun y hy => ?_⟩
  obtain ⟨z, hz, rfl⟩ := List.mem_map.mp hy
  have := h.2.2 z (List.mem_filter.mp hz).1
  show -z.2 ≠ 0
  omega
/-- those of c that P takes, each under g -/
def selC (p : Int → Bool) (g : Int → Int) (c : CT) : CT := (c.filter fun y => p y.2).map fun y => (y.1, g y.2)
theorem sel_fst (p : Int → Bool) (g : Int → Int) (c : CT) : ((selC p g c).map Prod.fst).Sublist (c.map Prod.fst) := by
  unfold selC
  rw [List.map_map]
  exact List.Sublist.map _ List.filter_sublist
def selF (c : CT) (p : Int → Bool) (g : Int → Int) (d : DV) : Option DV := match d with
  | .str k => if p (getC c k) = true then some (.tup [.str k, .int (g (getC c k))]) else none
  | _ => none
theorem fm_sel {c : CT} (nd : (c.map Prod.fst).Nodup) (p : Int → Bool) (g : Int → Int) : ((tK c).map fun y => keyD y.1).filterMap (selF c p g) = (tK (selC p g c)).map pairV := by
  rw [all_strs]
  have key : ∀ l : CT, (∀ y ∈ l, getC c y.1 = y.2) → ((l.map Prod.fst).map DV.str).filterMap (selF c p g) = (tK (selC p g l)).map pairV := fun l => by
    induction l with
    | nil => intro _; rfl
    | cons y l ih =>
      intro h
      have h1 := h y (by simp)
      have ih := ih fun z hz => h z (by simp [hz])
      rw [List.map_cons, List.map_cons, List.filterMap_cons]
      unfold selC at ih ⊢
      rw [List.filter_cons]
      by_cases hp : p y.2 = true
      · have : selF c p g (.str y.1) = some (.tup [.str y.1, .int (g y.2)]) := by unfold selF; simp only [h1, if_pos hp]
        simp only [this, ih, hp, if_true]
        rfl
      · have : selF c p g (.str y.1) = none := by unfold selF; simp only [h1, if_neg hp]
        simp only [this, ih, if_neg hp]
  exact key c fun y hy => getC_of nd hy
theorem sel_keys {c : CT} (nd : (c.map Prod.fst).Nodup) (p : Int → Bool) (g : Int → Int) : ((tK (selC p g c)).map Prod.fst).Nodup := by
  rw [tK_fst]
  exact List.Pairwise.map Sum.inr (fun a b h e => h (Sum.inr.inj e)) (nd.sublist (sel_fst p g c))
/-- counts as the law draws them -/
def DrC (ks : List PySem.Str) (c : CT) : Prop := (c.map Prod.fst).Nodup ∧ (∀ x ∈ c.map Prod.fst, x ∈ ks) ∧ c.length ≤ 8 ∧ ∀ y ∈ c, -1000000000 ≤ y.2 ∧ y.2 ≤ 1000000000
theorem dr_sel {ks : List PySem.Str} {c : CT} {p : Int → Bool} {g : Int → Int} (h : DrC ks c) (hg : ∀ v, -1000000000 ≤ v → v ≤ 1000000000 → -1000000000 ≤ g v ∧ g v ≤ 1000000000) : DrC ks (selC p g c) := by
  refine ⟨h.1.sublist (sel_fst p g c), fun x hx => h.2.1 x ((sel_fst p g c).subset hx), ?_, ?_⟩
  · have := (sel_fst p g c).length_le
    rw [List.length_map, List.length_map] at this
    exact Nat.le_trans this h.2.2.1
  · intro y hy
    obtain ⟨z, hz, rfl⟩ := List.mem_map.mp hy
    have := h.2.2.2 z (List.mem_filter.mp hz).1
    exact hg z.2 this.1 this.2
theorem dr_clean {ks : List PySem.Str} {c : CT} (h : DrC ks c) : DrC ks (clean c) := by
  refine ⟨(good_clean ⟨h.1, by have := h.2.2.1; omega⟩).1, fun x hx => ?_, ?_, fun y hy => h.2.2.2 y (clean_mem hy)⟩
  · obtain ⟨y, hy, rfl⟩ := List.mem_map.mp hx
    exact h.2.1 _ (List.mem_map_of_mem (f := Prod.fst) (clean_mem hy))
  · unfold clean
    rw [List.length_map]
    have h1 := List.length_filter_le (fun k => getC c k != 0) (sortS (c.map Prod.fst))
    rw [(sortS_perm _).length_eq, List.length_map] at h1
    exact Nat.le_trans h1 h.2.2.1
def RowOk (r : Row) : Prop := Wd r.1 ∧ Wd r.2.1 ∧ r.1 ≠ r.2.1 ∧ SrtC r.2.2 ∧ (∀ x ∈ r.2.2.map Prod.fst, Wd x) ∧ r.2.2.length ≤ 8 ∧ ∀ y ∈ r.2.2, -1000000000 ≤ y.2 ∧ y.2 ≤ 1000000000
abbrev rowT (r : Row) : DV := .tup [.str r.1, .str r.2.1, tD r.2.2]
def sp__law_some_drives : DSp := fun ds M Q _ => ∃ (cells : List Int) (p : Addr) (k : Nat) (ks hs : List PySem.Str), ds = [.adr p, .lst (ks.map .str), .lst (hs.map .str)] ∧ ks.Nodup ∧ ks.length ≤ 8 ∧ (∀ x ∈ ks, Wd x) ∧ hs.Nodup ∧ 2 ≤ hs.length ∧ hs.length ≤ 8 ∧ (∀ x ∈ hs, Wd x) ∧ Pen cells p (k + 400) M ∧ ∀ (rows : List Row) M', rows.length ≤ 7 → (∀ r ∈ rows, RowOk r) → Pen cells p k M' → Oth p M M' → Q (.lst (rows.map rowT)) M'
theorem sc__law_some_drives : FnScope ["_law_pen_here", "_law_kinds", "_law_houses", "_law_found", "_law_k", "_law_one", "_law_other", "_law_counts_here", "_law_way", "_law_kind"] ["_law_pen_here", "_law_kinds", "_law_houses"] (defScope (top 40)) := ⟨rfl, rfl, rfl, by decide +kernel, rfl, by decide +kernel, by decide +kernel⟩
theorem kn__law_some_drives (W : Wld K mg) : Kn P w K mg base 9 (He.ga K "_law_some_drives") ["_law_pen_here", "_law_kinds", "_law_houses"] sp__law_some_drives := by
  refine kn_of W.fn__law_some_drives sc__law_some_drives (fun _ _ _ _ _ _ us hl => match us, hl with | [_, _, _], _ => rfl) ?_ fun cdv A outer s H E hr => ⟨_, (dss_cons (ds_set 3 sc__law_some_drives.nd (de_lstM da_nil))
      (dss_cons (ds_for PassesOwn.never rfl (di_range1 (by rfl) (W.free_range) (da_cons (de_callK (kn__law_draw W) (hr.mono (by decide)) (by rfl) (W.glo__law_draw) (da_cons (dv 0) (da_cons de_int da_nil))) da_nil)) (dg_name 4 sc__law_some_drives.nd)
      (dss_cons (ds_asg (de_slice (de_callK (kn__law_shuffled W) (hr.mono (by decide)) (by rfl) (W.glo__law_shuffled) (da_cons (dv 0) (da_cons (dv 2) da_nil))) do_none (do_some de_int)) (dg_unl (n := 2) rfl (dgs_cons (dg_name 5 sc__law_some_drives.nd) (dgs_cons (dg_name 6 sc__law_some_drives.nd) (dgs_nil (vs := []))))))
      (dss_cons (ds_asg (de_tup (da_cons (de_callK (kn__law_counts W) (hr.mono (by decide)) (by rfl) (W.glo__law_counts) (da_cons (dv 0) (da_cons (dv 1) da_nil))) (da_cons (de_callK (kn__law_draw W) (hr.mono (by decide)) (by rfl) (W.glo__law_draw) (da_cons (dv 0) (da_cons de_int da_nil))) da_nil))) (dg_tup (n := 2) rfl (dgs_cons (dg_name 7 sc__law_some_drives.nd) (dgs_cons (dg_name 8 sc__law_some_drives.nd) (dgs_nil (vs := []))))))
      (dss_cons (ds_if (dt_cmp (od_eqU hr.units) (dv 8) de_int) (dss_one (ds_set 7 sc__law_some_drives.nd (de_callTy (cd_dictP rfl) (by rfl) (W.free_dict) (by rfl) (da_cons (de_lc [("_law_kind", 9)] rfl sc__law_some_drives.nd (di_any (dv 7)) (by rfl) (fun _ _ _ _ _ => (dg_name 9 sc__law_some_drives.nd)) (fun _ _ _ _ _ => dts_nil) (fun _ _ _ _ _ => (de_tup (da_cons (dv 9) (da_cons (de_callB cd_abs (by rfl) (W.free_abs) (by rfl) (da_cons (de_ixD hr.units (dv 7) (dv 9)) da_nil)) da_nil))))) da_nil)))) dss_nil)
      (dss_cons (ds_if (dt_cmp (od_eqU hr.units) (dv 8) de_int) (dss_one (ds_set 7 sc__law_some_drives.nd (de_callTy (cd_dictP rfl) (by rfl) (W.free_dict) (by rfl) (da_cons (de_lc [("_law_kind", 9)] rfl sc__law_some_drives.nd (di_any (dv 7)) (by rfl) (fun _ _ _ _ _ => (dg_name 9 sc__law_some_drives.nd)) (fun _ _ _ _ _ => dts_nil) (fun _ _ _ _ _ => (de_tup (da_cons (dv 9) (da_cons (de_op od_sub de_int (de_callB cd_abs (by rfl) (W.free_abs) (by rfl) (da_cons (de_ixD hr.units (dv 7) (dv 9)) da_nil))) da_nil))))) da_nil)))) dss_nil)
      (dss_one (ds_expr (de_bm PySem.F.plainAttrs_list PySem.F.slot_list_append PySem.F.type_list_append md_app ty_lst (dv 3) (da_cons (de_tup (da_cons (dv 5) (da_cons (dv 6) (da_cons (de_callK (kn__law_clean W) (hr.mono (by decide)) (by rfl) (W.glo__law_clean) (da_cons (dv 7) da_nil)) da_nil)))) da_nil)))))))))
      (dss_one (ds_ret (dv 3))))), ?_⟩
  · rintro ds M R E ⟨cells, p, k, ks, hs, rfl, q⟩; rfl
  rintro ds M R F ⟨cells, p, k, ks, hs, rfl, knd, klen, kw, hnd, hl0, hl1, hw, hp, q⟩
  show dSeq _ _ _ [some (.adr p), some (.lst (ks.map .str)), some (.lst (hs.map .str)), none, none, none, none, none, none, none] _
  with_reducible conv => whnf
  refine ⟨by decide, fun b hb => ?_⟩
  have hpb : b ≠ p := fun e => hp.some (e ▸ hb)
  have hp0 := hp.oth (m := .lst []) hpb
  with_reducible conv => whnf
  refine ⟨cells, p, k + 399, 8, rfl, by decide, by decide, hp0, fun i M1 i0 i1 hP hO => ?_⟩
  have hM1 : M1 b = some (.lst []) := by rw [hO b hpb, updM_same]
  with_reducible conv => whnf
  refine ⟨⟨by omega, by omega⟩, ?_⟩
  have rl : (rangeD 0 i.toNat).length = i.toNat := by simp [rangeD]
  refine for_by (fun j s2 M2 => (∃ a1 a2 a3 a4 a5 a6, s2 = [some (.adr p), some (.lst (ks.map .str)), some (.lst (hs.map .str)), some (.adr b), a1, a2, a3, a4, a5, a6]) ∧ ∃ rows : List Row, M2 b = some (.lst (rows.map rowT)) ∧ rows.length = j ∧ (∀ r ∈ rows, RowOk r) ∧ Pen cells p (k + 50 * (i.toNat - j)) M2 ∧ ∀ c, c ≠ p → c ≠ b → M2 c = M c) ⟨⟨_, _, _, _, _, _, rfl⟩, [], hM1, rfl, (fun _ h => nomatch h), hP.mono (by omega), fun c h1 h2 => by rw [hO c h1, updM_ne h2]⟩ ?_ ?_
  · rintro j x s2 M2 hx ⟨⟨a1, a2, a3, a4, a5, a6, rfl⟩, rows, hB, hrl, hrow, hP2, hO2⟩
    have hjn : j < i.toNat := rl ▸ (List.getElem?_eq_some_iff.mp hx).1
    with_reducible conv => whnf
    refine ⟨cells, p, k + 50 * (i.toNat - (j + 1)) + 42, _, rfl, by rw [List.length_map]; omega, hP2.mono (by rw [List.length_map]; omega), fun ys M3 pm hP3 hO3 => ?_⟩
    obtain ⟨zs, rfl, pz⟩ := perm_str pm
    have hzl : zs.length = hs.length := pz.length_eq
    have hznd := pz.nodup_iff.mpr hnd
    have hzw : ∀ x ∈ zs, Wd x := fun x hx => hw x (pz.mem_iff.mp hx)
    match zs, hzl, hznd, hzw with
    | [], h, _, _ => exact absurd h (by simp; omega)
    | [_], h, _, _ => exact absurd h (by simp; omega)
    | z1 :: z2 :: zs, hzl, hznd, hzw =>
    have w1 := hzw z1 (by simp)
    have w2 := hzw z2 (by simp)
    have hne : z1 ≠ z2 := fun e => by
      rw [List.nodup_cons] at hznd
      exact hznd.1 (e ▸ by simp)
    have ec : D.cutD ((z1 :: z2 :: zs).map DV.str) none (some 2) = [.str z1, .str z2] := by
      unfold D.cutD
      have e1 : HT.sIx ((z1 :: z2 :: zs).map DV.str).length 0 none = 0 := rfl
      have e2 : HT.sIx ((z1 :: z2 :: zs).map DV.str).length ((z1 :: z2 :: zs).map DV.str).length (some 2) = 2 := by
        simp [HT.sIx]
      rw [e1, e2]
      rfl
    with_reducible conv => whnf
    rw [ec]
    with_reducible conv => whnf
    refine ⟨cells, p, k + 50 * (i.toNat - (j + 1)) + 2, ks, rfl, knd, klen, hP3, fun c M4 c1 c2 c3 c4 hP4 hO4 => ?_⟩
    have dr : DrC ks c := ⟨c1, c2, c3, fun y hy => (c4 y hy).2⟩
    with_reducible conv => whnf
    refine ⟨cells, p, k + 50 * (i.toNat - (j + 1)) + 1, 4, rfl, by decide, by decide, hP4, fun way M5 y0 y1 hP5 hO5 => ?_⟩
    have hO6 := hO3.trans (hO4.trans hO5)
    clear hP3 hP4 hO3 hO4 hO5 c1 c2 c3 c4
    with_reducible conv => whnf
    refine ⟨(by show 2 ≤ sizeLine; decide), ?_⟩
    with_reducible conv => whnf
    refine cnd_d (fun _ => ?A) (fun _ => ?B)
    case' A =>
      with_reducible conv => whnf
      refine LcI.pure (selF c (fun _ => true) (fun v => if v < 0 then -v else v)) (fun d hd K1 K0 h1 h0 => ?_) (by rw [List.length_map, List.length_map, sizeLine_eq]; have := dr.2.2.1; omega) ?_
      · rw [all_strs] at hd
        obtain ⟨kk, hk, rfl⟩ := List.mem_map.mp hd
        with_reducible conv => whnf
        refine ⟨Sum.inr kk, _, rfl, valD_tK hk, ?_⟩
        with_reducible conv => whnf
        refine ⟨(by show 2 ≤ sizeLine; decide), ?_⟩
        exact h1 _ rfl
      with_reducible conv => whnf
      refine ⟨_, fm_sel dr.1 _ _, ?_⟩
      rw [merge_nil (sel_keys dr.1 _ _)]
      have dr1 : DrC ks (selC (fun _ => true) (fun v => if v < 0 then -v else v) c) := dr_sel dr fun v v0 v1 => by
        constructor <;> split <;> omega
      generalize selC (fun _ => true) (fun v => if v < 0 then -v else v) c = c1 at dr1
    case' B =>
      with_reducible conv => whnf
      have dr1 := dr
      generalize c = c1 at dr1 ⊢
    case' A =>
      with_reducible conv => whnf
      refine cnd_d (fun _ => ?A1) (fun _ => ?A2)
    case' B =>
      with_reducible conv => whnf
      refine cnd_d (fun _ => ?A3) (fun _ => ?A4)
    case' A1 =>
      with_reducible conv => whnf
      refine LcI.pure (selF c1 (fun _ => true) (fun v => 0 - (if v < 0 then -v else v))) (fun d hd K1 K0 h1 h0 => ?_) (by rw [List.length_map, List.length_map, sizeLine_eq]; have := dr1.2.2.1; omega) ?_
      · rw [all_strs] at hd
        obtain ⟨kk, hk, rfl⟩ := List.mem_map.mp hd
        with_reducible conv => whnf
        refine ⟨Sum.inr kk, _, rfl, valD_tK hk, ?_⟩
        with_reducible conv => whnf
        refine ⟨(by show 2 ≤ sizeLine; decide), ?_⟩
        exact h1 _ rfl
      with_reducible conv => whnf
      refine ⟨_, fm_sel dr1.1 _ _, ?_⟩
      rw [merge_nil (sel_keys dr1.1 _ _)]
      have dr2 : DrC ks (selC (fun _ => true) (fun v => 0 - (if v < 0 then -v else v)) c1) := dr_sel dr1 fun v v0 v1 => by
        constructor <;> split <;> omega
      generalize selC (fun _ => true) (fun v => 0 - (if v < 0 then -v else v)) c1 = c2 at dr2
    case' A3 =>
      with_reducible conv => whnf
      refine LcI.pure (selF c1 (fun _ => true) (fun v => 0 - (if v < 0 then -v else v))) (fun d hd K1 K0 h1 h0 => ?_) (by rw [List.length_map, List.length_map, sizeLine_eq]; have := dr1.2.2.1; omega) ?_
      · rw [all_strs] at hd
        obtain ⟨kk, hk, rfl⟩ := List.mem_map.mp hd
        with_reducible conv => whnf
        refine ⟨Sum.inr kk, _, rfl, valD_tK hk, ?_⟩
        with_reducible conv => whnf
        refine ⟨(by show 2 ≤ sizeLine; decide), ?_⟩
        exact h1 _ rfl
      with_reducible conv => whnf
      refine ⟨_, fm_sel dr1.1 _ _, ?_⟩
      rw [merge_nil (sel_keys dr1.1 _ _)]
      have dr2 : DrC ks (selC (fun _ => true) (fun v => 0 - (if v < 0 then -v else v)) c1) := dr_sel dr1 fun v v0 v1 => by
        constructor <;> split <;> omega
      generalize selC (fun _ => true) (fun v => 0 - (if v < 0 then -v else v)) c1 = c2 at dr2
    case' A2 =>
      with_reducible conv => whnf
      have dr2 := dr1
      generalize c1 = c2 at dr2 ⊢
    case' A4 =>
      with_reducible conv => whnf
      have dr2 := dr1
      generalize c1 = c2 at dr2 ⊢
    all_goals
      have hB5 : M5 b = some (.lst (rows.map rowT)) := by rw [hO6 b hpb, hB]
      with_reducible conv => whnf
      refine ⟨ty_at hB5, ?_⟩
      with_reducible conv => whnf
      refine ⟨c2, rfl, ⟨dr2.1, Nat.le_trans dr2.2.2.1 (by decide)⟩, ?_⟩
      with_reducible conv => whnf
      refine ⟨(by show 3 ≤ sizeLine; decide), ?_⟩
      with_reducible conv => whnf
      refine ⟨_, hB5, by rw [List.length_map, sizeLine_eq]; omega, ?_⟩
      with_reducible conv => whnf
      refine ⟨⟨_, _, _, _, _, _, rfl⟩, rows ++ [(z1, z2, clean c2)], by rw [updM_same, List.map_append]; rfl, by simp [hrl], fun r hr => ?_, (hP5.mono (by omega)).oth hpb, fun c h1 h2 => by rw [updM_ne h2, hO6 c h1, hO2 c h1 h2]⟩
      rcases List.mem_append.mp hr with h | h
      · exact hrow r h
      · rw [List.mem_singleton] at h
        subst h
        have dc := dr_clean dr2
        exact ⟨w1, w2, hne, srt_clean dr2.1, fun x hx => kw x (dc.2.1 x hx), dc.2.2⟩
  · rintro s2 M2 ⟨⟨a1, a2, a3, a4, a5, a6, rfl⟩, rows, hB, hrl, hrow, hP2, hO2⟩
    rw [rl] at hrl
    with_reducible conv => whnf
    refine Rf.lst (M0 := fun c => if c = p then M2 p else M c) hB (fun c o e => ?_) (q rows _ (by omega) hrow (k_pen (hP2.mono (by omega))) (fun c h => by simp [h]))
    unfold delM
    by_cases h1 : c = p
    · subst h1
      rw [if_neg (Ne.symm hpb)]
      simpa using e
    · simp only [if_neg h1] at e
      have h3 : c ≠ b := fun z => by rw [z, hb] at e; cases e
      rw [if_neg h3, hO2 c h1 h3, e]
end K87

set_option Elab.async false
set_option linter.all false
set_option maxRecDepth 100000
set_option maxHeartbeats 4000000
namespace K87
open PySem PySem.Spec PyProof.Rows L2 D
variable {P : Program} {w : World} {K : Fg} {mg : PySem.Str → Option Value} {base : Heap}
theorem sel_pos (c : CT) : selC (fun v => decide (0 < 1 * v)) (fun v => 1 * v) c = posC c := by
  unfold selC posC
  have e1 : (fun y : PySem.Str × Int => decide (0 < 1 * y.2)) = fun y => decide (0 < y.2) := by funext y; rw [Int.one_mul]
  have e2 : (fun y : PySem.Str × Int => (y.1, 1 * y.2)) = id := by funext y; rw [Int.one_mul]; rfl
  rw [e1, e2, List.map_id]
theorem sel_neg (c : CT) : selC (fun v => decide (0 < (-1) * v)) (fun v => (-1) * v) c = negC c := by
  unfold selC negC
  have e1 : (fun y : PySem.Str × Int => decide (0 < (-1) * y.2)) = fun y => decide (y.2 < 0) := by funext y; exact decide_eq_decide.mpr (by omega)
  have e2 : (fun y : PySem.Str × Int => (y.1, (-1) * y.2)) = fun y => (y.1, -y.2) := by funext y; rw [show (-1) * y.2 = -y.2 by omega]
  rw [e1, e2]
def lineD (num day : Int) (ls : List Row) : List DV := ls.mapIdx fun i r => .tup [.int (num + (i : Nat)), .int day, .str r.1, .str r.2.1, tD r.2.2]
theorem line_snoc (num day : Int) (ls : List Row) (r : Row) : lineD num day (ls ++ [r]) = lineD num day ls ++ [.tup [.int (num + (ls.length : Nat)), .int day, .str r.1, .str r.2.1, tD r.2.2]] := by
  unfold lineD
  rw [List.mapIdx_concat]
theorem line_len (num day : Int) (ls : List Row) : (lineD num day ls).length = ls.length := by simp [lineD]
def sp__law_lines : DSp := fun ds M Q _ => ∃ (rows : List Row) (day num : Int), ds = [.lst (rows.map rowT), .int day, .int num] ∧ rows.length ≤ 1000 ∧ (∀ r ∈ rows, RowOk r) ∧ Q (.lst (lineD num day (linesOf rows))) M
theorem sc__law_lines : FnScope ["_law_rows", "_law_when", "_law_first", "_law_found", "_law_one", "_law_other", "_law_counts_here", "_law_giver", "_law_taker", "_law_sign", "_law_part", "_law_kind"] ["_law_rows", "_law_when", "_law_first"] (defScope (top 41)) := ⟨rfl, rfl, rfl, by decide +kernel, rfl, by decide +kernel, by decide +kernel⟩
theorem kn__law_lines (W : Wld K mg) : Kn P w K mg base 3 (He.ga K "_law_lines") ["_law_rows", "_law_when", "_law_first"] sp__law_lines := by
  refine kn_of W.fn__law_lines sc__law_lines (fun _ _ _ _ _ _ us hl => match us, hl with | [_, _, _], _ => rfl) ?_ fun cdv A outer s H E hr => ⟨_, (dss_cons (ds_set 3 sc__law_lines.nd (de_lstM da_nil))
      (dss_cons (ds_for PassesOwn.never rfl (di_any (dv 0)) (dg_tup (n := 3) rfl (dgs_cons (dg_name 4 sc__law_lines.nd) (dgs_cons (dg_name 5 sc__law_lines.nd) (dgs_cons (dg_name 6 sc__law_lines.nd) (dgs_nil (vs := []))))))
      (dss_one (ds_for PassesOwn.never rfl (di_any (de_lst (da_cons (de_tup (da_cons (dv 4) (da_cons (dv 5) (da_cons de_int da_nil)))) (da_cons (de_tup (da_cons (dv 5) (da_cons (dv 4) (da_cons (de_neg de_int) da_nil)))) da_nil)))) (dg_tup (n := 3) rfl (dgs_cons (dg_name 7 sc__law_lines.nd) (dgs_cons (dg_name 8 sc__law_lines.nd) (dgs_cons (dg_name 9 sc__law_lines.nd) (dgs_nil (vs := []))))))
      (dss_cons (ds_set 10 sc__law_lines.nd (de_callTy (cd_dictP rfl) (by rfl) (W.free_dict) (by rfl) (da_cons (de_lc [("_law_kind", 11)] rfl sc__law_lines.nd (di_any (dv 6)) (by rfl) (fun _ _ _ _ _ => (dg_name 11 sc__law_lines.nd)) (fun _ _ _ _ _ => (dts_one (dt_cmp od_gt (de_op od_mul (dv 9) (de_ixD hr.units (dv 6) (dv 11))) de_int))) (fun _ _ _ _ _ => (de_tup (da_cons (dv 11) (da_cons (de_op od_mul (dv 9) (de_ixD hr.units (dv 6) (dv 11))) da_nil))))) da_nil)))
      (dss_one (ds_if (dt_cmp (od_neU hr.units) (dv 10) de_dnew) (dss_one (ds_expr (de_bm PySem.F.plainAttrs_list PySem.F.slot_list_append PySem.F.type_list_append md_app ty_lst (dv 3) (da_cons (de_tup (da_cons (de_op od_add (dv 2) (de_callB cd_len (by rfl) (W.free_len) (by rfl) (da_cons (dv 3) da_nil))) (da_cons (dv 1) (da_cons (dv 7) (da_cons (dv 8) (da_cons (dv 10) da_nil)))))) da_nil)))) dss_nil))))))
      (dss_one (ds_ret (dv 3))))), ?_⟩
  · rintro ds M R E ⟨x, n, day, rfl, q⟩; rfl
  rintro ds M R F ⟨rows, day, num, rfl, hlen, hrows, q⟩
  show dSeq _ _ _ [some (.lst (rows.map rowT)), some (.int day), some (.int num), none, none, none, none, none, none, none, none, none] _
  with_reducible conv => whnf
  refine ⟨by decide, fun p hp => ?_⟩
  with_reducible conv => whnf
  refine for_by (fun i s2 M2 => (∃ a b c e f g h t, s2 = [some (.lst (rows.map rowT)), some (.int day), some (.int num), some (.adr p), a, b, c, e, f, g, h, t]) ∧ M2 = updM M p (.lst (lineD num day (linesOf (rows.take i))))) ⟨⟨_, _, _, _, _, _, _, _, rfl⟩, rfl⟩ ?_ ?_
  · rintro i x s2 M2 hx ⟨⟨a, b, c, e, f, g, h, t, rfl⟩, rfl⟩
    rw [List.getElem?_map] at hx
    obtain ⟨r, hr, rfl⟩ := Option.map_eq_some_iff.mp hx
    obtain ⟨r1, r2, r3, rs, rw_, rl, rb⟩ := hrows r (List.mem_of_getElem? hr)
    have rg : Good r.2.2 := ⟨rs.2.1, by omega⟩
    with_reducible conv => whnf
    refine ⟨(by show 3 ≤ sizeLine; decide), ?_⟩
    with_reducible conv => whnf
    refine ⟨(by show 3 ≤ sizeLine; decide), ?_⟩
    with_reducible conv => whnf
    refine ⟨(by show 2 ≤ sizeLine; decide), ?_⟩
    with_reducible conv => whnf
    refine for_by (fun j s2 M2 => (∃ c7 c8 c9 c10 c11, s2 = [some (.lst (rows.map rowT)), some (.int day), some (.int num), some (.adr p), some (.str r.1), some (.str r.2.1), some (tD r.2.2), c7, c8, c9, c10, c11]) ∧ M2 = updM M p (.lst (lineD num day (linesOf (rows.take i) ++ ((totOf r).take j).flatMap oneOf)))) ⟨⟨_, _, _, _, _, rfl⟩, by simp⟩ ?_ ?_
    · rintro j y s2 M2 hy ⟨⟨c7, c8, c9, c10, c11, rfl⟩, rfl⟩
      have hu : ∃ (u : Row) (sg : Int), y = .tup [.str u.1, .str u.2.1, .int sg] ∧ (totOf r)[j]? = some u ∧ selC (fun v => decide (0 < sg * v)) (fun v => sg * v) r.2.2 = u.2.2 ∧ -1 ≤ sg ∧ sg ≤ 1 := by
        match j, hy with
        | 0, hy => exact ⟨(r.1, r.2.1, clean (posC r.2.2)), 1, (Option.some.inj hy).symm, rfl, by rw [sel_pos, clean_srt (srt_pos rs)], by decide, by decide⟩
        | 1, hy => exact ⟨(r.2.1, r.1, clean (negC r.2.2)), -1, (Option.some.inj hy).symm, rfl, by rw [sel_neg, clean_srt (srt_neg rs)], by decide, by decide⟩
        | j + 2, hy => exact absurd hy (by simp)
      obtain ⟨u, sg, rfl, hu, hsel, g0, g1⟩ := hu
      with_reducible conv => whnf
      refine LcI.pure (selF r.2.2 (fun v => decide (0 < sg * v)) (fun v => sg * v)) (fun d hd K1 K0 h1 h0 => ?_) (by rw [List.length_map, List.length_map, sizeLine_eq]; omega) ?_
      · rw [all_strs] at hd
        obtain ⟨kk, hk, rfl⟩ := List.mem_map.mp hd
        have hv := valD_tK hk
        with_reducible conv => whnf
        refine ⟨Sum.inr kk, _, rfl, hv, ?_⟩
        with_reducible conv => whnf
        refine ⟨.inl ⟨by omega, by omega⟩, ?_⟩
        with_reducible conv => whnf
        refine cnd_d (fun h => ?_) (fun h => ?_)
        · with_reducible conv => whnf
          refine ⟨Sum.inr kk, _, rfl, hv, ?_⟩
          with_reducible conv => whnf
          refine ⟨.inl ⟨by omega, by omega⟩, ?_⟩
          with_reducible conv => whnf
          refine ⟨(by show 2 ≤ sizeLine; decide), ?_⟩
          exact h1 _ (by unfold selF; exact if_pos (decide_eq_true h))
        · exact h0 (by unfold selF; exact if_neg (fun z => h (of_decide_eq_true z)))
      with_reducible conv => whnf
      refine ⟨_, fm_sel rs.2.1 _ _, ?_⟩
      rw [merge_nil (sel_keys rs.2.1 _ _), hsel]
      with_reducible conv => whnf
      refine cnd_i (fun hb => ?_) (fun hb => ?_)
      · have hne : u.2.2.isEmpty = false := by
          cases e : u.2.2 with
          | nil => rw [e] at hb; cases hb
          | cons _ _ => rfl
        have h1' : oneOf u = [u] := by unfold oneOf; rw [if_neg (by simp [hne])]
        with_reducible conv => whnf
        refine ⟨ty_at updM_same, ?_⟩
        with_reducible conv => whnf
        rw [view_lst updM_same]
        with_reducible conv => whnf
        have len2 : (linesOf (rows.take i) ++ ((totOf r).take j).flatMap oneOf).length ≤ 3000 := by
          rw [List.length_append]
          have a1 := lines_len (rows.take i)
          have a2 := flat_len ((totOf r).take j)
          have a3 : (rows.take i).length ≤ rows.length := by rw [List.length_take]; omega
          have a4 : ((totOf r).take j).length ≤ 2 := by
            have : (totOf r).length = 2 := rfl
            rw [List.length_take]; omega
          omega
        rw [line_len]
        refine ⟨(by show 5 ≤ sizeLine; decide), ?_⟩
        with_reducible conv => whnf
        refine ⟨_, updM_same, by rw [line_len, sizeLine_eq]; omega, ?_⟩
        with_reducible conv => whnf
        refine ⟨⟨_, _, _, _, _, rfl⟩, ?_⟩
        rw [updM_updM, take_flat hu, h1', ← List.append_assoc, line_snoc]
      · have hem : u.2.2.isEmpty = true := by
          cases e : u.2.2 with
          | nil => rfl
          | cons _ _ => rw [e] at hb; cases hb
        have h1' : oneOf u = [] := by unfold oneOf; rw [if_pos hem]
        with_reducible conv => whnf
        refine ⟨⟨_, _, _, _, _, rfl⟩, ?_⟩
        rw [take_flat hu, h1', List.append_nil]
    · rintro s2 M2 ⟨⟨c7, c8, c9, c10, c11, rfl⟩, rfl⟩
      with_reducible conv => whnf
      refine ⟨⟨_, _, _, _, _, _, _, _, rfl⟩, ?_⟩
      have e1 : linesOf (rows.take (i + 1)) = linesOf (rows.take i) ++ (totOf r).flatMap oneOf := take_flat hr
      rw [e1]
      rfl
  · rintro s2 M2 ⟨⟨a, b, c, e, f, g, h, t, rfl⟩, rfl⟩
    rw [List.length_map, List.take_length]
    with_reducible conv => whnf
    exact Rf.lst updM_same (fun a o e => by
      unfold delM
      by_cases ha : a = p
      · rw [ha, hp] at e; cases e
      · rw [if_neg ha, updM_ne ha]; exact e) q
end K87

set_option Elab.async false
set_option linter.all false
set_option maxRecDepth 100000
set_option maxHeartbeats 4000000
set_option pp.maxSteps 1200
namespace K87
open PySem PySem.Spec PyProof.Rows L2 D
variable {P : Program} {w : World} {K : Fg} {mg : PySem.Str → Option Value} {base : Heap}
def sp_law : DSp := fun ds M Q _ => ∃ ns : List Int, ds = [.lst (ns.map .int)] ∧ ns.length ≤ 1000000 ∧ ∀ M', Q (.bl true) M'
theorem wd_signs {x : PySem.Str} (h : Wd x) : ∀ c ∈ x.cps.toList, c < 16 ^ 8 := fun c hc => by
  have := (h.2 c hc).2
  have : (16 : Nat) ^ 8 = 4294967296 := by decide
  omega
theorem rp_wd {x : PySem.Str} (h : Wd x) : Rp 4 1000 (.str x) := (rp_str h.1.2 (wd_signs h)).mono (by decide) (by decide)
theorem rp_i {i : Int} (h : i.natAbs < 2 ^ 200) : Rp 4 1000 (.int i) := (rp_int h).mono (by decide) (by decide)
theorem rp_c {c : CT} (hw : ∀ x ∈ c.map Prod.fst, Wd x) (hl : c.length ≤ 8) (hb : ∀ y ∈ c, -1000000000 ≤ y.2 ∧ y.2 ≤ 1000000000) : Rp 4 10000 (tD c) := by
  have h200 : (1000000000 : Nat) < 2 ^ 200 := by decide
  refine (rp_ti (k := 8) fun y hy => ?_).mono (by decide) ?_
  · have w := hw _ (List.mem_map_of_mem (f := Prod.fst) hy)
    have := hb y hy
    exact ⟨w.1.2, wd_signs w, by omega⟩
  · have : c.length * (10 * 8 + 208) ≤ 8 * (10 * 8 + 208) := Nat.mul_le_mul_right _ hl
    omega
theorem rp_rowT {r : Row} (h : RowOk r) : Rp 5 100000 (rowT r) := by
  refine (rp_tup (m := 4) (n := 10000) fun d hd => ?_).mono (by decide) (by show 3 + 3 * (10000 + 2) ≤ 100000; decide)
  simp only [List.mem_cons, List.mem_nil_iff, or_false] at hd
  rcases hd with rfl | rfl | rfl
  · exact (rp_wd h.1).mono (by decide) (by decide)
  · exact (rp_wd h.2.1).mono (by decide) (by decide)
  · exact rp_c h.2.2.2.2.1 h.2.2.2.2.2.1 h.2.2.2.2.2.2
theorem rp_rows {rows : List Row} (hl : rows.length ≤ 7) (h : ∀ r ∈ rows, RowOk r) : Rp 6 16777216 (.lst (rows.map rowT)) := by
  refine (rp_lst (m := 5) (n := 100000) fun d hd => ?_).mono (by decide) ?_
  · obtain ⟨r, hr, rfl⟩ := List.mem_map.mp hd
    exact rp_rowT (h r hr)
  · rw [List.length_map]
    have : rows.length * (100000 + 2) ≤ 7 * (100000 + 2) := Nat.mul_le_mul_right _ hl
    omega
def LineOk (r : Row) : Prop := Wd r.1 ∧ Wd r.2.1 ∧ (∀ x ∈ r.2.2.map Prod.fst, Wd x) ∧ r.2.2.length ≤ 8 ∧ ∀ y ∈ r.2.2, -1000000000 ≤ y.2 ∧ y.2 ≤ 1000000000
theorem ok_of {r : Row} (h : RowOk r) : OkRow r := ⟨h.1, h.2.1, h.2.2.1, h.2.2.2.1.2.1, Nat.le_trans h.2.2.2.2.2.1 (by decide)⟩
theorem lines_ok {rows : List Row} (h : ∀ r ∈ rows, RowOk r) : ∀ u ∈ linesOf rows, LineOk u := by
  intro u hu
  unfold linesOf at hu
  obtain ⟨r, hr, hu⟩ := List.mem_flatMap.mp hu
  obtain ⟨t, ht, hu⟩ := List.mem_flatMap.mp hu
  have e : u = t := by
    unfold oneOf at hu
    split at hu
    · simp at hu
    · simpa using hu
  subst e
  obtain ⟨h1, h2, h3, h4, h5, h6, h7⟩ := h r hr
  unfold totOf at ht
  rcases List.mem_cons.mp ht with e | e
  · subst e
    rw [clean_srt (srt_pos h4)]
    have sub : ((posC r.2.2).map Prod.fst).Sublist (r.2.2.map Prod.fst) := List.Sublist.map _ List.filter_sublist
    exact ⟨h1, h2, fun x hx => h5 x (sub.subset hx), Nat.le_trans (List.length_filter_le _ _) h6, fun y hy => h7 y (List.mem_filter.mp hy).1⟩
  · rw [List.mem_singleton] at e
    subst e
    rw [clean_srt (srt_neg h4)]
    refine ⟨h2, h1, fun x hx => h5 x ((neg_fst _).subset hx), ?_, fun y hy => ?_⟩
    · unfold negC
      rw [List.length_map]
      exact Nat.le_trans (List.length_filter_le _ _) h6
    · obtain ⟨z, hz, rfl⟩ := List.mem_map.mp hy
      have := h7 z (List.mem_filter.mp hz).1
      constructor
      · show _ ≤ -z.2
        omega
      · show -z.2 ≤ _
        omega
theorem rp_line {rows : List Row} (hl : rows.length ≤ 7) (h : ∀ r ∈ rows, RowOk r) {num day : Int} (hn : num.natAbs ≤ 10 ^ 21) (hd : day.natAbs ≤ 10 ^ 31) : Rp 6 16777216 (.lst (lineD num day (linesOf rows))) := by
  have hll := lines_len rows
  refine (rp_lst (m := 5) (n := 100000) fun d hd' => ?_).mono (by decide) ?_
  · unfold lineD at hd'
    obtain ⟨i, hi, rfl⟩ := List.mem_mapIdx.mp hd'
    have ok := lines_ok h _ (List.getElem_mem hi)
    generalize (linesOf rows)[i] = r at ok
    have p1 : (10 : Nat) ^ 21 + 14 < 2 ^ 200 := by decide
    have p2 : (10 : Nat) ^ 31 < 2 ^ 200 := by decide
    refine (rp_tup (m := 4) (n := 10000) fun d hd => ?_).mono (by decide) (by show 3 + 5 * (10000 + 2) ≤ 100000; decide)
    simp only [List.mem_cons, List.mem_nil_iff, or_false] at hd
    rcases hd with rfl | rfl | rfl | rfl | rfl
    · exact (rp_i (by omega)).mono (by decide) (by decide)
    · exact (rp_i (by omega)).mono (by decide) (by decide)
    · exact (rp_wd ok.1).mono (by decide) (by decide)
    · exact (rp_wd ok.2.1).mono (by decide) (by decide)
    · exact rp_c ok.2.2.1 ok.2.2.2.1 ok.2.2.2.2
  · rw [line_len]
    have : (linesOf rows).length * (100000 + 2) ≤ 14 * (100000 + 2) := Nat.mul_le_mul_right _ (by omega)
    omega
theorem fm_idx {F : DV → Option DV} : ∀ (ls : List Row) (f g : Nat → Row → DV), (∀ i r, F (f i r) = some (g i r)) → (ls.mapIdx f).filterMap F = ls.mapIdx g
  | [], _, _, _ => rfl
  | r :: ls, f, g, h => by
    rw [List.mapIdx_cons, List.mapIdx_cons, List.filterMap_cons, h, fm_idx ls _ _ fun i r => h (i + 1) r]
theorem fm_none : ∀ l : List DV, l.filterMap (fun _ => (none : Option DV)) = []
  | [] => rfl
  | _ :: l => fm_none l
theorem sc_law : FnScope ["_law_script", "_law_pen_here", "_law_turn", "_law_first", "_law_some", "_law_due", "_law_told", "_law_kinds", "_law_houses", "_law_rows", "_law_when", "_law_lines_here", "_law_one", "_law_other", "_law_counts_here", "_law_note"] ["_law_script"] (defScope (top 42)) := ⟨rfl, rfl, rfl, by decide +kernel, rfl, by decide +kernel, by decide +kernel⟩
theorem kn_law (W : Wld K mg) {fd : FuncData} (F : Fun K "law" "law" (top 42) (He.ga K "law") fd) : FnG P w K mg base 13 (He.ga K "law") fd ["_law_script"] (liftSp sp_law) := by
  refine ok_fnG F sc_law ?_ fun cdv A outer s H E hgd hsm hr => ?_
  rotate_left
  have sh : Sh (cxOf CX0 P w K mg base ["_law_script", "_law_pen_here", "_law_turn", "_law_first", "_law_some", "_law_due", "_law_told", "_law_kinds", "_law_houses", "_law_rows", "_law_when", "_law_lines_here", "_law_one", "_law_other", "_law_counts_here", "_law_note"] "law" (defScope (top 42)) (He.ga K "law") cdv A outer s H E).nox := ⟨hgd, hsm⟩
  refine ⟨_, (dss_cons (ds_set 1 sc_law.nd (de_callK (kn__law_pen W) (hr.mono (by decide)) (by rfl) (W.glo__law_pen) (da_cons (dv 0) da_nil)))
      (dss_cons (ds_for PassesOwn.never rfl (di_range1 (by rfl) (W.free_range) (da_cons (de_op od_add de_int (de_callB (cd_min rfl) (by rfl) (W.free_min) (by rfl) (da_cons de_int (da_cons (de_callB cd_len (by rfl) (W.free_len) (by rfl) (da_cons (dv 0) da_nil)) da_nil)))) da_nil)) (dg_name 2 sc_law.nd)
      (dss_cons (ds_par 7 8 rfl sc_law.nd (da_cons (de_callK (kn__law_words W) (hr.mono (by decide)) (by rfl) (W.glo__law_words) (da_cons (dv 1) (da_cons (de_op od_add de_int (de_callK (kn__law_draw W) (hr.mono (by decide)) (by rfl) (W.glo__law_draw) (da_cons (dv 1) (da_cons de_int da_nil)))) da_nil))) (da_cons (de_callK (kn__law_words W) (hr.mono (by decide)) (by rfl) (W.glo__law_words) (da_cons (dv 1) (da_cons (de_op od_add de_int (de_callK (kn__law_draw W) (hr.mono (by decide)) (by rfl) (W.glo__law_draw) (da_cons (dv 1) (da_cons de_int da_nil)))) da_nil))) da_nil)))
      (dss_cons (ds_par 9 10 rfl sc_law.nd (da_cons (de_callK (kn__law_some_drives W) (hr.mono (by decide)) (by rfl) (W.glo__law_some_drives) (da_cons (dv 1) (da_cons (dv 7) (da_cons (dv 8) da_nil)))) (da_cons (de_callK (kn__law_pick W) (hr.mono (by decide)) (by rfl) (W.glo__law_pick) (da_cons (dv 1) (da_cons (de_lst (da_cons de_int (da_cons de_int (da_cons (de_neg de_int) (da_cons (de_callK (kn__law_count W) (hr.mono (by decide)) (by rfl) (W.glo__law_count) (da_cons (dv 1) da_nil)) (da_cons (de_op od_pow de_int de_int) da_nil)))))) da_nil))) da_nil)))
      (dss_cons (ds_set 3 sc_law.nd (de_callK (kn__law_pick W) (hr.mono (by decide)) (by rfl) (W.glo__law_pick) (da_cons (dv 1) (da_cons (de_lst (da_cons de_int (da_cons de_int (da_cons de_int (da_cons de_int (da_cons de_int (da_cons (de_op od_pow de_int de_int) (da_cons (de_op od_add de_int (de_callK (kn__law_draw W) (hr.mono (by decide)) (by rfl) (W.glo__law_draw) (da_cons (dv 1) (da_cons de_int da_nil)))) da_nil)))))))) da_nil))))
      (dss_cons (ds_setLc 4 [("_law_one", 12), ("_law_other", 13), ("_law_counts_here", 14)] rfl sc_law.nd (di_any (dv 9)) (by rfl) (fun _ _ _ _ _ => (dg_tup (n := 3) rfl (dgs_cons (dg_name 12 sc_law.nd) (dgs_cons (dg_name 13 sc_law.nd) (dgs_cons (dg_name 14 sc_law.nd) (dgs_nil (vs := []))))))) (fun _ _ _ _ _ => dts_nil) (fun _ _ _ _ _ => (de_tup (da_cons (dv 12) (da_cons (dv 13) (da_cons (de_cm (de_globA (W.glo_Load) (by rfl)) (W.read_Load) (W.cm_Load_of) (kn_Load_of W).fnd (hr.mono (by decide)) (da_cons (dv 14) da_nil)) da_nil))))))
      (dss_cons (ds_set 5 sc_law.nd (de_callB (cd_repr sh hr.units) (by rfl) (W.free_repr) (by rfl) (da_cons (de_callK (kn__law_lines W) (hr.mono (by decide)) (by rfl) (W.glo__law_lines) (da_cons (dv 9) (da_cons (dv 10) (da_cons (dv 3) da_nil)))) da_nil)))
      (dss_cons (ds_for PassesOwn.never rfl (di_any (de_lst (da_cons (de_callK (kn_drive_notes W) (hr.mono (by decide)) (by rfl) (W.glo_drive_notes) (da_cons (dv 4) (da_cons (dv 10) (da_cons (dv 3) da_nil)))) (da_cons (de_callN0 [2, 1, 0] (kw_drive_notes (P := P) (w := w) (base := base) W).choose_spec.1 (hr.mono (by decide)) (by rfl) (W.glo_drive_notes) (kw_drive_notes (P := P) (w := w) (base := base) W).choose_spec.2.2 (kw_drive_notes (P := P) (w := w) (base := base) W).choose_spec.2.1 (dk_cons (dv 3) (dk_cons (dv 10) (dk_cons (de_callTy cd_tup (by rfl) (W.free_tuple) (by rfl) (da_cons (dv 4) da_nil)) dk_nil)))) da_nil)))) (dg_name 6 sc_law.nd)
      (dss_cons (ds_if (DW.dt (dw_or (dt_not (dt_val (de_callB (cd_isiK K rfl) (by rfl) (W.free_isinstance) (by rfl) (da_cons (dv 6) (da_cons (de_bltn (fun _ => .ty "list") (by rfl) (W.free_list) (by rfl) rfl) da_nil))))) (dw_or1 (dt_cmp (od_neU hr.units) (de_lc [("_law_note", 15)] rfl sc_law.nd (di_any (dv 6)) (by rfl) (fun _ _ _ _ _ => (dg_name 15 sc_law.nd)) (fun _ _ _ _ _ => (dts_one (dt_not (dt_val (de_callB (cd_isiK K rfl) (by rfl) (W.free_isinstance) (by rfl) (da_cons (dv 15) (da_cons (de_globA (W.glo_Note) (by rfl)) da_nil))))))) (fun _ _ _ _ _ => (dv 15))) (de_lst da_nil))))) (dss_one (ds_ret de_bl)) dss_nil)
      (dss_cons (ds_setLc 11 [("_law_note", 15)] rfl sc_law.nd (di_any (dv 6)) (by rfl) (fun _ _ _ _ _ => (dg_name 15 sc_law.nd)) (fun _ _ _ _ _ => dts_nil) (fun _ _ _ _ _ => (de_tup (da_cons (de_fld (He.ga K "Note") ["number", "day", "giver", "taker", "load"] 0 (W.cls_Note) (W.noat_Note_number) (dv 15)) (da_cons (de_fld (He.ga K "Note") ["number", "day", "giver", "taker", "load"] 1 (W.cls_Note) (W.noat_Note_day) (dv 15)) (da_cons (de_fld (He.ga K "Note") ["number", "day", "giver", "taker", "load"] 2 (W.cls_Note) (W.noat_Note_giver) (dv 15)) (da_cons (de_fld (He.ga K "Note") ["number", "day", "giver", "taker", "load"] 3 (W.cls_Note) (W.noat_Note_taker) (dv 15)) (da_cons (de_propK (W.cls_Load) (W.prop_Load_counts) (kn_Load_counts W) (hr.mono (by decide)) (de_fld (He.ga K "Note") ["number", "day", "giver", "taker", "load"] 4 (W.cls_Note) (W.noat_Note_load) (dv 15))) da_nil))))))))
      (dss_one (ds_if (dt_cmp (od_neU hr.units) (de_callB (cd_repr sh hr.units) (by rfl) (W.free_repr) (by rfl) (da_cons (dv 11) da_nil)) (dv 5)) (dss_one (ds_ret de_bl)) dss_nil)))))
      (dss_one (ds_if (dt_cmp (od_neU hr.units) (de_callB (cd_repr sh hr.units) (by rfl) (W.free_repr) (by rfl) (da_cons (de_callK (kn__law_rows_of W) (hr.mono (by decide)) (by rfl) (W.glo__law_rows_of) (da_cons (dv 4) da_nil)) da_nil)) (de_callB (cd_repr sh hr.units) (by rfl) (W.free_repr) (by rfl) (da_cons (dv 9) da_nil))) (dss_one (ds_ret de_bl)) dss_nil)))))))))
      (dss_one (ds_ret de_bl)))), ?_⟩
  rotate_left
  · rintro ds M R E ⟨ns, rfl, q⟩; rfl
  rintro ds M R F ⟨ns, rfl, hl, q⟩
  show dSeq _ _ _ [some (.lst (ns.map .int)), none, none, none, none, none, none, none, none, none, none, none, none, none, none, none] _
  with_reducible conv => whnf
  refine ⟨ns, rfl, fun cells p M1 hpn hP hO => ?_⟩
  with_reducible conv => whnf
  have hT : (0 : Int) ≤ 5 + (if ((ns.map DV.int).length : Int) < 5 then ((ns.map DV.int).length : Int) else 5) ∧ 5 + (if ((ns.map DV.int).length : Int) < 5 then ((ns.map DV.int).length : Int) else 5) ≤ 10 := by
    split <;> omega
  generalize 5 + (if ((ns.map DV.int).length : Int) < 5 then ((ns.map DV.int).length : Int) else 5) = T at hT
  refine ⟨⟨by omega, by omega⟩, ?_⟩
  have rl : (rangeD 0 T.toNat).length = T.toNat := by simp [rangeD]
  have h59 : 10000 < 2 ^ 59 := by decide
  refine for_by (fun i s2 M2 => (∃ a2 a3 a4 a5 a6 a7 a8 a9 a10 a11 a12 a13 a14 a15, s2 = [some (.lst (ns.map .int)), some (.adr p), a2, a3, a4, a5, a6, a7, a8, a9, a10, a11, a12, a13, a14, a15]) ∧ Pen cells p (1000 * (T.toNat - i)) M2) ⟨⟨_, _, _, _, _, _, _, _, _, _, _, _, _, _, rfl⟩, hP.mono (by omega)⟩ ?_ ?_
  · rintro i x s2 M2 hx ⟨⟨a2, a3, a4, a5, a6, a7, a8, a9, a10, a11, a12, a13, a14, a15, rfl⟩, hP2⟩
    have hin : i < T.toNat := rl ▸ (List.getElem?_eq_some_iff.mp hx).1
    have hP2 : Pen cells p (1000 * (T.toNat - (i + 1)) + 1000) M2 := hP2.mono (by omega)
    generalize 1000 * (T.toNat - (i + 1)) = k at hP2
    with_reducible conv => whnf
    refine ⟨cells, p, k + 999, 4, rfl, by decide, by decide, hP2, fun d1 M3 d10 d11 hP3 _ => ?_⟩
    with_reducible conv => whnf
    refine ⟨cells, p, k + 979, 3 + d1, rfl, by omega, by omega, hP3, fun ks M4 kl kw knd hP4 _ => ?_⟩
    with_reducible conv => whnf
    refine ⟨cells, p, k + 978, 6, rfl, by decide, by decide, hP4, fun d2 M5 d20 d21 hP5 _ => ?_⟩
    with_reducible conv => whnf
    refine ⟨cells, p, k + 958, 2 + d2, rfl, by omega, by omega, hP5, fun hs M6 hl hw hnd hP6 _ => ?_⟩
    with_reducible conv => whnf
    refine ⟨cells, p, k + 558, ks, hs, rfl, knd, by omega, kw, hnd, by omega, by omega, hw, hP6, fun rows M7 rlen rok hP7 _ => ?_⟩
    with_reducible conv => whnf
    refine ⟨cells, p, k + 555, rfl, hP7, fun v M8 v0 v1 v2 hP8 _ => ?_⟩
    with_reducible conv => whnf
    refine ⟨⟨by decide, by decide, by decide⟩, ?_⟩
    with_reducible conv => whnf
    refine ⟨(by show 5 ≤ sizeLine; decide), ?_⟩
    with_reducible conv => whnf
    refine ⟨cells, p, k + 554, _, _, rfl, .inl rfl, by show 0 < 5; decide, by show 5 < 1000000; decide, hP8, fun d hd M9 hP9 _ => ?_⟩
    have hday : ∃ day : Int, d = .int day ∧ day.natAbs ≤ 10 ^ 31 := by
      have p1 : (1000000000 : Nat) ≤ 10 ^ 31 := by decide
      simp only [List.mem_cons, List.mem_nil_iff, or_false] at hd
      rcases hd with rfl | rfl | rfl | rfl | rfl
      · exact ⟨_, rfl, by decide⟩
      · exact ⟨_, rfl, by decide⟩
      · exact ⟨_, rfl, by decide⟩
      · exact ⟨_, rfl, by omega⟩
      · exact ⟨_, rfl, by decide⟩
    obtain ⟨day, rfl, hday⟩ := hday
    with_reducible conv => whnf
    refine ⟨⟨by decide, by decide, by decide⟩, ?_⟩
    with_reducible conv => whnf
    refine ⟨cells, p, k + 553, 9999, rfl, by decide, by decide, hP9, fun d3 M10 d30 d31 hP10 _ => ?_⟩
    with_reducible conv => whnf
    refine ⟨(by show 7 ≤ sizeLine; decide), ?_⟩
    with_reducible conv => whnf
    refine ⟨cells, p, k + 552, _, _, rfl, .inl rfl, by show 0 < 7; decide, by show 7 < 1000000; decide, hP10, fun d hd M11 hP11 _ => ?_⟩
    have hnum : ∃ num : Int, d = .int num ∧ 1 ≤ num ∧ num.natAbs ≤ 10 ^ 21 := by
      have p1 : (100000 : Nat) ≤ 10 ^ 21 := by decide
      simp only [List.mem_cons, List.mem_nil_iff, or_false] at hd
      rcases hd with rfl | rfl | rfl | rfl | rfl | rfl | rfl
      · exact ⟨_, rfl, by decide, by decide⟩
      · exact ⟨_, rfl, by decide, by decide⟩
      · exact ⟨_, rfl, by decide, by decide⟩
      · exact ⟨_, rfl, by decide, by decide⟩
      · exact ⟨_, rfl, by decide, by decide⟩
      · exact ⟨_, rfl, by decide, by decide⟩
      · exact ⟨_, rfl, by omega, by omega⟩
    obtain ⟨num, rfl, hnum1, hnum2⟩ := hnum
    have hPend : Pen cells p k M11 := hP11.mono (by omega)
    clear hd hP2 hP3 hP4 hP5 hP6 hP7 hP8 hP9 hP10 hP11
    with_reducible conv => whnf
    refine LcI.pure (fun d => match d with
      | .tup [.str a, .str b, l] => some (.tup [.str a, .str b, .obj (LoadA K) [("own_counts", l)]])
      | _ => none) (fun d hd K1 K0 h1 h0 => ?_) (by rw [List.length_map, sizeLine_eq]; omega) ?_
    · obtain ⟨r, hr, rfl⟩ := List.mem_map.mp hd
      have ok := rok r hr
      with_reducible conv => whnf
      refine ⟨rfl, ?_⟩
      with_reducible conv => whnf
      refine ⟨r.2.2, rfl, ⟨ok.2.2.2.1.2.1, Nat.le_trans ok.2.2.2.2.2.1 (by decide)⟩, ok.2.2.2.2.1, ?_⟩
      rw [clean_srt ok.2.2.2.1]
      with_reducible conv => whnf
      refine ⟨(by show 3 ≤ sizeLine; decide), ?_⟩
      exact h1 _ rfl
    have esome : ∀ l : List Row, (l.map rowT).filterMap (fun d => match d with
      | .tup [.str a, .str b, l] => some (.tup [.str a, .str b, .obj (LoadA K) [("own_counts", l)]])
      | _ => none) = l.map (rowD K) := fun l => by
      induction l with
      | nil => rfl
      | cons r l ih => simp only [List.map_cons, List.filterMap_cons, ih]
    rw [esome]
    have rok2 : ∀ r ∈ rows, OkRow r := fun r hr => ok_of (rok r hr)
    with_reducible conv => whnf
    refine ⟨rows, day, num, rfl, by omega, rok, ?_⟩
    with_reducible conv => whnf
    have rpl := rp_line rlen rok hnum2 hday
    refine ⟨rpl.1, rpl.2.1, Nat.le_trans rpl.2.2.1 (by decide), by rw [sizeLine_eq]; exact rpl.2.2.2, ?_⟩
    with_reducible conv => whnf
    refine ⟨rows, day, num, _, rfl, .inl rfl, hnum1, rok2, by omega, ?_⟩
    with_reducible conv => whnf
    refine ⟨rfl, rows, day, num, _, rfl, .inr rfl, hnum1, rok2, by omega, ?_⟩
    with_reducible conv => whnf
    refine ⟨(by show 2 ≤ sizeLine; decide), ?_⟩
    have rpr := rp_rows rlen rok
    generalize hdue : (pyD (.lst (lineD num day (linesOf rows)))).shown = due
    with_reducible conv => whnf
    refine for_by (fun j s2 M2 => (∃ b6 b11 b12 b13 b14 b15, s2 = [some (.lst (ns.map .int)), some (.adr p), some x, some (.int num), some (.lst (rows.map (rowD K))), some (.str due), b6, some (.lst (ks.map .str)), some (.lst (hs.map .str)), some (.lst (rows.map rowT)), some (.int day), b11, b12, b13, b14, b15]) ∧ M2 = M11) ⟨⟨_, _, _, _, _, _, rfl⟩, rfl⟩ ?_ ?_
    · rintro j d s2 M2 hd ⟨⟨b6, b11, b12, b13, b14, b15, rfl⟩, rfl⟩
      have ed : d = .lst (notesD K num day (linesOf rows)) := by
        match j, hd with
        | 0, hd => exact (Option.some.inj hd).symm
        | 1, hd => exact (Option.some.inj hd).symm
        | j + 2, hd => exact absurd hd (by simp)
      subst ed
      have hnl : (notesD K num day (linesOf rows)).length ≤ sizeLine := by
        have := lines_len rows
        rw [notes_len, sizeLine_eq]
        omega
      with_reducible conv => whnf
      refine ⟨_, _, true, rfl, rfl, (fun C e => by cases e), W.kit_list_list_true, ?_⟩
      with_reducible conv => whnf
      refine cnd_f ?_
      with_reducible conv => whnf
      refine LcI.pure (fun _ => none) (fun d hd K1 K0 h1 h0 => ?_) hnl ?_
      · obtain ⟨i, hi, rfl⟩ := List.mem_mapIdx.mp hd
        with_reducible conv => whnf
        refine ⟨_, _, true, rfl, rfl, (fun C e => by cases e; exact W.isok_Note), W.kit_Note_Note_true, ?_⟩
        exact cnd_f (h0 rfl)
      rw [fm_none]
      with_reducible conv => whnf
      refine ⟨by decide, ?_⟩
      with_reducible conv => whnf
      refine cnd_f ?_
      with_reducible conv => whnf
      refine LcI.pure (fun d => match d with
        | .obj _ [(_, n), (_, y), (_, g), (_, t), (_, .obj _ [(_, c)])] => some (.tup [n, y, g, t, c])
        | _ => none) (fun d hd K1 K0 h1 h0 => ?_) hnl ?_
      · obtain ⟨i, hi, rfl⟩ := List.mem_mapIdx.mp hd
        with_reducible conv => whnf
        refine ⟨⟨rfl, rfl⟩, ?_⟩
        with_reducible conv => whnf
        refine ⟨⟨rfl, rfl⟩, ?_⟩
        with_reducible conv => whnf
        refine ⟨⟨rfl, rfl⟩, ?_⟩
        with_reducible conv => whnf
        refine ⟨⟨rfl, rfl⟩, ?_⟩
        with_reducible conv => whnf
        refine ⟨⟨rfl, rfl⟩, ?_⟩
        with_reducible conv => whnf
        refine ⟨rfl, _, rfl, ?_⟩
        with_reducible conv => whnf
        refine ⟨(by show 5 ≤ sizeLine; decide), ?_⟩
        exact h1 _ rfl
      have el := fm_idx (F := fun d => match d with
        | .obj _ [(_, n), (_, y), (_, g), (_, t), (_, .obj _ [(_, c)])] => some (.tup [n, y, g, t, c])
        | _ => none) (linesOf rows) (fun i r => noteD K (num + (i : Nat)) day r.1 r.2.1 r.2.2) (fun i r => .tup [.int (num + (i : Nat)), .int day, .str r.1, .str r.2.1, tD r.2.2]) fun i r => rfl
      unfold notesD
      rw [el]
      show _
      with_reducible conv => whnf
      refine ⟨rpl.1, rpl.2.1, Nat.le_trans rpl.2.2.1 (by decide), by rw [sizeLine_eq]; exact rpl.2.2.2, ?_⟩
      with_reducible conv => whnf
      refine cnd_nd (fun n => absurd hdue n) fun _ => ?_
      with_reducible conv => whnf
      exact ⟨⟨_, _, _, _, _, _, rfl⟩, rfl⟩
    · rintro s2 M2 ⟨⟨b6, b11, b12, b13, b14, b15, rfl⟩, rfl⟩
      with_reducible conv => whnf
      refine ⟨rows, rfl, by omega, ?_⟩
      with_reducible conv => whnf
      refine ⟨rpr.1, rpr.2.1, Nat.le_trans rpr.2.2.1 (by decide), by rw [sizeLine_eq]; exact rpr.2.2.2, ?_⟩
      with_reducible conv => whnf
      refine ⟨rpr.1, rpr.2.1, Nat.le_trans rpr.2.2.1 (by decide), by rw [sizeLine_eq]; exact rpr.2.2.2, ?_⟩
      with_reducible conv => whnf
      refine cnd_nd (fun n => absurd rfl n) fun _ => ?_
      with_reducible conv => whnf
      exact ⟨⟨_, _, _, _, _, _, _, _, _, _, _, _, _, _, rfl⟩, hPend⟩
  · rintro s2 M2 ⟨⟨a2, a3, a4, a5, a6, a7, a8, a9, a10, a11, a12, a13, a14, a15, rfl⟩, hP2⟩
    with_reducible conv => whnf
    exact Rf.of (q _)
end K87

set_option Elab.async false
set_option linter.all false
set_option maxRecDepth 100000
set_option maxHeartbeats 0
namespace K87
open PySem PySem.Spec PyProof.Rows L2
abbrev R : PySem.W.OpenRow := PySem.W.OpenLaw.row PySem.Challenge.rw_crateround_k87_notes_that_tell_drives
abbrev hk : PySem.W.Hook := D.hookX 6 facts fns
def ob (s : PySem.W.SharedT) : D.AlX := D.obsXG 6 facts fns (HandSHeadRun.getT s)
theorem ob_eq (s : PySem.W.SharedT) : ob s = hk.obs s.abs := D.obsXG_eq (HandSHeadRun.getT_eq s)
def loose : List PySem.Str := [("_wall" : PySem.Str), ("MOST_LETTERS" : PySem.Str), ("LETTERS" : PySem.Str), ("is_integer" : PySem.Str), ("is_word" : PySem.Str), ("InvalidLoad" : PySem.Str), ("InvalidText" : PySem.Str), ("InvalidNote" : PySem.Str), ("DIGITS" : PySem.Str), ("MOST_DIGITS" : PySem.Str), ("NOTHING" : PySem.Str), ("text_of" : PySem.Str), ("can_begin" : PySem.Str), ("kind_end" : PySem.Str), ("first_digit" : PySem.Str), ("count_end" : PySem.Str), ("counts_in" : PySem.Str), ("without_zeros" : PySem.Str), ("checked" : PySem.Str), ("Load" : PySem.Str), ("load_of" : PySem.Str), ("is_delivered" : PySem.Str), ("Note" : PySem.Str), ("drive_notes" : PySem.Str), ("_law_pen" : PySem.Str), ("_law_draw" : PySem.Str), ("_law_pick" : PySem.Str), ("_law_shuffled" : PySem.Str), ("_law_words" : PySem.Str), ("_law_count" : PySem.Str), ("_law_counts" : PySem.Str), ("_law_clean" : PySem.Str), ("_law_rows_of" : PySem.Str), ("_law_some_drives" : PySem.Str), ("_law_lines" : PySem.Str)]
theorem run (w : World) : HandSHeadRun.RunEq R (PySem.W.view R.prog [42]) hk ob 20000 loose w := by
  intro os
  kernel_rfl
end K87
open PySem PySem.W PySem.Calls PyProof.Rows
theorem PySem.Challenge.cw_crateround_k87_notes_that_tell_drives_holds : PySem.Challenge.rw_crateround_k87_notes_that_tell_drives.Holds := by
  w_on; o_law
  refine HandSHeadRun.head_any (r := K87.R) (q := view K87.R.prog [42]) (H := K87.hk) (ob := K87.ob) (M := 20000) (loose := K87.loose) (d := HandSHeadRun.topDef K87.R.prog 42) (kwd := []) K87.ob_eq
    (by kernel_rfl) (fun s => by kernel_rfl) K87.run (by kernel_rfl) (by kernel_rfl) (by kernel_rfl) (by rfl) (by first | assumption | decide +kernel) (by decide +kernel) ⟨rfl, rfl, rfl, rfl, rfl, by decide +kernel⟩ ?hw ?hc
  case hw => w_witness2
  case hc =>
    refine D.walk_ofG (l := PySem.Challenge.rw_crateround_k87_notes_that_tell_drives) (n := 63) (k := 13) (x := "_law_script") rfl (by decide) (by kernel_rfl) ⟨rfl, by decide, by decide⟩ ?F
    intro w mg fa h Y G hmg0
    obtain ⟨K, KX, c⟩ := Y
    have W : K87.Wld K mg := ⟨⟨h, KX, G⟩, c⟩
    have hmg : mg ("law" : PySem.Str) = some (.ref fa) := by
      have e : (HandSHeadRun.topDef K87.R.prog 42).name = ("law" : PySem.Str) := by kernel_rfl
      rw [← e]
      exact hmg0
    have e := hmg.symm.trans W.glo_law
    cases e
    obtain ⟨fd, F⟩ := W.fn_law
    refine ⟨K, fd, K87.sp_law, KX, c.2, c.sys, fun s u => ?_, fun ns hl _ => ⟨ns, rfl, Nat.le_trans hl (by decide), fun _ => rfl⟩, fun base _ _ => K87.kn_law W F⟩
    obtain ⟨oc, od, kV, doc, pm, an, cdv, ct, osl, rfl, lk, hcd⟩ := F.ex
    exact BindsTo.of_eq rfl

