import PyProof.Rows.All
import Wide.All
import OpenK.AllK
import Wide.FinOn
import HandS.ForMost
import HandS.IsInst
import HandS.Wide
import HandS.TupMul
import HandS.TupAny
import HandS.Zip
import HandS.Lambda
import HandS.FStr
import HandS.Text
import HandS.More
import HandS.Conv
import HandS.ListEq
import HandS.Style
import HandS.Star
import HandS.MethStar
import HandS.Dict
import HandS.DictComp
import HandS.SlotsOwn
import OpenK.KMeth
import OpenK.KOps
import KE.KOpsOwn
import HandS.Iter
import HandS.ClsMeth
import HandS.Comp
import KE.GoesMore
import PyProof.Draws
import PyProof.EnumMake
import HandS.WordsDict
import HandS.ExcInit
import HandS.ExcSuper
import HandS.Nested
import KE.KSuper
import KE.KExcInit
import HandS.WordsExc
import HandS.ForExc
import KE.KTryMore
import HandS.TryMany
import HandS.ExcField
import HandS.EndTab
import KE.KNestM
import PyProof.DictUpdate
import PyProof.DictDisplay
import PyProof.Tail
import KE.KDflt
import HandS.NoneIn
import HandS.Defaults
import KE.GoesComp
import HandS.DictTup
import HandS.TupLen
import KE.KDictCopyH
import KE.KDictItemsList
import KE.KDictDisplayH
import KE.SortKeyHeap
import KE.KDictSum
import KE.KTupSum
import HandS.SortKw
import HandS.ExcOwn
import HandS.Deep
import HandS.Property
import KE.KCallOwn
import KE.GoesZip
import HandS.DictEq
import KE.KDictPairs
import KE.DataMinMax
import HandS.Records
import PySem.Challenge.RW_evertally_k01_polynomials_return_their_t
set_option Elab.async false
set_option linter.all false
set_option maxRecDepth 100000
set_option maxHeartbeats 4000000
/-! XD: frozen data D, mutable things MO, and readings told over them. -/
namespace XD
open PySem L2

/-- frozen data -/
inductive D where
  | non
  | bl (b : Bool)
  | int (i : Int)
  | str (s : Str)
  | ref (a : Addr)
  | ty (n : String)
  | lst (xs : List D)
  | tup (xs : List D)
  | dk (a : Addr) (kvs : List (Key × D))
  | dt (a : Addr) (kvs : List (List Key × D))
  | ins (C : Addr) (fs : List (Str × D))
  | scr (ns : List Int)
  | fn (f : Addr) (os : List (Addr × HO))
/-- dicts -/
def DictO : HO → Prop
  | .dK _ => True
  | .dT _ => True
  | _ => False

mutual
/-- v stands for d in the frozen heap G -/
inductive Rp (K : PySem.W.Frag) (G : Hp) : V → D → Prop
  | non : Rp K G .non .non
  | bl (b : Bool) : Rp K G (.bl b) (.bl b)
  | int (i : Int) : Rp K G (.int i) (.int i)
  | str (s : Str) : Rp K G (.str s) (.str s)
  | ref (a : Addr) : Rp K G (.ref a) (.ref a)
  | ty (n : String) : Rp K G (.ty n) (.ty n)
  | lst {a : Addr} {xs : List V} {ds : List D} (h : G a = some (.lst xs)) (r : RpA K G xs ds) : Rp K G (.ref a) (.lst ds)
  | tup {a : Addr} {xs : List V} {ds : List D} (h : G a = some (.tup xs)) (r : RpA K G xs ds) : Rp K G (.ref a) (.tup ds)
  | dk {a : Addr} {xs : List (Key × V)} {ds : List (Key × D)} (h : G a = some (.dK xs)) (r : RpK K G xs ds) : Rp K G (.ref a) (.dk a ds)
  | dt {a : Addr} {xs : List (List Key × V)} {ds : List (List Key × D)} (h : G a = some (.dT xs)) (r : RpT K G xs ds) : Rp K G (.ref a) (.dt a ds)
  | ins {a C dx : Addr} {xs : List (Str × V)} {ds : List (Str × D)} (h : G a = some (.ins C dx xs)) (r : RpF K G xs ds) : Rp K G (.ref a) (.ins C ds)
  | scr {a : Addr} {ns : List Int} (h : SqL K G a (ns.map V.int)) : Rp K G (.ref a) (.scr ns)
  | fn {f : Addr} {os : List (Addr × HO)} (h : ∀ p ∈ os, G p.1 = some p.2 ∧ ¬ DictO p.2) : Rp K G (.ref f) (.fn f os)
inductive RpA (K : PySem.W.Frag) (G : Hp) : List V → List D → Prop
  | nil : RpA K G [] []
  | cons {v : V} {vs : List V} {d : D} {ds : List D} (h : Rp K G v d) (r : RpA K G vs ds) : RpA K G (v :: vs) (d :: ds)
inductive RpK (K : PySem.W.Frag) (G : Hp) : List (Key × V) → List (Key × D) → Prop
  | nil : RpK K G [] []
  | cons {k : Key} {v : V} {vs : List (Key × V)} {d : D} {ds : List (Key × D)} (h : Rp K G v d) (r : RpK K G vs ds) : RpK K G ((k, v) :: vs) ((k, d) :: ds)
inductive RpT (K : PySem.W.Frag) (G : Hp) : List (List Key × V) → List (List Key × D) → Prop
  | nil : RpT K G [] []
  | cons {k : List Key} {v : V} {vs : List (List Key × V)} {d : D} {ds : List (List Key × D)} (h : Rp K G v d) (r : RpT K G vs ds) : RpT K G ((k, v) :: vs) ((k, d) :: ds)
inductive RpF (K : PySem.W.Frag) (G : Hp) : List (Str × V) → List (Str × D) → Prop
  | nil : RpF K G [] []
  | cons {k : Str} {v : V} {vs : List (Str × V)} {d : D} {ds : List (Str × D)} (h : Rp K G v d) (r : RpF K G vs ds) : RpF K G ((k, v) :: vs) ((k, d) :: ds)
end

/-- more is known -/
def Ex (H H' : Hp) : Prop := ∀ a o, H a = some o → H' a = some o
theorem Ex.refl (H : Hp) : Ex H H := fun _ _ h => h
theorem Ex.trans {H H1 H2 : Hp} (a : Ex H H1) (b : Ex H1 H2) : Ex H H2 := fun x o h => b x o (a x o h)
theorem Ex.new {H : Hp} {p : Addr} {o : HO} (h : H p = none) : Ex H (upd H p o) := fun a u e => by
  have hne : a ≠ p := ne_of_none e h
  rw [upd_ne hne]
  exact e

theorem sqL_up {K : PySem.W.Frag} {H H' : Hp} {a : Addr} {xs : List V} (e : Ex H H') (h : SqL K H a xs) : SqL K H' a xs := by
  rcases h with (h | ⟨o, h⟩) | h
  · exact .inl (.inl (e _ _ h))
  · exact .inl (.inr ⟨o, e _ _ h⟩)
  · exact .inr h
theorem sqT_up {K : PySem.W.Frag} {H H' : Hp} {a : Addr} {xs : List V} (e : Ex H H') (h : SqT K H a xs) : SqT K H' a xs := by
  rcases h with (h | ⟨o, h⟩) | h
  · exact .inl (.inl (e _ _ h))
  · exact .inl (.inr ⟨o, e _ _ h⟩)
  · exact .inr h
mutual
theorem Rp.up {K : PySem.W.Frag} {G G' : Hp} (e : Ex G G') {v : V} {d : D} (h : Rp K G v d) : Rp K G' v d := by
  cases h with
  | non => exact .non
  | bl b => exact .bl b
  | int i => exact .int i
  | str s => exact .str s
  | ref a => exact .ref a
  | ty n => exact .ty n
  | lst h r => exact .lst (e _ _ h) (r.up e)
  | tup h r => exact .tup (e _ _ h) (r.up e)
  | scr h => exact .scr (sqL_up e h)
  | fn h => exact .fn fun p hp => ⟨e _ _ (h p hp).1, (h p hp).2⟩
  | dk h r => exact .dk (e _ _ h) (r.up e)
  | dt h r => exact .dt (e _ _ h) (r.up e)
  | ins h r => exact .ins (e _ _ h) (r.up e)
theorem RpA.up {K : PySem.W.Frag} {G G' : Hp} (e : Ex G G') {v : List V} {d : List D} (h : RpA K G v d) : RpA K G' v d := by
  cases h with
  | nil => exact .nil
  | cons h r => exact .cons (h.up e) (r.up e)
theorem RpK.up {K : PySem.W.Frag} {G G' : Hp} (e : Ex G G') {v : List (Key × V)} {d : List (Key × D)} (h : RpK K G v d) : RpK K G' v d := by
  cases h with
  | nil => exact .nil
  | cons h r => exact .cons (h.up e) (r.up e)
theorem RpT.up {K : PySem.W.Frag} {G G' : Hp} (e : Ex G G') {v : List (List Key × V)} {d : List (List Key × D)} (h : RpT K G v d) : RpT K G' v d := by
  cases h with
  | nil => exact .nil
  | cons h r => exact .cons (h.up e) (r.up e)
theorem RpF.up {K : PySem.W.Frag} {G G' : Hp} (e : Ex G G') {v : List (Str × V)} {d : List (Str × D)} (h : RpF K G v d) : RpF K G' v d := by
  cases h with
  | nil => exact .nil
  | cons h r => exact .cons (h.up e) (r.up e)
end
end XD

/-! XD2: states and judgements. -/
namespace XD
open PySem L2

/-- mutable things; lck: a frozen dict that a loop walks; tab: the table of a def's code objects, for lambdas of the name q -/
inductive MO where
  | lst (ds : List D)
  | dk (kvs : List (Key × D))
  | dt (kvs : List (List Key × D))
  | ins (C : Addr) (fs : List (Str × D))
  | feed
  | lck (od : Obj)
  | tab (q : Str)
abbrev Mm := List (Addr × MO)
abbrev Rho := List (Option D)

def MoOk (K : PySem.W.Frag) (G H : Hp) (a : Addr) : MO → Prop
  | .lst ds => G a = none ∧ ∃ xs, H a = some (.lst xs) ∧ RpA K G xs ds
  | .dk ds => G a = none ∧ ∃ xs, H a = some (.dK xs) ∧ RpK K G xs ds
  | .dt ds => G a = none ∧ ∃ xs, H a = some (.dT xs) ∧ RpT K G xs ds
  | .ins C fs => G a = none ∧ ∃ dx xs, H a = some (.ins C dx xs) ∧ RpF K G xs fs
  | .feed => G a = none ∧ ∃ (c : Addr) (i b s : Int) (ns : List Int), H a = some (.lst [.ref c, .int i, .int b, .int s]) ∧ G c = some (.lst (ns.map V.int)) ∧ 0 ≤ i ∧ 0 ≤ b ∧ 0 ≤ s ∧ s < 2147483648
  | .lck od => ∃ o, DictO o ∧ G a = some o ∧ H a = some (.frz od o)
  | .tab q => ∃ ps : Array Value, H a = some (.tbl ps) ∧ TriplesOk ps.toList ∧ ∀ (pos : Pos) (cv : Value), codeAmong pos ps.toList = some cv → ∃ c, cv = .ref c ∧ G c = some (LamX.CodeO c q)
def isLck : MO → Bool
  | .lck _ => true
  | .tab _ => true
  | _ => false
theorem MoOk.up {K : PySem.W.Frag} {G G' H H' : Hp} {a : Addr} {m : MO} (h : MoOk K G H a m) (e : Ex G G') (k : H' a = H a) (g : isLck m = false → G' a = none) : MoOk K G' H' a m := by
  cases m with
  | lst ds => obtain ⟨_, xs, h1, h2⟩ := h; exact ⟨g rfl, xs, k.trans h1, h2.up e⟩
  | dk ds => obtain ⟨_, xs, h1, h2⟩ := h; exact ⟨g rfl, xs, k.trans h1, h2.up e⟩
  | dt ds => obtain ⟨_, xs, h1, h2⟩ := h; exact ⟨g rfl, xs, k.trans h1, h2.up e⟩
  | ins C fs => obtain ⟨_, dx, xs, h1, h2⟩ := h; exact ⟨g rfl, dx, xs, k.trans h1, h2.up e⟩
  | feed => obtain ⟨_, c, i, b, s, ns, h1, h2, h3⟩ := h; exact ⟨g rfl, c, i, b, s, ns, k.trans h1, e _ _ h2, h3⟩
  | lck od => obtain ⟨o, h1, h2, h3⟩ := h; exact ⟨o, h1, e _ _ h2, k.trans h3⟩
  | tab q =>
    obtain ⟨ps, h1, h2, h3⟩ := h
    exact ⟨ps, k.trans h1, h2, fun pos cv z => let ⟨c, e1, e2⟩ := h3 pos cv z; ⟨c, e1, e _ _ e2⟩⟩
theorem MoOk.some {K : PySem.W.Frag} {G H : Hp} {a : Addr} {m : MO} (h : MoOk K G H a m) : ∃ o, H a = some o := by
  cases m with
  | lst ds => obtain ⟨_, xs, h1, h2⟩ := h; exact ⟨_, h1⟩
  | dk ds => obtain ⟨_, xs, h1, h2⟩ := h; exact ⟨_, h1⟩
  | dt ds => obtain ⟨_, xs, h1, h2⟩ := h; exact ⟨_, h1⟩
  | ins C fs => obtain ⟨_, dx, xs, h1, h2⟩ := h; exact ⟨_, h1⟩
  | feed => obtain ⟨_, c, i, b, s, ns, h1, h2, h3⟩ := h; exact ⟨_, h1⟩
  | lck od => obtain ⟨o, h1, h2, h3⟩ := h; exact ⟨_, h3⟩
  | tab q => obtain ⟨ps, h1, h2, h3⟩ := h; exact ⟨_, h1⟩
theorem MoOk.gnone {K : PySem.W.Frag} {G H : Hp} {a : Addr} {m : MO} (h : MoOk K G H a m) (l : isLck m = false) : G a = none := by
  cases m with
  | lck od => cases l
  | tab q => cases l
  | _ => exact h.1
/-- what is not locked is no table -/
theorem MoOk.ntb {K : PySem.W.Frag} {G H : Hp} {a : Addr} {m : MO} {o : HO} (h : MoOk K G H a m) (l : isLck m = false) (ho : H a = Option.some o) : ∀ ps, o ≠ .tbl ps := by
  intro ps z
  subst z
  cases m with
  | lck od => cases l
  | tab q => cases l
  | lst ds => obtain ⟨_, xs, h1, h2⟩ := h; rw [ho] at h1; cases h1
  | dk ds => obtain ⟨_, xs, h1, h2⟩ := h; rw [ho] at h1; cases h1
  | dt ds => obtain ⟨_, xs, h1, h2⟩ := h; rw [ho] at h1; cases h1
  | ins C fs => obtain ⟨_, dx, xs, h1, h2⟩ := h; rw [ho] at h1; cases h1
  | feed => obtain ⟨_, c, i, b, s, ns, h1, h2, h3⟩ := h; rw [ho] at h1; cases h1
/-- the state: frozen part G, mutable part M, all of it in H -/
structure Wd0 (K : PySem.W.Frag) (G : Hp) (M : Mm) (H : Hp) : Prop where
  ex : ∀ a o, G a = some o → H a = some o ∨ (DictO o ∧ ∃ od, H a = some (.frz od o) ∧ (a, MO.lck od) ∈ M)
  mo : ∀ p ∈ M, MoOk K G H p.1 p.2
  nd : (M.map (·.1)).Nodup
  nt : ∀ a ps, G a ≠ some (.tbl ps)
/-- what stood frozen when the running def was called -/
class Bs (K : PySem.W.Frag) where
  G0 : Hp
instance bs0 (K : PySem.W.Frag) : Bs K := ⟨fun _ => none⟩
structure Wd (K : PySem.W.Frag) [b : Bs K] (G : Hp) (M : Mm) (H : Hp) : Prop extends Wd0 K G M H where
  bs : Ex b.G0 G


inductive Has : Mm → Addr → MO → Prop
  | head {a : Addr} {m : MO} {M : Mm} : Has ((a, m) :: M) a m
  | tail {a : Addr} {m : MO} {x : Addr × MO} {M : Mm} (h : Has M a m) : Has (x :: M) a m
/-- the entry at a is m' from now on -/
inductive Put : Mm → Addr → MO → Mm → Prop
  | head {a : Addr} {m m' : MO} {M : Mm} : Put ((a, m) :: M) a m' ((a, m') :: M)
  | tail {a : Addr} {m' : MO} {x : Addr × MO} {M M' : Mm} (h : Put M a m' M') : Put (x :: M) a m' (x :: M')
/-- without the entry at a, which was m -/
inductive Cut : Mm → Addr → MO → Mm → Prop
  | head {a : Addr} {m : MO} {M : Mm} : Cut ((a, m) :: M) a m M
  | tail {a : Addr} {m : MO} {x : Addr × MO} {M M' : Mm} (h : Cut M a m M') : Cut (x :: M) a m (x :: M')
theorem Has.mem {M : Mm} {a : Addr} {m : MO} (h : Has M a m) : (a, m) ∈ M := by
  induction h with
  | head => exact List.mem_cons_self
  | tail _ ih => exact List.mem_cons_of_mem _ ih
theorem Put.keys {M M' : Mm} {a : Addr} {m : MO} (h : Put M a m M') : M'.map (·.1) = M.map (·.1) := by
  induction h with
  | head => rfl
  | tail _ ih => simp [ih]
theorem Put.mem {M M' : Mm} {a : Addr} {m : MO} (h : Put M a m M') : a ∈ M.map (·.1) := by
  induction h with
  | head => simp
  | tail _ ih => simp [ih]
theorem Put.all {M M' : Mm} {a : Addr} {m : MO} (h : Put M a m M') : (M.map (·.1)).Nodup → ∀ p ∈ M', p = (a, m) ∨ (p ∈ M ∧ p.1 ≠ a) := by
  induction h with
  | head =>
    intro nd p hp
    rw [List.map_cons, List.nodup_cons] at nd
    rcases List.mem_cons.mp hp with e | e
    · exact .inl e
    · refine .inr ⟨List.mem_cons_of_mem _ e, fun z => nd.1 ?_⟩
      exact z ▸ List.mem_map_of_mem (f := (·.1)) e
  | tail h ih =>
    intro nd p hp
    rw [List.map_cons, List.nodup_cons] at nd
    rcases List.mem_cons.mp hp with e | e
    · refine .inr ⟨e ▸ List.mem_cons_self, fun z => nd.1 ?_⟩
      rw [← e, z]
      exact h.mem
    · rcases ih nd.2 p e with q | ⟨q, r⟩
      · exact .inl q
      · exact .inr ⟨List.mem_cons_of_mem _ q, r⟩
theorem Cut.mem {M M' : Mm} {a : Addr} {m : MO} (h : Cut M a m M') : (a, m) ∈ M := by
  induction h with
  | head => exact List.mem_cons_self
  | tail _ ih => exact List.mem_cons_of_mem _ ih
theorem Cut.sub {M M' : Mm} {a : Addr} {m : MO} (h : Cut M a m M') : M'.Sublist M := by
  induction h with
  | head => exact List.sublist_cons_self _ _
  | tail _ ih => exact ih.cons_cons _
theorem Cut.ne {M M' : Mm} {a : Addr} {m : MO} (h : Cut M a m M') : (M.map (·.1)).Nodup → ∀ p ∈ M', p.1 ≠ a := by
  induction h with
  | head =>
    intro nd p hp z
    rw [List.map_cons, List.nodup_cons] at nd
    exact nd.1 (z ▸ List.mem_map_of_mem (f := (·.1)) hp)
  | tail h ih =>
    intro nd p hp z
    rw [List.map_cons, List.nodup_cons] at nd
    rcases List.mem_cons.mp hp with e | e
    · apply nd.1
      rw [← e, z]
      exact List.mem_map_of_mem (f := (·.1)) h.mem
    · exact ih nd.2 p e z

theorem Put.keep {M M' : Mm} {a : Addr} {m : MO} (h : Put M a m M') : ∀ q ∈ M, q.1 ≠ a → q ∈ M' := by
  induction h with
  | head =>
    intro q hq n
    rcases List.mem_cons.mp hq with e | e
    · subst e; exact absurd rfl n
    · exact List.mem_cons_of_mem _ e
  | tail _ ih =>
    intro q hq n
    rcases List.mem_cons.mp hq with e | e
    · exact e ▸ List.mem_cons_self
    · exact List.mem_cons_of_mem _ (ih q e n)
theorem Cut.keep {M M' : Mm} {a : Addr} {m : MO} (h : Cut M a m M') : ∀ q ∈ M, q.1 ≠ a → q ∈ M' := by
  induction h with
  | head =>
    intro q hq n
    rcases List.mem_cons.mp hq with e | e
    · subst e; exact absurd rfl n
    · exact e
  | tail _ ih =>
    intro q hq n
    rcases List.mem_cons.mp hq with e | e
    · exact e ▸ List.mem_cons_self
    · exact List.mem_cons_of_mem _ (ih q e n)
theorem nt_upd {G : Hp} {p : Addr} {o : HO} (h : ∀ a ps, G a ≠ some (.tbl ps)) (ho : ∀ ps, o ≠ .tbl ps) : ∀ a ps, upd G p o a ≠ some (.tbl ps) := fun a ps z => by
  by_cases e : a = p
  · rw [e, upd_same] at z
    exact ho ps (Option.some.inj z)
  · rw [upd_ne e] at z
    exact h a ps z
theorem orKeep {A B : Prop} {od : Obj → Prop} {D D' : Obj → Prop} (h : A ∨ (B ∧ ∃ o, od o ∧ D o)) (k : ∀ o, od o → D o → D' o) : A ∨ (B ∧ ∃ o, od o ∧ D' o) := h.imp id fun ⟨b, o, x, y⟩ => ⟨b, o, x, k o x y⟩
section
variable {K : PySem.W.Frag} [Bs K] {G G' H H' : Hp} {M M' : Mm}
theorem Wd.get (w : Wd K G M H) {a : Addr} {m : MO} (h : Has M a m) : MoOk K G H a m := w.mo _ h.mem
theorem Wd.gfree (w : Wd K G M H) {a : Addr} (h : H a = none) : G a = none := by
  cases e : G a with
  | none => rfl
  | some o =>
    rcases w.ex a o e with q | ⟨_, od, q, _⟩
    · rw [h] at q; cases q
    · rw [h] at q; cases q
theorem Wd.rd (w : Wd K G M H) {a : Addr} {o : HO} (h : G a = some o) : Rd H a o := by
  rcases w.ex a o h with q | ⟨_, od, q, _⟩
  · exact .inl q
  · exact .inr ⟨od, q⟩
theorem Wd.at' (w : Wd K G M H) {a : Addr} {o : HO} (h : G a = some o) (hn : ¬ DictO o) : H a = some o := by
  rcases w.ex a o h with q | ⟨q, _⟩
  · exact q
  · exact absurd q hn
theorem Wd.sqL (w : Wd K G M H) {a : Addr} {xs : List V} (h : SqL K G a xs) : SqL K H a xs := by
  rcases h with (h | ⟨o, h⟩) | h
  · exact .inl (w.rd h)
  · exact .inl (.inr ⟨o, w.at' h (fun z => z)⟩)
  · exact .inr h
theorem Wd.sqT (w : Wd K G M H) {a : Addr} {xs : List V} (h : SqT K G a xs) : SqT K H a xs := by
  rcases h with (h | ⟨o, h⟩) | h
  · exact .inl (w.rd h)
  · exact .inl (.inr ⟨o, w.at' h (fun z => z)⟩)
  · exact .inr h
theorem Wd.lst (w : Wd K G M H) {a : Addr} {xs : List V} (h : G a = some (.lst xs)) : H a = some (.lst xs) := w.at' h (fun z => z)
theorem Wd.tup (w : Wd K G M H) {a : Addr} {xs : List V} (h : G a = some (.tup xs)) : H a = some (.tup xs) := w.at' h (fun z => z)
theorem Wd.nin (w : Wd K G M H) {a : Addr} (h : H a = none) : a ∉ M.map (·.1) := fun z => by
  obtain ⟨p, hp, e⟩ := List.mem_map.mp z
  obtain ⟨o, q⟩ := (w.mo p hp).some
  rw [e, h] at q
  cases q
/-- a new frozen object -/
theorem Wd.new (w : Wd K G M H) {p : Addr} {o : HO} (h : H p = none) (ho : ∀ ps, o ≠ .tbl ps := by intro ps z; cases z) : Wd K (upd G p o) M (upd H p o) := by
  have hg := w.gfree h
  refine ⟨⟨fun a u e => ?_, fun q hq => ?_, w.nd, nt_upd w.nt ho⟩, w.bs.trans (Ex.new hg)⟩
  · by_cases z : a = p
    · rw [z, upd_same] at e
      rw [z, upd_same]
      exact .inl e
    · rw [upd_ne z] at e
      rw [upd_ne z]
      exact w.ex a u e
  · have hne : q.1 ≠ p := fun z => w.nin h (z ▸ List.mem_map_of_mem (f := (·.1)) hq)
    have q2 := w.mo q hq
    exact q2.up (Ex.new hg) (upd_ne hne) (fun l => by rw [upd_ne hne]; exact q2.gnone l)
/-- a new mutable object -/
theorem Wd.newM (w : Wd K G M H) {p : Addr} {o : HO} {m : MO} (h : H p = none) (hm : MoOk K G (upd H p o) p m) : Wd K G ((p, m) :: M) (upd H p o) := by
  refine ⟨⟨fun a u e => ?_, fun q hq => ?_, ?_, w.nt⟩, w.bs⟩
  · have hne : a ≠ p := fun z => by rw [z, w.gfree h] at e; cases e
    rw [upd_ne hne]
    exact orKeep (w.ex a u e) fun _ _ z => List.mem_cons_of_mem _ z
  · rcases List.mem_cons.mp hq with e | e
    · subst e
      exact hm
    · have hne : q.1 ≠ p := fun z => w.nin h (z ▸ List.mem_map_of_mem (f := (·.1)) e)
      have q2 := w.mo q e
      exact q2.up (Ex.refl G) (upd_ne hne) q2.gnone
  · rw [List.map_cons, List.nodup_cons]
    exact ⟨w.nin h, w.nd⟩
/-- a mutable object is written -/
theorem Wd.put (w : Wd K G M H) {a : Addr} {o : HO} {m : MO} (h : Put M a m M') (hG : G a = none) (hm : MoOk K G (upd H a o) a m) : Wd K G M' (upd H a o) := by
  refine ⟨⟨fun b u e => ?_, fun q hq => ?_, h.keys ▸ w.nd, w.nt⟩, w.bs⟩
  · have hne : b ≠ a := fun z => by rw [z, hG] at e; cases e
    rw [upd_ne hne]
    exact orKeep (w.ex b u e) fun _ _ z => h.keep _ z hne
  · rcases h.all w.nd q hq with e | ⟨e, ne⟩
    · subst e
      exact hm
    · have q2 := w.mo q e
      exact q2.up (Ex.refl G) (upd_ne ne) q2.gnone
/-- a mutable object is frozen -/
theorem Wd.cut (w : Wd K G M H) {a : Addr} {o : HO} {m : MO} (h : Cut M a m M') (l : isLck m = false) (ho : H a = some o) : Ex G (upd G a o) ∧ Wd K (upd G a o) M' H := by
  have hG : G a = none := (w.mo _ h.mem).gnone l
  refine ⟨Ex.new hG, ⟨fun b u e => ?_, fun q hq => ?_, (h.sub.map _).nodup w.nd, nt_upd w.nt ((w.mo _ h.mem).ntb l ho)⟩, w.bs.trans (Ex.new hG)⟩
  · by_cases z : b = a
    · rw [z, upd_same] at e
      cases e
      rw [z]
      exact .inl ho
    · rw [upd_ne z] at e
      exact orKeep (w.ex b u e) fun _ _ y => h.keep _ y z
  · have q2 := w.mo q (h.sub.mem hq)
    have hne := h.ne w.nd q hq
    exact q2.up (Ex.new hG) rfl (fun l => by rw [upd_ne hne]; exact q2.gnone l)
/-- a frozen dict is locked for a walk -/
theorem Wd.lock (w : Wd K G M H) {a : Addr} {o : HO} (hd : DictO o) (hg : G a = some o) (hn : a ∉ M.map (·.1)) (od : Obj) : Wd K G ((a, .lck od) :: M) (upd H a (.frz od o)) := by
  refine ⟨⟨fun b u e => ?_, fun q hq => ?_, ?_, w.nt⟩, w.bs⟩
  · by_cases z : b = a
    · subst z
      rw [hg] at e
      cases e
      exact .inr ⟨hd, od, upd_same, List.mem_cons_self⟩
    · rw [upd_ne z]
      exact orKeep (w.ex b u e) fun _ _ y => List.mem_cons_of_mem _ y
  · rcases List.mem_cons.mp hq with e | e
    · subst e
      exact ⟨o, hd, hg, upd_same⟩
    · have hne : q.1 ≠ a := fun z => hn (z ▸ List.mem_map_of_mem (f := (·.1)) e)
      have q2 := w.mo q e
      exact q2.up (Ex.refl G) (upd_ne hne) q2.gnone
  · rw [List.map_cons, List.nodup_cons]
    exact ⟨hn, w.nd⟩
theorem Wd.unlock {a : Addr} {o : HO} {od : Obj} (w : Wd K G ((a, .lck od) :: M) H) (hg : G a = some o) : H a = some (.frz od o) ∧ Wd K G M (upd H a o) := by
  have nd := w.nd
  rw [List.map_cons, List.nodup_cons] at nd
  obtain ⟨o', h1, h2, h3⟩ := w.mo _ List.mem_cons_self
  rw [hg] at h2
  cases h2
  refine ⟨h3, ⟨fun b u e => ?_, fun q hq => ?_, nd.2, w.nt⟩, w.bs⟩
  · by_cases z : b = a
    · subst z
      rw [hg] at e
      cases e
      exact .inl upd_same
    · rw [upd_ne z]
      exact orKeep (w.ex b u e) fun _ _ y => (List.mem_cons.mp y).elim (fun y => absurd (congrArg Prod.fst y) z) id
  · have hne : q.1 ≠ a := fun z => nd.1 (z ▸ List.mem_map_of_mem (f := (·.1)) hq)
    have q2 := w.mo q (List.mem_cons_of_mem _ hq)
    exact q2.up (Ex.refl G) (upd_ne hne) q2.gnone
/-- not locked: as it was -/
theorem Wd.free (w : Wd K G M H) {a : Addr} {o : HO} (h : G a = some o) (n : ∀ od, (a, MO.lck od) ∉ M) : H a = some o := by
  rcases w.ex a o h with q | ⟨_, od, _, q⟩
  · exact q
  · exact absurd q (n od)
end

theorem Wd.newL {K : PySem.W.Frag} [Bs K] {G H : Hp} {M : Mm} (w : Wd K G M H) {p : Addr} {xs : List V} {ds : List D} (h : H p = none) (r : RpA K G xs ds) : ∃ G', Ex G G' ∧ Rp K G' (.ref p) (.lst ds) ∧ Wd K G' M (upd H p (.lst xs)) :=
  ⟨_, Ex.new (w.gfree h), .lst upd_same (r.up (Ex.new (w.gfree h))), w.new h⟩
theorem Wd.newT {K : PySem.W.Frag} [Bs K] {G H : Hp} {M : Mm} (w : Wd K G M H) {p : Addr} {xs : List V} {ds : List D} (h : H p = none) (r : RpA K G xs ds) : ∃ G', Ex G G' ∧ Rp K G' (.ref p) (.tup ds) ∧ Wd K G' M (upd H p (.tup xs)) :=
  ⟨_, Ex.new (w.gfree h), .tup upd_same (r.up (Ex.new (w.gfree h))), w.new h⟩
theorem Wd.newLM {K : PySem.W.Frag} [Bs K] {G H : Hp} {M : Mm} (w : Wd K G M H) {p : Addr} {xs : List V} {ds : List D} (h : H p = none) (r : RpA K G xs ds) : Wd K G ((p, .lst ds) :: M) (upd H p (.lst xs)) :=
  w.newM h ⟨w.gfree h, xs, upd_same, r⟩
/-- the slots stand for ρ -/
structure RpS (K : PySem.W.Frag) (G : Hp) (σ : St) (ρ : Rho) : Prop where
  len : σ.length = ρ.length
  at_ : ∀ (i : Nat) (d : D), ρ[i]? = some (some d) → ∃ v, σ[i]? = some (some v) ∧ Rp K G v d
section
variable {K : PySem.W.Frag} [Bs K] {G G' H H' : Hp} {M M' : Mm} {σ : St} {ρ : Rho}
theorem RpS.up (s : RpS K G σ ρ) (e : Ex G G') : RpS K G' σ ρ := ⟨s.len, fun i d h => let ⟨v, h1, h2⟩ := s.at_ i d h; ⟨v, h1, h2.up e⟩⟩
theorem RpS.set (s : RpS K G σ ρ) {v : V} {d : D} (i : Nat) (h : Rp K G v d) : RpS K G (σ.set i (some v)) (ρ.set i (some d)) := by
  refine ⟨by simp [s.len], fun j e hj => ?_⟩
  by_cases hij : i = j
  · subst hij
    rw [List.getElem?_set] at hj ⊢
    rw [if_pos rfl] at hj ⊢
    by_cases hl : i < ρ.length
    · rw [if_pos hl] at hj
      rw [if_pos (by rw [s.len]; exact hl)]
      cases hj
      exact ⟨v, rfl, h⟩
    · rw [if_neg hl] at hj
      cases hj
  · rw [List.getElem?_set_ne hij] at hj ⊢
    exact s.at_ j e hj
theorem RpS.clr (s : RpS K G σ ρ) (i : Nat) : RpS K G (σ.set i none) (ρ.set i none) := by
  refine ⟨by simp [s.len], fun j e hj => ?_⟩
  by_cases hij : i = j
  · subst hij
    rw [List.getElem?_set] at hj
    rw [if_pos rfl] at hj
    split at hj <;> cases hj
  · rw [List.getElem?_set_ne hij] at hj ⊢
    exact s.at_ j e hj
end

/-! ### judgements -/
abbrev RD := D → Mm → Prop
def Xe (K : PySem.W.Frag) [Bs K] (te : TE) (ρ : Rho) (M : Mm) (R : RD) : Prop :=
  ∀ (σ : St) (G H : Hp) (Q : VK), RpS K G σ ρ → Wd K G M H → (∀ v d G' M' H', Ex G G' → Rp K G' v d → Wd K G' M' H' → R d M' → Q v H') → te σ H Q
def Xt (K : PySem.W.Frag) [Bs K] (tt : TT) (ρ : Rho) (M : Mm) (R : Bool → Mm → Prop) : Prop :=
  ∀ (σ : St) (G H : Hp) (Q : Bool → Hp → Prop), RpS K G σ ρ → Wd K G M H → (∀ b G' M' H', Ex G G' → Wd K G' M' H' → R b M' → Q b H') → tt σ H Q
def Xa (K : PySem.W.Frag) [Bs K] (ta : TA) (ρ : Rho) (M : Mm) (R : List D → Mm → Prop) : Prop :=
  ∀ (σ : St) (G H : Hp) (Q : List V → Hp → Prop), RpS K G σ ρ → Wd K G M H → (∀ vs ds G' M' H', Ex G G' → RpA K G' vs ds → Wd K G' M' H' → R ds M' → Q vs H') → ta σ H Q
def Xr (K : PySem.W.Frag) [Bs K] (r : R2) (x y : D) (M : Mm) (R : RD) : Prop :=
  ∀ (vx vy : V) (G H : Hp) (Q : VK), Rp K G vx x → Rp K G vy y → Wd K G M H → (∀ v d G' M' H', Ex G G' → Rp K G' v d → Wd K G' M' H' → R d M' → Q v H') → r vx vy H Q
def Xu (K : PySem.W.Frag) [Bs K] (r : V → Hp → VK → Prop) (x : D) (M : Mm) (R : RD) : Prop :=
  ∀ (vx : V) (G H : Hp) (Q : VK), Rp K G vx x → Wd K G M H → (∀ v d G' M' H', Ex G G' → Rp K G' v d → Wd K G' M' H' → R d M' → Q v H') → r vx H Q
def Xc (K : PySem.W.Frag) [Bs K] (r : List V → Hp → VK → Prop) (xs : List D) (M : Mm) (R : RD) : Prop :=
  ∀ (vs : List V) (G H : Hp) (Q : VK), RpA K G vs xs → Wd K G M H → (∀ v d G' M' H', Ex G G' → Rp K G' v d → Wd K G' M' H' → R d M' → Q v H') → r vs H Q
def Xm (K : PySem.W.Frag) [Bs K] (r : V → List V → Hp → VK → Prop) (x : D) (xs : List D) (M : Mm) (R : RD) : Prop :=
  ∀ (vx : V) (vs : List V) (G H : Hp) (Q : VK), Rp K G vx x → RpA K G vs xs → Wd K G M H → (∀ v d G' M' H', Ex G G' → Rp K G' v d → Wd K G' M' H' → R d M' → Q v H') → r vx vs H Q
/-- the slots but those of vs are as they were -/
def Agr (vs : List Nat) (σ σ2 : L2.St) : Prop := σ2.length = σ.length ∧ ∀ i : Nat, i ∉ vs → σ2[i]? = σ[i]?
theorem Agr.refl (vs : List Nat) (σ : L2.St) : Agr vs σ σ := ⟨rfl, fun _ _ => rfl⟩
theorem Agr.trans {vs : List Nat} {σ σ1 σ2 : L2.St} (a : Agr vs σ σ1) (b : Agr vs σ1 σ2) : Agr vs σ σ2 := ⟨b.1.trans a.1, fun i h => (b.2 i h).trans (a.2 i h)⟩
def Xg (K : PySem.W.Frag) [Bs K] (vs : List Nat) (g : TG) (d : D) (ρ : Rho) (M : Mm) (R : Rho → Mm → Prop) : Prop :=
  ∀ (v : V) (σ : L2.St) (G H : Hp) (Q : L2.St → Hp → Prop), RpS K G σ ρ → Wd K G M H → Rp K G v d → (∀ σ2 G2 ρ2 M2 H2, Ex G G2 → RpS K G2 σ2 ρ2 → Wd K G2 M2 H2 → Agr vs σ σ2 → R ρ2 M2 → Q σ2 H2) → g v σ H Q
def Xgs (K : PySem.W.Frag) [Bs K] (vs : List Nat) (g : TGs) (ds : List D) (ρ : Rho) (M : Mm) (R : Rho → Mm → Prop) : Prop :=
  ∀ (xs : List V) (σ : L2.St) (G H : Hp) (Q : L2.St → Hp → Prop), RpS K G σ ρ → Wd K G M H → RpA K G xs ds → (∀ σ2 G2 ρ2 M2 H2, Ex G G2 → RpS K G2 σ2 ρ2 → Wd K G2 M2 H2 → Agr vs σ σ2 → R ρ2 M2 → Q σ2 H2) → g xs σ H Q
/-- n turns that give data told by it, whatever else happens (lk: entries that must stand) -/
structure Wk (K : PySem.W.Frag) [Bs K] (G1 : Hp) (J : It) (n : Nat) (it : Nat → D → Prop) (lk : Mm → Prop) : Prop where
  goes : ∀ i G M H, i < n → Ex G1 G → Wd K G M H → lk M → J.go i H
  stops : ∀ G M H, Ex G1 G → Wd K G M H → lk M → J.stop n H
  yields : ∀ i G M H x H', i < n → Ex G1 G → Wd K G M H → lk M → J.yld i H x H' → ∃ G' d, Ex G G' ∧ Wd K G' M H' ∧ Rp K G' x d ∧ it i d
def Xi (K : PySem.W.Frag) [Bs K] (wi : TI) (ρ : Rho) (M : Mm) (R : Nat → (Nat → D → Prop) → (Mm → Prop) → Mm → Prop) : Prop :=
  ∀ (σ : L2.St) (G H : Hp) (Q : It → Hp → Prop), RpS K G σ ρ → Wd K G M H → (∀ J n it lk G' M' H', Ex G G' → Wd K G' M' H' → Wk K G' J n it lk → R n it lk M' → Q J H') → wi σ H Q
/-- what is wanted behind a statement -/
structure En where
  nx : Rho → Mm → Prop
  rt : RD
  bk : Rho → Mm → Prop := fun _ _ => False
  ct : Rho → Mm → Prop := fun _ _ => False
def SK (K : PySem.W.Frag) [Bs K] (G : Hp) (E : Rho → Mm → Prop) (D : St → Hp → Prop) : Prop :=
  ∀ (σ : St) (G' : Hp) (H' : Hp) (ρ : Rho) (M : Mm), Ex G G' → RpS K G' σ ρ → Wd K G' M H' → E ρ M → D σ H'
def SV (K : PySem.W.Frag) [Bs K] (G : Hp) (E : RD) (D : VK) : Prop :=
  ∀ (v : V) (d : XD.D) (G' : Hp) (M : Mm) (H' : Hp), Ex G G' → Rp K G' v d → Wd K G' M H' → E d M → D v H'
structure EnOk (K : PySem.W.Frag) [Bs K] (G : Hp) (E : En) (D : Ends) : Prop where
  nx : SK K G E.nx D.nx
  rt : SV K G E.rt D.rt
  bk : SK K G E.bk D.bk
  ct : SK K G E.ct D.ct
def Xs (K : PySem.W.Frag) [Bs K] (t : TS) (E : En) (ρ : Rho) (M : Mm) : Prop :=
  ∀ (σ : St) (G H : Hp) (D : Ends), RpS K G σ ρ → Wd K G M H → EnOk K G E D → t D σ H
theorem SK.up {K : PySem.W.Frag} [Bs K] {G G' : Hp} {E : Rho → Mm → Prop} {D : St → Hp → Prop} (e : Ex G G') (h : SK K G E D) : SK K G' E D := fun σ G2 H2 ρ M e2 => h σ G2 H2 ρ M (e.trans e2)
theorem SV.up {K : PySem.W.Frag} [Bs K] {G G' : Hp} {E : RD} {D : VK} (e : Ex G G') (h : SV K G E D) : SV K G' E D := fun v d G2 M H2 e2 => h v d G2 M H2 (e.trans e2)
theorem EnOk.up {K : PySem.W.Frag} [Bs K] {G G' : Hp} {E : En} {D : Ends} (e : Ex G G') (h : EnOk K G E D) : EnOk K G' E D := ⟨h.nx.up e, h.rt.up e, h.bk.up e, h.ct.up e⟩
end XD

/-! XD3: expressions, tests, operators. -/
namespace XD
open PySem L2

section
variable {K : PySem.W.Frag} [Bs K] {ρ : Rho} {M M' : Mm} {R : RD}
theorem xe_var {i : Nat} {d : D} (h : ρ[i]? = some (some d)) (r : R d M) : Xe K (tVar i) ρ M R := by
  intro σ G H Q s w k
  obtain ⟨v, h1, h2⟩ := s.at_ i d h
  exact ⟨v, h1, k v d G M H (Ex.refl G) h2 w r⟩
theorem xe_k {v : V} {d : D} (h : ∀ G, Rp K G v d) (r : R d M) : Xe K (tC v) ρ M R := by
  intro σ G H Q s w k
  exact k v d G M H (Ex.refl G) (h G) w r
theorem xe_int {i : Int} (r : R (.int i) M) : Xe K (tC (.int i)) ρ M R := xe_k (fun _ => .int i) r
theorem xe_str {z : Str} (r : R (.str z) M) : Xe K (tC (.str z)) ρ M R := xe_k (fun _ => .str z) r
theorem xe_bl {b : Bool} (r : R (.bl b) M) : Xe K (tC (.bl b)) ρ M R := xe_k (fun _ => .bl b) r
theorem xe_non (r : R .non M) : Xe K (tC .non) ρ M R := xe_k (fun _ => .non) r
theorem xe_ref {a : Addr} (r : R (.ref a) M) : Xe K (tC (.ref a)) ρ M R := xe_k (fun _ => .ref a) r
theorem xe_ty {n : String} (r : R (.ty n) M) : Xe K (tC (.ty n)) ρ M R := xe_k (fun _ => .ty n) r
theorem xe_mono {te : TE} {R' : RD} (h : Xe K te ρ M R) (hm : ∀ d M', R d M' → R' d M') : Xe K te ρ M R' := by
  intro σ G H Q s w k
  exact h σ G H Q s w fun v d G' M' H' e r w' q => k v d G' M' H' e r w' (hm d M' q)
theorem xt_mono {te : TT} {R R' : Bool → Mm → Prop} (h : Xt K te ρ M R) (hm : ∀ d M', R d M' → R' d M') : Xt K te ρ M R' := by
  intro σ G H Q s w k
  exact h σ G H Q s w fun v G' M' H' e w' q => k v G' M' H' e w' (hm v M' q)
theorem xe_op {r : R2} {ta tb : TE} (h : Xe K ta ρ M fun x M1 => Xe K tb ρ M1 fun y M2 => Xr K r x y M2 R) : Xe K (tOp r ta tb) ρ M R := by
  intro σ G H Q s w k
  refine h σ G H _ s w fun vx x G1 M1 H1 e1 rx w1 h1 => ?_
  refine h1 σ G1 H1 _ (s.up e1) w1 fun vy y G2 M2 H2 e2 ry w2 h2 => ?_
  exact h2 vx vy G2 H2 Q (rx.up e2) ry w2 fun v d G' M' H' e => k v d G' M' H' ((e1.trans e2).trans e)
theorem xe_un {r : V → Hp → VK → Prop} {ta : TE} (h : Xe K ta ρ M fun x M1 => Xu K r x M1 R) : Xe K (tUn r ta) ρ M R := by
  intro σ G H Q s w k
  refine h σ G H _ s w fun vx x G1 M1 H1 e1 rx w1 h1 => ?_
  exact h1 vx G1 H1 Q rx w1 fun v d G' M' H' e => k v d G' M' H' (e1.trans e)
theorem xe_cb {r : List V → Hp → VK → Prop} {t : TA} (h : Xa K t ρ M fun xs M1 => Xc K r xs M1 R) : Xe K (tCB r t) ρ M R := by
  intro σ G H Q s w k
  refine h σ G H _ s w fun vx x G1 M1 H1 e1 rx w1 h1 => ?_
  exact h1 vx G1 H1 Q rx w1 fun v d G' M' H' e => k v d G' M' H' (e1.trans e)
theorem xa_nil {R : List D → Mm → Prop} (r : R [] M) : Xa K tNil ρ M R := by
  intro σ G H Q s w k
  exact k [] [] G M H (Ex.refl G) .nil w r
theorem xa_cons {te : TE} {t : TA} {R : List D → Mm → Prop} (h : Xe K te ρ M fun x M1 => Xa K t ρ M1 fun xs M2 => R (x :: xs) M2) : Xa K (tCons te t) ρ M R := by
  intro σ G H Q s w k
  refine h σ G H _ s w fun vx x G1 M1 H1 e1 rx w1 h1 => ?_
  exact h1 σ G1 H1 _ (s.up e1) w1 fun vs ds G2 M2 H2 e2 rs w2 h2 => k (vx :: vs) (x :: ds) G2 M2 H2 (e1.trans e2) (.cons (rx.up e2) rs) w2 h2
theorem RpA.length {G : Hp} : ∀ {vs : List V} {ds : List D}, RpA K G vs ds → vs.length = ds.length := by
  intro vs
  induction vs with
  | nil => intro ds h; cases h; rfl
  | cons v vs ih => intro ds h; cases h with | cons h r => simp [ih r]
theorem xe_tup {t : TA} (h : Xa K t ρ M fun ds M1 => ds.length ≤ 16000000 ∧ R (.tup ds) M1) : Xe K (tTup t) ρ M R := by
  intro σ G H Q s w k
  refine h σ G H _ s w fun vs ds G1 M1 H1 e1 rs w1 h1 => ?_
  refine ⟨by rw [rs.length]; exact Nat.le_trans h1.1 (by decide), fun p hp => ?_⟩
  exact k (.ref p) (.tup ds) (upd G1 p (.tup vs)) M1 _ (e1.trans (Ex.new (w1.gfree hp))) (.tup upd_same (rs.up (Ex.new (w1.gfree hp)))) (w1.new hp) h1.2
theorem xe_lst {t : TA} (h : Xa K t ρ M fun ds M1 => ds.length ≤ 16000000 ∧ R (.lst ds) M1) : Xe K (tLst t) ρ M R := by
  intro σ G H Q s w k
  refine h σ G H _ s w fun vs ds G1 M1 H1 e1 rs w1 h1 => ?_
  refine ⟨by rw [rs.length]; exact Nat.le_trans h1.1 (by decide), fun p hp => ?_⟩
  exact k (.ref p) (.lst ds) (upd G1 p (.lst vs)) M1 _ (e1.trans (Ex.new (w1.gfree hp))) (.lst upd_same (rs.up (Ex.new (w1.gfree hp)))) (w1.new hp) h1.2
/-- a list that will be changed -/
abbrev tLstM : TA → TE := tLst
theorem xe_lstM {t : TA} (h : Xa K t ρ M fun ds M1 => ds.length ≤ 16000000 ∧ ∀ p, R (.ref p) ((p, .lst ds) :: M1)) : Xe K (tLst t) ρ M R := by
  intro σ G H Q s w k
  refine h σ G H _ s w fun vs ds G1 M1 H1 e1 rs w1 h1 => ?_
  refine ⟨by rw [rs.length]; exact Nat.le_trans h1.1 (by decide), fun p hp => ?_⟩
  exact k (.ref p) (.ref p) G1 ((p, .lst ds) :: M1) _ e1 (.ref p) (w1.newM hp ⟨w1.gfree hp, vs, upd_same, rs⟩) (h1.2 p)
theorem xe_dnewK (h : ∀ p, R (.ref p) ((p, .dk []) :: M)) : Xe K tDNewK ρ M R := by
  intro σ G H Q s w k p hp
  exact k (.ref p) (.ref p) G ((p, .dk []) :: M) _ (Ex.refl G) (.ref p) (w.newM hp ⟨w.gfree hp, [], upd_same, .nil⟩) (h p)
theorem xe_dnewT (h : ∀ p, R (.ref p) ((p, .dt []) :: M)) : Xe K tDNewT ρ M R := by
  intro σ G H Q s w k p hp
  exact k (.ref p) (.ref p) G ((p, .dt []) :: M) _ (Ex.refl G) (.ref p) (w.newM hp ⟨w.gfree hp, [], upd_same, .nil⟩) (h p)
theorem xe_if {t : TT} {ta tb : TE} (h : Xt K t ρ M fun c M1 => (c = true → Xe K ta ρ M1 R) ∧ (c = false → Xe K tb ρ M1 R)) : Xe K (tIf t ta tb) ρ M R := by
  intro σ G H Q s w k
  refine h σ G H _ s w fun c G1 M1 H1 e1 w1 h1 => ?_
  cases c with
  | true => exact h1.1 rfl σ G1 H1 Q (s.up e1) w1 fun v d G' M' H' e => k v d G' M' H' (e1.trans e)
  | false => exact h1.2 rfl σ G1 H1 Q (s.up e1) w1 fun v d G' M' H' e => k v d G' M' H' (e1.trans e)
theorem xe_andV {ta tb : TE} (h : Xe K ta ρ M fun x M1 => ∃ c, x = .bl c ∧ (c = true → Xe K tb ρ M1 R) ∧ (c = false → R (.bl false) M1)) : Xe K (tAndV ta tb) ρ M R := by
  intro σ G H Q s w k
  refine h σ G H _ s w fun vx x G1 M1 H1 e1 rx w1 h1 => ?_
  obtain ⟨c, rfl, h2, h3⟩ := h1
  cases rx
  refine ⟨c, rfl, ?_⟩
  cases c with
  | true => exact h2 rfl σ G1 H1 Q (s.up e1) w1 fun v d G' M' H' e => k v d G' M' H' (e1.trans e)
  | false => exact k _ _ G1 M1 H1 e1 (.bl false) w1 (h3 rfl)
theorem xe_orV {ta tb : TE} (h : Xe K ta ρ M fun x M1 => ∃ c, x = .bl c ∧ (c = false → Xe K tb ρ M1 R) ∧ (c = true → R (.bl true) M1)) : Xe K (tOrV ta tb) ρ M R := by
  intro σ G H Q s w k
  refine h σ G H _ s w fun vx x G1 M1 H1 e1 rx w1 h1 => ?_
  obtain ⟨c, rfl, h2, h3⟩ := h1
  cases rx
  refine ⟨c, rfl, ?_⟩
  cases c with
  | false => exact h2 rfl σ G1 H1 Q (s.up e1) w1 fun v d G' M' H' e => k v d G' M' H' (e1.trans e)
  | true => exact k _ _ G1 M1 H1 e1 (.bl true) w1 (h3 rfl)
theorem xe_notV {ta : TE} (h : Xe K ta ρ M fun x M1 => ∃ c, x = .bl c ∧ R (.bl (!c)) M1) : Xe K (tNotV ta) ρ M R := by
  intro σ G H Q s w k
  refine h σ G H _ s w fun vx x G1 M1 H1 e1 rx w1 h1 => ?_
  obtain ⟨c, rfl, h2⟩ := h1
  cases rx
  exact ⟨c, rfl, k _ _ G1 M1 H1 e1 (.bl (!c)) w1 h2⟩
/-! tests -/
variable {RB : Bool → Mm → Prop}
theorem xt_B {te : TE} (h : Xe K te ρ M fun x M1 => ∃ c, x = .bl c ∧ RB c M1) : Xt K (tB te) ρ M RB := by
  intro σ G H Q s w k
  refine h σ G H _ s w fun vx x G1 M1 H1 e1 rx w1 h1 => ?_
  obtain ⟨c, rfl, h2⟩ := h1
  cases rx
  exact ⟨c, rfl, k c G1 M1 H1 e1 w1 h2⟩
theorem xt_test {te : TE} (h : Xe K te ρ M fun x M1 => ∃ c, x = .bl c ∧ RB c M1) : Xt K (tTest te) ρ M RB := by
  intro σ G H Q s w k
  refine h σ G H _ s w fun vx x G1 M1 H1 e1 rx w1 h1 => ?_
  obtain ⟨c, rfl, h2⟩ := h1
  cases rx
  exact ⟨c, rfl, k c G1 M1 H1 e1 w1 h2⟩
theorem xt_yes (h : RB true M) : Xt K tYes ρ M RB := by
  intro σ G H Q s w k
  exact k true G M H (Ex.refl G) w h
theorem xt_and {t u : TT} (h : Xt K t ρ M fun c M1 => (c = true → Xt K u ρ M1 RB) ∧ (c = false → RB false M1)) : Xt K (tAnd t u) ρ M RB := by
  intro σ G H Q s w k
  refine h σ G H _ s w fun c G1 M1 H1 e1 w1 h1 => ?_
  cases c with
  | true => exact h1.1 rfl σ G1 H1 Q (s.up e1) w1 fun v G' M' H' e => k v G' M' H' (e1.trans e)
  | false => exact k false G1 M1 H1 e1 w1 (h1.2 rfl)
theorem xt_or {t u : TT} (h : Xt K t ρ M fun c M1 => (c = false → Xt K u ρ M1 RB) ∧ (c = true → RB true M1)) : Xt K (tOr t u) ρ M RB := by
  intro σ G H Q s w k
  refine h σ G H _ s w fun c G1 M1 H1 e1 w1 h1 => ?_
  cases c with
  | false => exact h1.1 rfl σ G1 H1 Q (s.up e1) w1 fun v G' M' H' e => k v G' M' H' (e1.trans e)
  | true => exact k true G1 M1 H1 e1 w1 (h1.2 rfl)
theorem xt_not {t : TT} (h : Xt K t ρ M fun c M1 => RB (!c) M1) : Xt K (tNot t) ρ M RB := by
  intro σ G H Q s w k
  exact h σ G H _ s w fun c G1 M1 H1 e1 w1 h1 => k (!c) G1 M1 H1 e1 w1 h1
theorem xe_chain {r r' : R2} {ta tb tc : TE} (h : Xe K ta ρ M fun x M1 => Xe K tb ρ M1 fun y M2 => Xr K r x y M2 fun z M3 => ∃ c, z = .bl c ∧
    (c = true → Xe K tc ρ M3 fun u M4 => Xr K r' y u M4 R) ∧ (c = false → R (.bl false) M3)) : Xe K (tChain r r' ta tb tc) ρ M R := by
  intro σ G H Q s w k
  refine h σ G H _ s w fun vx x G1 M1 H1 e1 rx w1 h1 => ?_
  refine h1 σ G1 H1 _ (s.up e1) w1 fun vy y G2 M2 H2 e2 ry w2 h2 => ?_
  refine h2 vx vy G2 H2 _ (rx.up e2) ry w2 fun vz z G3 M3 H3 e3 rz w3 h3 => ?_
  have e13 := (e1.trans e2).trans e3
  obtain ⟨c, rfl, h4, h5⟩ := h3
  cases rz
  refine ⟨c, rfl, ?_⟩
  cases c with
  | true =>
    refine h4 rfl σ G3 H3 _ (s.up e13) w3 fun vu u G4 M4 H4 e4 ru w4 h6 => ?_
    exact h6 vy vu G4 H4 Q (ry.up (e3.trans e4)) ru w4 fun v d G' M' H' e => k v d G' M' H' ((e13.trans e4).trans e)
  | false => exact k _ _ G3 M3 H3 e13 (.bl false) w3 (h5 rfl)
/-! operators on ints -/
variable {i j : Int}
theorem xr_I0 {g : Int → Int → Int} (r : R (.int (g i j)) M) : Xr K (rI0 fun i j => .int (g i j)) (.int i) (.int j) M R := by
  intro vx vy G H Q rx ry w k
  cases rx
  cases ry
  exact ⟨i, j, rfl, rfl, k _ _ G M H (Ex.refl G) (.int _) w r⟩
theorem xr_B0 {g : Int → Int → Bool} (r : R (.bl (g i j)) M) : Xr K (rI0 fun i j => .bl (g i j)) (.int i) (.int j) M R := by
  intro vx vy G H Q rx ry w k
  cases rx
  cases ry
  exact ⟨i, j, rfl, rfl, k _ _ G M H (Ex.refl G) (.bl _) w r⟩
theorem xr_I {C : Int → Int → Prop} {g : Int → Int → Int} (c : C i j) (r : R (.int (g i j)) M) : Xr K (rI C fun i j => .int (g i j)) (.int i) (.int j) M R := by
  intro vx vy G H Q rx ry w k
  cases rx
  cases ry
  exact ⟨i, j, rfl, rfl, c, k _ _ G M H (Ex.refl G) (.int _) w r⟩
theorem xu_I {g : Int → Int} (r : R (.int (g i)) M) : Xu K (rU fun i => .int (g i)) (.int i) M R := by
  intro vx G H Q rx w k
  cases rx
  exact ⟨i, rfl, k _ _ G M H (Ex.refl G) (.int _) w r⟩
/-! flat data -/
def fl : D → V
  | .non => .non
  | .bl b => .bl b
  | .int i => .int i
  | .str s => .str s
  | .ref a => .ref a
  | .ty n => .ty n
  | _ => .ref 0
def flD : D → Bool
  | .non => true
  | .bl _ => true
  | .int _ => true
  | .str _ => true
  | _ => false
theorem Rp.fl {G : Hp} {v : V} {d : D} (h : Rp K G v d) (f : flD d = true) : v = fl d := by
  cases h <;> first | rfl | cases f
theorem RpA.fl {G : Hp} : ∀ {vs : List V} {ds : List D}, RpA K G vs ds → ds.all flD = true → vs = ds.map XD.fl := by
  intro vs
  induction vs with
  | nil => intro ds h; cases h; intro _; rfl
  | cons v vs ih =>
    intro ds h f
    cases h with
    | cons h r =>
      rw [List.all_cons, Bool.and_eq_true] at f
      rw [h.fl f.1, ih r f.2, List.map_cons]
theorem xr_eq {x y : D} (hx : flD x = true) (hy : flD y = true) (hs : scal (fl x) (fl y) = true) (r : R (.bl (decide (fl x = fl y))) M) : Xr K rEq x y M R := by
  intro vx vy G H Q rx ry w k
  rw [rx.fl hx, ry.fl hy]
  exact ⟨hs, k _ _ G M H (Ex.refl G) (.bl _) w r⟩
theorem xr_ne {x y : D} (hx : flD x = true) (hy : flD y = true) (hs : scal (fl x) (fl y) = true) (r : R (.bl (!decide (fl x = fl y))) M) : Xr K rNe x y M R := by
  intro vx vy G H Q rx ry w k
  rw [rx.fl hx, ry.fl hy]
  exact ⟨hs, k _ _ G M H (Ex.refl G) (.bl _) w r⟩
theorem xr_eqI (r : R (.bl (decide (i = j))) M) : Xr K rEq (.int i) (.int j) M R := xr_eq rfl rfl rfl (by
  have e : decide (fl (.int i) = fl (.int j)) = decide (i = j) := by simp [fl]
  rw [e]; exact r)
theorem xr_neI (r : R (.bl (!decide (i = j))) M) : Xr K rNe (.int i) (.int j) M R := xr_ne rfl rfl rfl (by
  have e : decide (fl (.int i) = fl (.int j)) = decide (i = j) := by simp [fl]
  rw [e]; exact r)
theorem xr_eqS {a b : Str} (r : R (.bl (decide (a = b))) M) : Xr K rEq (.str a) (.str b) M R := xr_eq rfl rfl rfl (by
  have e : decide (fl (.str a) = fl (.str b)) = decide (a = b) := by simp [fl]
  rw [e]; exact r)
theorem xr_neS {a b : Str} (r : R (.bl (!decide (a = b))) M) : Xr K rNe (.str a) (.str b) M R := xr_ne rfl rfl rfl (by
  have e : decide (fl (.str a) = fl (.str b)) = decide (a = b) := by simp [fl]
  rw [e]; exact r)
theorem xr_eqB {a b : Bool} (r : R (.bl (decide (a = b))) M) : Xr K rEq (.bl a) (.bl b) M R := xr_eq rfl rfl rfl (by
  have e : decide (fl (.bl a) = fl (.bl b)) = decide (a = b) := by simp [fl]
  rw [e]; exact r)
theorem Rp.ne_non {G : Hp} {v : V} {d : D} (h : Rp K G v d) : decide (v = .non) = (match d with | .non => true | _ => false) := by
  cases h <;> simp
def isNon : D → Bool
  | .non => true
  | _ => false
theorem Rp.isNon {G : Hp} {v : V} {d : D} (h : Rp K G v d) : decide (v = .non) = XD.isNon d := by
  cases h <;> simp [XD.isNon]
theorem xr_isN {x : D} (r : R (.bl (isNon x)) M) : Xr K (fun x y H Q => y = .non ∧ Q (.bl (decide (x = .non))) H) x .non M R := by
  intro vx vy G H Q rx ry w k
  cases ry
  refine ⟨rfl, ?_⟩
  rw [rx.isNon]
  exact k _ _ G M H (Ex.refl G) (.bl _) w r
theorem xr_notN {x : D} (r : R (.bl (!isNon x)) M) : Xr K (fun x y H Q => y = .non ∧ Q (.bl (!decide (x = .non))) H) x .non M R := by
  intro vx vy G H Q rx ry w k
  cases ry
  refine ⟨rfl, ?_⟩
  rw [rx.isNon]
  exact k _ _ G M H (Ex.refl G) (.bl _) w r
theorem xe_isN {ta : TE} (h : Xe K ta ρ M fun x M1 => R (.bl (isNon x)) M1) : Xe K (tIsN ta) ρ M R := by
  intro σ G H Q s w k
  refine h σ G H _ s w fun vx x G1 M1 H1 e1 rx w1 h1 => ?_
  show Q (.bl (decide (vx = .non))) H1
  rw [rx.isNon]
  exact k _ _ G1 M1 H1 e1 (.bl _) w1 h1
theorem xe_notN {ta : TE} (h : Xe K ta ρ M fun x M1 => R (.bl (!isNon x)) M1) : Xe K (tNotN ta) ρ M R := by
  intro σ G H Q s w k
  refine h σ G H _ s w fun vx x G1 M1 H1 e1 rx w1 h1 => ?_
  show Q (.bl (!decide (vx = .non))) H1
  rw [rx.isNon]
  exact k _ _ G1 M1 H1 e1 (.bl _) w1 h1
/-! texts -/
theorem xr_addS {a b : Str} (h : a.length + b.length ≤ 16000000) (r : R (.str (a ++ b)) M) : Xr K (fun x y H Q => ∃ i j, x = .str i ∧ y = .str j ∧ i.length + j.length ≤ sizeLine ∧ Q (.str (i ++ j)) H) (.str a) (.str b) M R := by
  intro vx vy G H Q rx ry w k
  cases rx
  cases ry
  exact ⟨a, b, rfl, rfl, Nat.le_trans h (by decide), k _ _ G M H (Ex.refl G) (.str _) w r⟩
theorem xr_inC {c : Nat} {z : Str} (r : R (.bl (decide (c ∈ z.cps.toList))) M) : Xr K (fun x y H Q => ∃ (c : Nat) (z : Str), x = .str ⟨#[c]⟩ ∧ y = .str z ∧ Q (.bl (decide (c ∈ z.cps.toList))) H) (.str ⟨#[c]⟩) (.str z) M R := by
  intro vx vy G H Q rx ry w k
  cases rx
  cases ry
  exact ⟨c, z, rfl, rfl, k _ _ G M H (Ex.refl G) (.bl _) w r⟩
theorem xr_or1 {r1 r2 : R2} {x y : D} (h : Xr K r1 x y M R) : Xr K (fun x y H Q => r1 x y H Q ∨ r2 x y H Q) x y M R := by
  intro vx vy G H Q rx ry w k
  exact .inl (h vx vy G H Q rx ry w k)
theorem xr_or2 {r1 r2 : R2} {x y : D} (h : Xr K r2 x y M R) : Xr K (fun x y H Q => r1 x y H Q ∨ r2 x y H Q) x y M R := by
  intro vx vy G H Q rx ry w k
  exact .inr (h vx vy G H Q rx ry w k)
/-! items -/
theorem RpA.get {G : Hp} : ∀ {vs : List V} {ds : List D} {n : Nat} {d : D}, RpA K G vs ds → ds[n]? = some d → ∃ v, vs[n]? = some v ∧ Rp K G v d := by
  intro vs
  induction vs with
  | nil => intro ds n d h; cases h; intro e; simp at e
  | cons v vs ih =>
    intro ds n d h e
    cases h with
    | cons h r =>
      cases n with
      | zero => simp at e; subst e; exact ⟨v, rfl, h⟩
      | succ n => exact ih (n := n) r (by simpa using e)
theorem RpA.getV {G : Hp} : ∀ {vs : List V} {ds : List D} {n : Nat} {v : V}, RpA K G vs ds → vs[n]? = some v → ∃ d, ds[n]? = some d ∧ Rp K G v d := by
  intro vs
  induction vs with
  | nil => intro ds n d h; cases h; intro e; simp at e
  | cons v vs ih =>
    intro ds n d h e
    cases h with
    | cons h r =>
      cases n with
      | zero => simp at e; subst e; exact ⟨_, rfl, h⟩
      | succ n => exact ih (n := n) r (by simpa using e)
theorem RpA.atI {G : Hp} {vs : List V} {ds : List D} {n : Int} {d : D} (h : RpA K G vs ds) (e : L2.atI ds n = some d) : ∃ v, L2.atI vs n = some v ∧ Rp K G v d := by
  unfold L2.atI at e ⊢
  rw [h.length]
  cases q : ixN ds.length n with
  | none => rw [q] at e; cases e
  | some j => rw [q] at e; exact h.get e
theorem xr_ixL {ds : List D} {d : D} (h : L2.atI ds i = some d) (r : R d M) : Xr K (rIxL K) (.lst ds) (.int i) M R := by
  intro vx vy G H Q rx ry w k
  cases ry
  cases rx with
  | lst hs ra =>
    obtain ⟨v, h1, h2⟩ := ra.atI h
    exact ⟨_, _, i, v, rfl, rfl, (.inl (.inl (w.lst hs))), h1, k _ _ G M H (Ex.refl G) h2 w r⟩
theorem xr_ixLM {a : Addr} {ds : List D} {d : D} (hm : Has M a (.lst ds)) (h : L2.atI ds i = some d) (r : R d M) : Xr K (rIxL K) (.ref a) (.int i) M R := by
  intro vx vy G H Q rx ry w k
  cases ry
  cases rx
  obtain ⟨_, xs, h1, h2⟩ := w.get hm
  obtain ⟨v, h3, h4⟩ := h2.atI h
  exact ⟨_, _, i, v, rfl, rfl, .inl (.inl h1), h3, k _ _ G M H (Ex.refl G) h4 w r⟩
theorem xr_ixT {ds : List D} {d : D} (h : L2.atI ds i = some d) (r : R d M) : Xr K (rIxT K) (.tup ds) (.int i) M R := by
  intro vx vy G H Q rx ry w k
  cases ry
  cases rx with
  | tup hs ra =>
    obtain ⟨v, h1, h2⟩ := ra.atI h
    exact ⟨_, _, i, v, rfl, rfl, (.inl (.inl (w.tup hs))), h1, k _ _ G M H (Ex.refl G) h2 w r⟩
theorem xr_ixS {z : Str} {c : Nat} (hz : z.length ≤ 16000000) (h : L2.atI z.cps.toList i = some c) (r : R (.str ⟨#[c]⟩) M) : Xr K rIxS (.str z) (.int i) M R := by
  intro vx vy G H Q rx ry w k
  cases ry
  cases rx
  exact ⟨z, i, c, rfl, rfl, Nat.le_trans hz (by decide), h, k _ _ G M H (Ex.refl G) (.str _) w r⟩
theorem xr_ix1 {x y : D} (h : Xr K (rIxL K) x y M R) : Xr K (rIx K) x y M R := by
  intro vx vy G H Q rx ry w k
  exact .inl (h vx vy G H Q rx ry w k)
theorem xr_ix2 {x y : D} (h : Xr K (rIxT K) x y M R) : Xr K (rIx K) x y M R := by
  intro vx vy G H Q rx ry w k
  exact .inr (.inl (h vx vy G H Q rx ry w k))
theorem xr_ix3 {x y : D} (h : Xr K rIxS x y M R) : Xr K (rIx K) x y M R := by
  intro vx vy G H Q rx ry w k
  exact .inr (.inr (h vx vy G H Q rx ry w k))
theorem atI_n {α : Type} {xs : List α} {n : Nat} {d : α} (h : xs[n]? = some d) : L2.atI xs (n : Int) = some d := atI_nat h
/-! in -/
def inD (x : D) (ds : List D) : Bool := inV (fl x) (ds.map fl)
theorem flV {d : D} (h : flD d = true) : flatV (fl d) = true := by
  cases d <;> first | rfl | cases h
theorem flVs {ds : List D} (h : ds.all flD = true) : (ds.map fl).all flatV = true := by
  rw [List.all_map]
  rw [List.all_eq_true] at h ⊢
  exact fun d hd => flV (h d hd)
theorem xr_in {neg : Bool} {x : D} {ds : List D} (hx : flD x = true) (hd : ds.all flD = true) (r : R (.bl (if neg then !inD x ds else inD x ds)) M) {y : D} (hy : y = .lst ds ∨ y = .tup ds ∨ ∃ a, y = .ref a ∧ Has M a (.lst ds)) : Xr K (rIn K neg) x y M R := by
  intro vx vy G H Q rx ry w k
  rw [rx.fl hx]
  rcases hy with rfl | rfl | ⟨a, rfl, hm⟩
  · cases ry with
    | lst hs ra =>
      have e := ra.fl hd
      subst e
      exact ⟨_, _, rfl, (.inl (.inl (.inl (w.lst hs)))), flV hx, flVs hd, k _ _ G M H (Ex.refl G) (.bl _) w r⟩
  · cases ry with
    | tup hs ra =>
      have e := ra.fl hd
      subst e
      exact ⟨_, _, rfl, (.inr (.inl (.inl (w.tup hs)))), flV hx, flVs hd, k _ _ G M H (Ex.refl G) (.bl _) w r⟩
  · cases ry
    obtain ⟨_, xs, h1, h2⟩ := w.get hm
    have e := h2.fl hd
    subst e
    exact ⟨_, _, rfl, .inl (.inl (.inl h1)), flV hx, flVs hd, k _ _ G M H (Ex.refl G) (.bl _) w r⟩
end
end XD

/-! XD4: statements, loops, calls. -/
namespace XD
open PySem L2

section
variable {K : PySem.W.Frag} [Bs K] {ρ : Rho} {M M' : Mm} {E : En}
theorem xs_next (h : E.nx ρ M) : Xs K tNext E ρ M := by
  intro σ G H D s w k
  exact k.nx σ G H ρ M (Ex.refl G) s w h
theorem xs_seq {t u : TS} (h : Xs K t { E with nx := fun ρ' M' => Xs K u E ρ' M' } ρ M) : Xs K (tSeq t u) E ρ M := by
  intro σ G H D s w k
  refine h σ G H { D with nx := u D } s w ⟨fun σ' G' H' ρ' M' e s' w' q => ?_, k.rt, k.bk, k.ct⟩
  exact q σ' G' H' D s' w' (k.up e)
theorem xs_ret {te : TE} (h : Xe K te ρ M E.rt) : Xs K (tRet te) E ρ M := by
  intro σ G H D s w k
  exact h σ G H D.rt s w fun v d G' M' H' e r w' q => k.rt v d G' M' H' e r w' q
theorem xs_retN (h : E.rt .non M) : Xs K tRetN E ρ M := by
  intro σ G H D s w k
  exact k.rt .non .non G M H (Ex.refl G) .non w h
theorem xs_drop {te : TE} (h : Xe K te ρ M fun _ M1 => E.nx ρ M1) : Xs K (tDrop te) E ρ M := by
  intro σ G H D s w k
  exact h σ G H _ s w fun v d G' M' H' e r w' q => k.nx σ G' H' ρ M' e (s.up e) w' q
theorem xs_set {te : TE} {i : Nat} (h : Xe K te ρ M fun d M1 => E.nx (ρ.set i (some d)) M1) : Xs K (tAsg te (gName i)) E ρ M := by
  intro σ G H D s w k
  exact h σ G H _ s w fun v d G' M' H' e r w' q => k.nx _ G' H' _ M' e ((s.up e).set i r) w' q
theorem xs_if {tc : TT} {t u : TS} (h : Xt K tc ρ M fun c M1 => (c = true → Xs K t E ρ M1) ∧ (c = false → Xs K u E ρ M1)) : Xs K (tIfS tc t u) E ρ M := by
  intro σ G H D s w k
  refine h σ G H _ s w fun c G1 M1 H1 e1 w1 h1 => ?_
  cases c with
  | true => exact h1.1 rfl σ G1 H1 D (s.up e1) w1 (k.up e1)
  | false => exact h1.2 rfl σ G1 H1 D (s.up e1) w1 (k.up e1)
theorem xs_brk (h : E.bk ρ M) : Xs K tBreak E ρ M := by
  intro σ G H D s w k
  exact k.bk σ G H ρ M (Ex.refl G) s w h
theorem xs_cont (h : E.ct ρ M) : Xs K tCont E ρ M := by
  intro σ G H D s w k
  exact k.ct σ G H ρ M (Ex.refl G) s w h
theorem xs_aug {i : Nat} {te : TE} {f : Int → Int → Int} {a : Int} (hx : ρ[i]? = some (some (.int a))) (h : Xe K te ρ M fun d M1 => ∃ b, d = .int b ∧ E.nx (ρ.set i (some (.int (f a b)))) M1) : Xs K (tAug i te (ipI f)) E ρ M := by
  intro σ G H D s w k
  obtain ⟨v, h1, h2⟩ := s.at_ i _ hx
  cases h2
  refine ⟨.int a, h1, ?_⟩
  refine h σ G H _ s w fun v d G' M' H' e r w' q => ?_
  obtain ⟨b, rfl, q⟩ := q
  cases r
  exact ⟨a, b, rfl, rfl, k.nx _ G' H' _ M' e ((s.up e).set i (.int _)) w' q⟩
theorem xs_par {i j : Nat} {ta : TA} (h : Xa K ta ρ M fun ds M1 => ∃ x y, ds = [x, y] ∧ E.nx ((ρ.set i (some x)).set j (some y)) M1) : Xs K (tPar i j ta) E ρ M := by
  intro σ G H D s w k
  refine h σ G H _ s w fun vs ds G' M' H' e r w' q => ?_
  obtain ⟨x, y, rfl, q⟩ := q
  cases r with
  | cons r1 r =>
    cases r with
    | cons r2 r =>
      cases r
      exact ⟨_, _, rfl, k.nx _ G' H' _ M' e (((s.up e).set i r1).set j r2) w' q⟩
/-- a mutable list is frozen -/
def SubD (a : Addr) (e : D) (x y : Option D) : Prop := y = x ∨ (x = some (.ref a) ∧ y = some e)
inductive SubA (a : Addr) (e : D) : Rho → Rho → Prop
  | nil : SubA a e [] []
  | same {x : Option D} {r r' : Rho} (h : SubA a e r r') : SubA a e (x :: r) (x :: r')
  | sub {r r' : Rho} (h : SubA a e r r') : SubA a e (some (.ref a) :: r) (some e :: r')
theorem SubA.len {a : Addr} {e : D} {r r' : Rho} (h : SubA a e r r') : r'.length = r.length := by
  induction h with
  | nil => rfl
  | same _ ih => simp [ih]
  | sub _ ih => simp [ih]
theorem SubA.at_ {a : Addr} {e : D} {r r' : Rho} (h : SubA a e r r') : ∀ (i : Nat) d, r'[i]? = some (some d) → r[i]? = some (some d) ∨ (r[i]? = some (some (.ref a)) ∧ d = e) := by
  induction h with
  | nil => intro i d h; simp at h
  | same _ ih =>
    intro i d h
    cases i with
    | zero => exact .inl h
    | succ i => exact ih i d (by simpa using h)
  | sub _ ih =>
    intro i d h
    cases i with
    | zero => simp at h; exact .inr ⟨rfl, h.symm⟩
    | succ i => exact ih i d (by simpa using h)
theorem RpS.sub {G : Hp} {σ : L2.St} {ρ ρ' : Rho} (s : RpS K G σ ρ) {a : Addr} {e : D} (h : SubA a e ρ ρ') (r : Rp K G (.ref a) e) : RpS K G σ ρ' := by
  refine ⟨s.len.trans h.len.symm, fun i d hd => ?_⟩
  rcases h.at_ i d hd with q | ⟨q, rfl⟩
  · exact s.at_ i d q
  · obtain ⟨v, h1, h2⟩ := s.at_ i _ q
    cases h2
    exact ⟨_, h1, r⟩
theorem xs_frzL {t : TS} {a : Addr} {ds : List D} {ρ' : Rho} (hc : Cut M a (.lst ds) M') (hs : SubA a (.lst ds) ρ ρ') (h : Xs K t E ρ' M') : Xs K t E ρ M := by
  intro σ G H D s w k
  obtain ⟨_, xs, h1, h2⟩ := w.mo _ hc.mem
  obtain ⟨e, w'⟩ := w.cut hc rfl h1
  exact h σ _ H D ((s.up e).sub hs (.lst upd_same (h2.up e))) w' (k.up e)
theorem xe_frzL {te : TE} {R : RD} {a : Addr} {ds : List D} {ρ' : Rho} (hc : Cut M a (.lst ds) M') (hs : SubA a (.lst ds) ρ ρ') (h : Xe K te ρ' M' R) : Xe K te ρ M R := by
  intro σ G H D s w k
  obtain ⟨_, xs, h1, h2⟩ := w.mo _ hc.mem
  obtain ⟨e, w'⟩ := w.cut hc rfl h1
  exact h σ _ H D ((s.up e).sub hs (.lst upd_same (h2.up e))) w' fun v d G' M' H' e' => k v d G' M' H' (e.trans e')

/-! ### loops -/
/-- what a loop's invariant says of slots and heap -/
def Cn (K : PySem.W.Frag) [Bs K] (G0 : Hp) (I : Rho → Mm → Prop) : L2.St → Hp → Prop := fun σ H => ∃ G ρ M, Ex G0 G ∧ RpS K G σ ρ ∧ Wd K G M H ∧ I ρ M
theorem Cn.sk {G : Hp} {I : Rho → Mm → Prop} : SK K G I (Cn K G I) := fun σ G' H' ρ M e s w i => ⟨G', ρ, M, e, s, w, i⟩
/-- targets -/
theorem xg_name {vs : List Nat} {j : Nat} {d : D} {RG : Rho → Mm → Prop} (hj : j ∈ vs) (h : RG (ρ.set j (some d)) M) : Xg K vs (gName j) d ρ M RG := by
  intro v σ G H Q s w r k
  exact k _ G _ M H (Ex.refl G) (s.set j r) w ⟨by simp, fun i hi => by rw [List.getElem?_set_ne (fun z : j = i => hi (z ▸ hj))]⟩ h
theorem xgs_nil {vs : List Nat} {RG : Rho → Mm → Prop} (h : RG ρ M) : Xgs K vs gNil [] ρ M RG := by
  intro xs σ G H Q s w r k
  cases r
  exact ⟨rfl, k σ G ρ M H (Ex.refl G) s w (Agr.refl vs σ) h⟩
theorem xgs_cons {vs : List Nat} {g : TG} {gs : TGs} {d : D} {ds : List D} {RG : Rho → Mm → Prop} (h : Xg K vs g d ρ M fun ρ1 M1 => Xgs K vs gs ds ρ1 M1 RG) : Xgs K vs (gCons g gs) (d :: ds) ρ M RG := by
  intro xs σ G H Q s w r k
  cases r with
  | cons r1 r2 =>
    refine ⟨_, _, rfl, ?_⟩
    refine h _ σ G H _ s w r1 fun σ1 G1 ρ1 M1 H1 e1 s1 w1 a1 h1 => ?_
    exact h1 _ σ1 G1 H1 Q s1 w1 (r2.up e1) fun σ2 G2 ρ2 M2 H2 e2 s2 w2 a2 h2 => k σ2 G2 ρ2 M2 H2 (e1.trans e2) s2 w2 (a1.trans a2) h2
theorem xg_tup {vs : List Nat} {n : Nat} {gs : TGs} {ds : List D} {RG : Rho → Mm → Prop} (hn : ds.length = n) (h : Xgs K vs gs ds ρ M RG) : Xg K vs (gTup K n gs) (.tup ds) ρ M RG := by
  intro v σ G H Q s w r k
  cases r with
  | tup hx ra => exact ⟨_, _, rfl, .inl (.inl (w.tup hx)), by rw [ra.length, hn], h _ σ G H Q s w ra k⟩
theorem xs_asg {te : TE} {g : TG} (vs : List Nat) (h : Xe K te ρ M fun d M1 => Xg K vs g d ρ M1 E.nx) : Xs K (tAsg te g) E ρ M := by
  intro σ G H D s w k
  refine h σ G H _ s w fun v d G' M' H' e r w' q => ?_
  exact q v σ G' H' _ (s.up e) w' r fun σ2 G2 ρ2 M2 H2 e2 s2 w2 _ h2 => k.nx σ2 G2 H2 ρ2 M2 (e.trans e2) s2 w2 h2
/-- what is walked -/
theorem xi_list {tl : TE} {RI : Nat → (Nat → D → Prop) → (Mm → Prop) → Mm → Prop} (h : Xe K tl ρ M fun d M1 => ∃ ds, d = .lst ds ∧ RI ds.length (fun i x => ds[i]? = some x) (fun _ => True) M1) : Xi K (iList K tl) ρ M RI := by
  intro σ G H Q s w k
  refine h σ G H _ s w fun v d G1 M1 H1 e1 r w1 q => ?_
  obtain ⟨ds, rfl, q⟩ := q
  cases r with
  | @lst a xs _ hx ra =>
    refine ⟨a, rfl, ⟨xs, .inl (.inl (w1.lst hx))⟩, k _ _ _ _ G1 M1 H1 e1 w1 ⟨fun i G M H hi e w _ => ?_, fun G M H e w _ => ?_, fun i G M H x H' hi e w _ y => ?_⟩ q⟩
    · rw [← ra.length] at hi
      exact ⟨xs, xs[i], .inl (.inl (w.lst (e _ _ hx))), by simp [hi]⟩
    · exact ⟨xs, .inl (.inl (w.lst (e _ _ hx))), by rw [ra.length]; exact Nat.le_refl _⟩
    · obtain ⟨rfl, y⟩ := y
      obtain ⟨d, h1, h2⟩ := ra.getV (y xs (.inl (.inl (w.lst (e _ _ hx)))))
      exact ⟨G, d, Ex.refl G, w, h2.up e, h1⟩
theorem xi_scr {tl : TE} {RI : Nat → (Nat → D → Prop) → (Mm → Prop) → Mm → Prop} (h : Xe K tl ρ M fun d M1 => ∃ ns, d = .scr ns ∧ RI ns.length (fun i x => ∃ n, ns[i]? = some n ∧ x = .int n) (fun _ => True) M1) : Xi K (iList K tl) ρ M RI := by
  intro σ G H Q s w k
  refine h σ G H _ s w fun v d G1 M1 H1 e1 r w1 q => ?_
  obtain ⟨ns, rfl, q⟩ := q
  cases r with
  | @scr a _ hx =>
    refine ⟨a, rfl, ⟨_, w1.sqL hx⟩, k _ _ _ _ G1 M1 H1 e1 w1 ⟨fun i G M H hi e w _ => ?_, fun G M H e w _ => ?_, fun i G M H x H' hi e w _ y => ?_⟩ q⟩
    · exact ⟨_, .int ns[i], w.sqL (sqL_up e hx), by simp [hi]⟩
    · exact ⟨_, w.sqL (sqL_up e hx), by simp⟩
    · obtain ⟨rfl, y⟩ := y
      have z := y _ (w.sqL (sqL_up e hx))
      rw [List.getElem?_map] at z
      cases q : ns[i]? with
      | none => rw [q] at z; cases z
      | some n =>
        rw [q] at z
        cases z
        exact ⟨G, .int n, Ex.refl G, w, .int n, n, rfl, rfl⟩
theorem xi_tup {tl : TE} {RI : Nat → (Nat → D → Prop) → (Mm → Prop) → Mm → Prop} (h : Xe K tl ρ M fun d M1 => ∃ ds, d = .tup ds ∧ RI ds.length (fun i x => ds[i]? = some x) (fun _ => True) M1) : Xi K (iTup K tl) ρ M RI := by
  intro σ G H Q s w k
  refine h σ G H _ s w fun v d G1 M1 H1 e1 r w1 q => ?_
  obtain ⟨ds, rfl, q⟩ := q
  cases r with
  | @tup a xs _ hx ra =>
    refine ⟨a, rfl, ⟨xs, .inl (.inl (w1.tup hx))⟩, k _ _ _ _ G1 M1 H1 e1 w1 ⟨fun i G M H hi e w _ => ?_, fun G M H e w _ => ?_, fun i G M H x H' hi e w _ y => ?_⟩ q⟩
    · rw [← ra.length] at hi
      exact ⟨xs, xs[i], .inl (.inl (w.tup (e _ _ hx))), by simp [hi]⟩
    · exact ⟨xs, .inl (.inl (w.tup (e _ _ hx))), by rw [ra.length]; exact Nat.le_refl _⟩
    · obtain ⟨rfl, y⟩ := y
      obtain ⟨d, h1, h2⟩ := ra.getV (y xs (.inl (.inl (w.tup (e _ _ hx)))))
      exact ⟨G, d, Ex.refl G, w, h2.up e, h1⟩
theorem wk_rng {G1 : Hp} {lo : Int} {n : Nat} : Wk K G1 (Itr lo n) n (fun i x => x = .int (lo + i)) (fun _ => True) :=
  ⟨fun i G M H hi _ _ _ => hi, fun _ _ _ _ _ _ => Nat.le_refl _, fun i G M H x H' hi e w _ y => by
    obtain ⟨rfl, rfl⟩ := y
    exact ⟨G, _, Ex.refl G, w, .int _, rfl⟩⟩
theorem xi_rng1 {ta : TA} {RI : Nat → (Nat → D → Prop) → (Mm → Prop) → Mm → Prop} (h : Xa K ta ρ M fun ds M1 => ∃ n : Int, ds = [.int n] ∧ -(2 ^ 62) ≤ n ∧ n < 2 ^ 62 ∧ RI n.toNat (fun i x => x = .int (0 + (i : Nat))) (fun _ => True) M1) : Xi K (iRng1 ta) ρ M RI := by
  intro σ G H Q s w k
  refine h σ G H _ s w fun vs ds G1 M1 H1 e1 r w1 q => ?_
  obtain ⟨n, rfl, h1, h2, q⟩ := q
  cases r with
  | cons r1 r =>
    cases r
    cases r1
    exact ⟨n, rfl, h1, h2, k _ _ _ _ G1 M1 H1 e1 w1 wk_rng q⟩
theorem xi_rng2 {ta : TA} {RI : Nat → (Nat → D → Prop) → (Mm → Prop) → Mm → Prop} (h : Xa K ta ρ M fun ds M1 => ∃ lo n : Int, ds = [.int lo, .int n] ∧ (-(2 ^ 62) ≤ lo ∧ lo < 2 ^ 62 ∧ -(2 ^ 62) ≤ n ∧ n < 2 ^ 62) ∧ RI (n - lo).toNat (fun i x => x = .int (lo + (i : Nat))) (fun _ => True) M1) : Xi K (iRng2 ta) ρ M RI := by
  intro σ G H Q s w k
  refine h σ G H _ s w fun vs ds G1 M1 H1 e1 r w1 q => ?_
  obtain ⟨lo, n, rfl, h1, q⟩ := q
  cases r with
  | cons r1 r =>
    cases r with
    | cons r2 r =>
      cases r
      cases r1
      cases r2
      exact ⟨lo, n, rfl, h1, k _ _ _ _ G1 M1 H1 e1 w1 wk_rng q⟩
theorem xi_str {te : TE} {RI : Nat → (Nat → D → Prop) → (Mm → Prop) → Mm → Prop} (h : Xe K te ρ M fun d M1 => ∃ z, d = .str z ∧ RI z.cps.size (fun i x => ∃ c, z.cps[i]? = some c ∧ x = .str ⟨#[c]⟩) (fun _ => True) M1) : Xi K (iStr te) ρ M RI := by
  intro σ G H Q s w k
  refine h σ G H _ s w fun v d G1 M1 H1 e1 r w1 q => ?_
  obtain ⟨z, rfl, q⟩ := q
  cases r
  refine ⟨z, rfl, k _ _ _ _ G1 M1 H1 e1 w1 ⟨fun i G M H hi _ _ _ => hi, fun G M H _ _ _ => Nat.le_refl _, fun i G M H x H' hi e w _ y => ?_⟩ q⟩
  obtain ⟨rfl, c, h1, rfl⟩ := y
  exact ⟨G, _, Ex.refl G, w, .str _, c, h1, rfl⟩
theorem xi_zipA {ta : TA} {RI : Nat → (Nat → D → Prop) → (Mm → Prop) → Mm → Prop} (h : Xa K ta ρ M fun ds M1 => ∃ x y xs ys, ds = [x, y] ∧ ((x = .lst xs ∧ y = .lst ys) ∨ (x = .tup xs ∧ y = .tup ys)) ∧ RI (min xs.length ys.length) (fun i x => ∃ a b, xs[i]? = some a ∧ ys[i]? = some b ∧ x = .tup [a, b]) (fun _ => True) M1) : Xi K (RZ.iZipA K ta) ρ M RI := by
  intro σ G H Q s w k
  refine h σ G H _ s w fun vs ds G1 M1 H1 e1 r w1 q => ?_
  obtain ⟨x, y, xs, ys, rfl, hxy, q⟩ := q
  cases r with
  | cons r1 r =>
    cases r with
    | cons r2 r =>
      cases r
      rcases hxy with ⟨rfl, rfl⟩ | ⟨rfl, rfl⟩
      · cases r1 with
        | @lst a us _ ha ra =>
          cases r2 with
          | @lst b ws _ hb rb =>
            refine ⟨a, b, us, ws, rfl, .inl ⟨.inl (.inl (w1.lst ha)), .inl (.inl (w1.lst hb)), k _ _ _ _ G1 M1 H1 e1 w1 ⟨fun i G M H hi e w _ => ?_, fun G M H e w _ => ?_, fun i G M H x H' hi e w _ y => ?_⟩ q⟩⟩
            · have h1 : i < us.length := by rw [ra.length]; omega
              have h2 : i < ws.length := by rw [rb.length]; omega
              exact ⟨us, ws, us[i], ws[i], .inl (.inl (w.lst (e _ _ ha))), .inl (.inl (w.lst (e _ _ hb))), by simp [h1], by simp [h2]⟩
            · refine ⟨us, ws, .inl (.inl (w.lst (e _ _ ha))), .inl (.inl (w.lst (e _ _ hb))), ?_⟩
              rw [ra.length, rb.length]
              omega
            · obtain ⟨T, u, v, rfl, hT, rfl, f1, f2⟩ := y
              obtain ⟨p, p1, p2⟩ := ra.getV (f1 us (.inl (.inl (w.lst (e _ _ ha)))))
              obtain ⟨q, q1, q2⟩ := rb.getV (f2 ws (.inl (.inl (w.lst (e _ _ hb)))))
              have eN := Ex.new (o := .tup [u, v]) (w.gfree hT)
              exact ⟨_, .tup [p, q], eN, w.new hT, .tup upd_same (.cons (p2.up (e.trans eN)) (.cons (q2.up (e.trans eN)) .nil)), p, q, p1, q1, rfl⟩
      · cases r1 with
        | @tup a us _ ha ra =>
          cases r2 with
          | @tup b ws _ hb rb =>
            refine ⟨a, b, us, ws, rfl, .inr ⟨.inl (.inl (w1.tup ha)), .inl (.inl (w1.tup hb)), k _ _ _ _ G1 M1 H1 e1 w1 ⟨fun i G M H hi e w _ => ?_, fun G M H e w _ => ?_, fun i G M H x H' hi e w _ y => ?_⟩ q⟩⟩
            · have h1 : i < us.length := by rw [ra.length]; omega
              have h2 : i < ws.length := by rw [rb.length]; omega
              exact ⟨us, ws, us[i], ws[i], .inl (.inl (w.tup (e _ _ ha))), .inl (.inl (w.tup (e _ _ hb))), by simp [h1], by simp [h2]⟩
            · refine ⟨us, ws, .inl (.inl (w.tup (e _ _ ha))), .inl (.inl (w.tup (e _ _ hb))), ?_⟩
              rw [ra.length, rb.length]
              omega
            · obtain ⟨T, u, v, rfl, hT, rfl, f1, f2⟩ := y
              obtain ⟨p, p1, p2⟩ := ra.getV (f1 us (.inl (.inl (w.tup (e _ _ ha)))))
              obtain ⟨q, q1, q2⟩ := rb.getV (f2 ws (.inl (.inl (w.tup (e _ _ hb)))))
              have eN := Ex.new (o := .tup [u, v]) (w.gfree hT)
              exact ⟨_, .tup [p, q], eN, w.new hT, .tup upd_same (.cons (p2.up (e.trans eN)) (.cons (q2.up (e.trans eN)) .nil)), p, q, p1, q1, rfl⟩
theorem xi_enum {ta : TA} {RI : Nat → (Nat → D → Prop) → (Mm → Prop) → Mm → Prop} (h : Xa K ta ρ M fun ds M1 => ∃ xs, ds = [.lst xs] ∧ RI xs.length (fun i x => ∃ a, xs[i]? = some a ∧ x = .tup [.int (i : Nat), a]) (fun _ => True) M1) : Xi K (iEnum K ta) ρ M RI := by
  intro σ G H Q s w k
  refine h σ G H _ s w fun vs ds G1 M1 H1 e1 r w1 q => ?_
  obtain ⟨xs, rfl, q⟩ := q
  cases r with
  | cons r1 r =>
    cases r
    cases r1 with
    | @lst a us _ ha ra =>
      refine ⟨a, us, rfl, .inl (.inl (w1.lst ha)), k _ _ _ _ G1 M1 H1 e1 w1 ⟨fun i G M H hi e w _ => ?_, fun G M H e w _ => ?_, fun i G M H x H' hi e w _ y => ?_⟩ q⟩
      · have h1 : i < us.length := by rw [ra.length]; omega
        exact ⟨us, us[i], .inl (.inl (w.lst (e _ _ ha))), by simp [h1]⟩
      · exact ⟨us, .inl (.inl (w.lst (e _ _ ha))), by rw [ra.length]; exact Nat.le_refl _⟩
      · obtain ⟨T, u, rfl, hT, rfl, f1⟩ := y
        obtain ⟨p, p1, p2⟩ := ra.getV (f1 us (.inl (.inl (w.lst (e _ _ ha)))))
        have eN := Ex.new (o := .tup [.int (i : Nat), u]) (w.gfree hT)
        exact ⟨_, .tup [.int (i : Nat), p], eN, w.new hT, .tup upd_same (.cons (.int _) (.cons (p2.up (e.trans eN)) .nil)), p, p1, rfl⟩
/-- a for loop -/
theorem xs_for {wi : TI} {g : TG} {tb : TS} (vs : List Nat) (h : Xi K wi ρ M fun n it lk M1 => ∃ I : Nat → Rho → Mm → Prop, I 0 ρ M1 ∧ (∀ i ρ' M', i ≤ n → I i ρ' M' → lk M') ∧
    (∀ i d ρ' M', i < n → it i d → I i ρ' M' → Xg K vs g d ρ' M' fun ρ2 M2 => Xs K tb { E with nx := I (i + 1), ct := I (i + 1), bk := E.nx } ρ2 M2) ∧
    (∀ ρ' M', I n ρ' M' → E.nx ρ' M')) : Xs K (tFor wi g tb) E ρ M := by
  intro σ G H D s w k
  refine h σ G H _ s w fun J n it lk G1 M1 H1 e1 w1 wk q => ?_
  obtain ⟨I, i0, hlk, hs, hd⟩ := q
  refine ⟨fun i m σ H => m = n - i ∧ i ≤ n ∧ Cn K G1 (I i) σ H, ⟨n, by simp, Nat.zero_le _, G1, ρ, M1, Ex.refl _, s.up e1, w1, i0⟩, ?_⟩
  rintro i m σ' H' ⟨rfl, hi, G2, ρ2, M2, e2, s2, w2, i2⟩
  by_cases hlt : i < n
  · refine .inr ⟨wk.goes i G2 M2 H' hlt e2 w2 (hlk i ρ2 M2 hi i2), Cn K G1 (I (i + 1)), fun σ3 H3 c => ⟨n - (i + 1), by omega, rfl, hlt, c⟩, fun x H3 y => ?_⟩
    obtain ⟨G3, d, e3, w3, r3, hit⟩ := wk.yields i G2 M2 H' x H3 hlt e2 w2 (hlk i ρ2 M2 hi i2) y
    refine hs i d ρ2 M2 hlt hit i2 x σ' G3 H3 _ (s2.up e3) w3 r3 fun σ4 G4 ρ4 M4 H4 e4 s4 w4 _ q => ?_
    have e14 := (e2.trans e3).trans e4
    refine q σ4 G4 H4 _ s4 w4 ⟨?_, k.rt.up (e1.trans e14), k.nx.up (e1.trans e14), ?_⟩
    · exact fun σ5 G5 H5 ρ5 M5 e5 s5 w5 i5 => ⟨G5, ρ5, M5, e14.trans e5, s5, w5, i5⟩
    · exact fun σ5 G5 H5 ρ5 M5 e5 s5 w5 i5 => ⟨G5, ρ5, M5, e14.trans e5, s5, w5, i5⟩
  · have e : i = n := by omega
    subst e
    exact .inl ⟨wk.stops G2 M2 H' e2 w2 (hlk i ρ2 M2 hi i2), k.nx σ' G2 H' ρ2 M2 (e1.trans e2) s2 w2 (hd ρ2 M2 i2)⟩
/-! comprehensions -/
theorem wipe_get : ∀ (vs : List Nat) (σ : L2.St) (i : Nat), (wipe σ vs)[i]? = if i ∈ vs ∧ i < σ.length then some none else σ[i]? := by
  intro vs σ
  have hl : ∀ vs : List Nat, (wipe σ vs).length = σ.length := by
    intro vs
    induction vs with
    | nil => rfl
    | cons v vs ih => show ((wipe σ vs).set v none).length = _; rw [List.length_set, ih]
  induction vs with
  | nil => intro i; simp [wipe]
  | cons v vs ih =>
    intro i
    show ((wipe σ vs).set v none)[i]? = _
    rw [List.getElem?_set, hl, ih]
    by_cases hv : v = i
    · subst hv
      by_cases h1 : v < σ.length
      · simp [h1]
      · have h2 : σ[v]? = none := List.getElem?_eq_none_iff.mpr (by omega)
        simp [h1, h2]
    · rw [if_neg hv]
      by_cases hm : i ∈ vs
      · simp [hm]
      · have : i ∉ v :: vs := by simp [hm]; exact fun z => hv z.symm
        simp [hm, this]
theorem wipe_len (vs : List Nat) (σ : L2.St) : (wipe σ vs).length = σ.length := by
  induction vs with
  | nil => rfl
  | cons v vs ih => show ((wipe σ vs).set v none).length = _; rw [List.length_set, ih]
theorem wipe_agr {vs : List Nat} {σ σ2 : L2.St} (a : Agr vs (wipe σ vs) σ2) : wipe σ2 vs = wipe σ vs := by
  apply List.ext_getElem?
  intro i
  rw [wipe_get, wipe_get]
  have hl : σ2.length = σ.length := a.1.trans (wipe_len vs σ)
  rw [hl]
  by_cases h : i ∈ vs ∧ i < σ.length
  · rw [if_pos h, if_pos h]
  · rw [if_neg h, if_neg h]
    by_cases hv : i ∈ vs
    · have h2 : σ.length ≤ i := Nat.le_of_not_lt fun z => h ⟨hv, z⟩
      rw [List.getElem?_eq_none_iff.mpr (by omega), List.getElem?_eq_none_iff.mpr h2]
    · rw [a.2 i hv, wipe_get, if_neg h]
def wipeD (ρ : Rho) : List Nat → Rho
  | [] => ρ
  | v :: vs => (wipeD ρ vs).set v none
theorem RpS.wipe {G : Hp} {σ : L2.St} (s : RpS K G σ ρ) : ∀ vs : List Nat, RpS K G (L2.wipe σ vs) (wipeD ρ vs) := by
  intro vs
  induction vs with
  | nil => exact s
  | cons v vs ih => exact ih.clr v
variable {R : RD}
theorem RpA.snoc {G : Hp} : ∀ {vs : List V} {ds : List D} {v : V} {d : D}, RpA K G vs ds → Rp K G v d → RpA K G (vs ++ [v]) (ds ++ [d]) := by
  intro vs
  induction vs with
  | nil => intro ds v d h r; cases h; exact .cons r .nil
  | cons a vs ih =>
    intro ds v d h r
    cases h with
    | cons h1 h2 => exact .cons h1 (ih h2 r)
/-- [e for g in w if t]: P i ys: behind i turns the list is ys -/
theorem xe_lc {wi : TI} {g : TG} {tt : TT} {te : TE} {vs : List Nat} (h : Xi K wi ρ M fun n it lk M1 => lk M1 ∧ (∀ p m, lk ((p, m) :: M1)) ∧ n ≤ 16000000 ∧ ∃ P : Nat → List D → Prop, P 0 [] ∧
    (∀ i d ys p, i < n → it i d → P i ys → Xg K vs g d (wipeD ρ vs) ((p, .lst ys) :: M1) fun ρ2 M2 => M2 = (p, .lst ys) :: M1 ∧
      Xt K tt ρ2 ((p, .lst ys) :: M1) fun b M3 => M3 = (p, .lst ys) :: M1 ∧ (b = true → Xe K te ρ2 ((p, .lst ys) :: M1) fun y M4 => M4 = (p, .lst ys) :: M1 ∧ P (i + 1) (ys ++ [y])) ∧ (b = false → P (i + 1) ys)) ∧
    (∀ ys, P n ys → R (.lst ys) M1)) : Xe K (tLc wi g tt te vs) ρ M R := by
  intro σ G H Q s w k
  refine h σ G H _ s w fun J n it lk G1 M1 H1 e1 w1 wk q => ?_
  obtain ⟨lk1, lk2, hn, P, p0, hs, hd⟩ := q
  intro Dl hD
  refine ⟨fun i m H => m = n - i ∧ i ≤ n ∧ ∃ G ys, ys.length ≤ i ∧ Ex G1 G ∧ P i ys ∧ Wd K G ((Dl, .lst ys) :: M1) H, ⟨n, by simp, Nat.zero_le _, G1, [], Nat.zero_le _, Ex.refl _, p0, w1.newM hD ⟨w1.gfree hD, [], upd_same, .nil⟩⟩, ?_⟩
  rintro i m H' ⟨rfl, hi, G2, ys, hys, e2, p2, w2⟩
  by_cases hlt : i < n
  · refine .inr ⟨wk.goes i G2 _ H' hlt e2 w2 (lk2 _ _), fun H => ∃ G ys, ys.length ≤ i + 1 ∧ Ex G1 G ∧ P (i + 1) ys ∧ Wd K G ((Dl, .lst ys) :: M1) H, fun H3 c => ⟨n - (i + 1), by omega, rfl, hlt, c⟩, fun x H3 y => ?_⟩
    obtain ⟨G3, d, e3, w3, r3, hit⟩ := wk.yields i G2 _ H' x H3 hlt e2 w2 (lk2 _ _) y
    refine hs i d ys Dl hlt hit p2 x _ G3 H3 _ ((s.up ((e1.trans e2).trans e3)).wipe vs) w3 r3 fun σ4 G4 ρ4 M4 H4 e4 s4 w4 a4 q => ?_
    obtain ⟨rfl, q⟩ := q
    refine ⟨wipe_agr a4, ?_⟩
    refine q σ4 G4 H4 _ s4 w4 fun b G5 M5 H5 e5 w5 q5 => ?_
    obtain ⟨rfl, q5, q6⟩ := q5
    cases b with
    | true =>
      rw [if_pos rfl]
      refine q5 rfl σ4 G5 H5 _ (s4.up e5) w5 fun v z G6 M6 H6 e6 r6 w6 q7 => ?_
      obtain ⟨rfl, q7⟩ := q7
      obtain ⟨g0, xs, h1, h2⟩ := w6.get .head
      refine ⟨xs, h1, ?_, G6, ys ++ [z], ?_, (((e2.trans e3).trans e4).trans e5).trans e6, q7, ?_⟩
      · rw [h2.length]
        exact Nat.lt_of_le_of_lt hys (Nat.lt_of_lt_of_le hlt (Nat.le_trans hn (by decide)))
      · simp; omega
      · exact w6.put .head g0 ⟨g0, _, upd_same, h2.snoc r6⟩
    | false =>
      rw [if_neg Bool.false_ne_true]
      exact ⟨G5, ys, by omega, (((e2.trans e3).trans e4).trans e5), q6 rfl, w5⟩
  · have e : i = n := by omega
    subst e
    refine .inl ⟨wk.stops G2 _ H' e2 w2 (lk2 _ _), ?_⟩
    obtain ⟨_, xs, h1, h2⟩ := w2.get .head
    obtain ⟨e3, w3⟩ := w2.cut .head rfl h1
    exact k (.ref Dl) (.lst ys) _ M1 H' ((e1.trans e2).trans e3) (.lst upd_same (h2.up e3)) w3 (hd ys p2)
theorem xs_while {tc : TT} {tb : TS} (h : ∃ I : Nat → Rho → Mm → Prop, (∃ m, I m ρ M) ∧ ∀ m ρ' M', I m ρ' M' → Xt K tc ρ' M' fun c M1 =>
    (c = true → Xs K tb { E with nx := fun ρ2 M2 => ∃ m', m' < m ∧ I m' ρ2 M2, ct := fun ρ2 M2 => ∃ m', m' < m ∧ I m' ρ2 M2, bk := E.nx } ρ' M1) ∧ (c = false → E.nx ρ' M1)) : Xs K (tWhile tc tb) E ρ M := by
  intro σ G H D s w k
  obtain ⟨I, ⟨m0, i0⟩, hs⟩ := h
  refine ⟨fun m => Cn K G (I m), ⟨m0, G, ρ, M, Ex.refl _, s, w, i0⟩, fun m σ' H' c => ?_⟩
  obtain ⟨G2, ρ2, M2, e2, s2, w2, i2⟩ := c
  refine hs m ρ2 M2 i2 σ' G2 H' _ s2 w2 fun c G3 M3 H3 e3 w3 q => ?_
  cases c with
  | true =>
    rw [if_pos rfl]
    refine ⟨Cn K G fun ρ2 M2 => ∃ m', m' < m ∧ I m' ρ2 M2, fun σ4 H4 q4 => ?_, ?_⟩
    · obtain ⟨G4, ρ4, M4, e4, s4, w4, m', hm, i4⟩ := q4
      exact ⟨m', hm, G4, ρ4, M4, e4, s4, w4, i4⟩
    · have e23 := e2.trans e3
      refine q.1 rfl σ' G3 H3 _ (s2.up e3) w3 ⟨?_, k.rt.up e23, k.nx.up e23, ?_⟩
      · exact fun σ4 G4 H4 ρ4 M4 e4 s4 w4 i4 => ⟨G4, ρ4, M4, e23.trans e4, s4, w4, i4⟩
      · exact fun σ4 G4 H4 ρ4 M4 e4 s4 w4 i4 => ⟨G4, ρ4, M4, e23.trans e4, s4, w4, i4⟩
  | false =>
    rw [if_neg Bool.false_ne_true]
    exact k.nx σ' G3 H3 ρ2 M3 (e2.trans e3) (s2.up e3) w3 (q.2 rfl)

/-! ### calls of defs -/
abbrev DS := List D → Mm → RD → Prop
def spOf (K : PySem.W.Frag) (S : DS) : Sp := fun vs H Q _ => ∃ G M ds R, RpA K G vs ds ∧ Wd0 K G M H ∧ S ds M R ∧ ∀ v d G' M' H', Ex G G' → Rp K G' v d → Wd0 K G' M' H' → R d M' → Q v H'
theorem sp_back {K : PySem.W.Frag} [Bs K] {G G1 : Hp} {R : RD} {Q : VK} (b : Ex (Bs.G0 K) G1) (k : ∀ v d G' M' H', Ex G G' → Rp K G' v d → Wd K G' M' H' → R d M' → Q v H') (e1 : Ex G G1) :
    ∀ v d G' M' H', Ex G1 G' → Rp K G' v d → Wd0 K G' M' H' → R d M' → Q v H' := fun v d G' M' H' e r w q => k v d G' M' H' (e1.trans e) r ⟨w, b.trans e⟩ q
theorem Wd0.wd {K : PySem.W.Frag} {G H : Hp} {M : Mm} (w : Wd0 K G M H) : @Wd K (bs0 K) G M H := @Wd.mk K (bs0 K) G M H w fun _ _ z => nomatch z
abbrev Xs0 (K : PySem.W.Frag) (t : TS) (E : En) (ρ : Rho) (M : Mm) : Prop := @Xs K (bs0 K) t E ρ M
variable {R : RD}
theorem xe_call {S : DS} {X : XK} {t : TA} (h : Xa K t ρ M fun ds M1 => S ds M1 R) : Xe K (tCall (spOf K S) [] X t) ρ M R := by
  intro σ G H Q s w k
  refine h σ G H _ s w fun vs ds G1 M1 H1 e1 r w1 q => ?_
  rw [List.append_nil]
  exact ⟨G1, M1, ds, R, r, w1.toWd0, q, sp_back w1.bs k e1⟩
end
def startD (N : List Str) (ds : List D) : Rho := ds.map some ++ List.replicate (N.length - ds.length) none
theorem rps_start {K : PySem.W.Frag} [Bs K] {G : Hp} {N : List Str} {vs : List V} {ds : List D} (h : RpA K G vs ds) : RpS K G (L2.start N vs) (startD N ds) := by
  have hl := h.length
  refine ⟨by simp [L2.start, startD, hl], fun i d hd => ?_⟩
  unfold startD at hd
  unfold L2.start
  by_cases hi : i < ds.length
  · rw [List.getElem?_append_left (by simpa using hi), List.getElem?_map] at hd
    rw [List.getElem?_append_left (by simpa [hl] using hi), List.getElem?_map]
    cases q : ds[i]? with
    | none => rw [q] at hd; cases hd
    | some d' =>
      rw [q] at hd
      cases hd
      obtain ⟨v, h1, h2⟩ := h.get q
      exact ⟨v, by rw [h1]; rfl, h2⟩
  · rw [List.getElem?_append_right (by simpa using hi), List.getElem?_replicate] at hd
    split at hd <;> cases hd
section
variable {P : Program} {w : World} {K : PySem.W.Frag} [Bs K] {mg : Str → Option Value} {base : Heap}
omit [Bs K] in
/-- a def keeps S, by its body's term and what it tells -/
theorem fn_ok {x qual : Str} {st : Stmt} {f : Addr} {fd : FuncData} {N ps : List Str} {k : Nat} {S : DS} (F : Fun K x qual st f fd) (Sc : FnScope N ps (defScope st)) (len : ∀ ds M R, S ds M R → ds.length = ps.length)
    (hbody : ∀ (cdv : Value) (A : Around) (outer : List Env) (s : Shared) (H : Hp) (E : XK), Room k (A.deeper (PyProof.Rows.envOfC qual (defScope st) s.heap.objs.size f cdv)) →
      ∃ t, PSs (cxOf CX0 P w K mg base N qual (defScope st) f cdv A outer s H E).nox (defBody st) t ∧ ∀ ds M R, S ds M R → Xs0 K t { nx := fun _ M' => R .non M', rt := R } (startD N ds) M) : FnOk P w K mg base CX0 (k + 1) f fd ps (spOf K S) := by
  refine F.ok Sc (fun vs H Q E h => ?_) (fun cdv A outer s H vs Q E hr h => ?_)
  · obtain ⟨G, M, ds, R, r, _, hs, _⟩ := h
    rw [r.length]
    exact len ds M R hs
  · obtain ⟨G, M, ds, R, r, w0, hs, kk⟩ := h
    obtain ⟨t, h1, h2⟩ := hbody cdv A outer s H E hr
    refine ⟨t, h1, h2 ds M R hs _ G H _ (rps_start r) w0.wd ⟨?_, ?_, ?_, ?_⟩⟩
    · exact fun σ' G' H' ρ' M' e _ w' q => kk .non .non G' M' H' e .non w'.toWd0 q
    · exact fun v d G' M' H' e r' w' q => kk v d G' M' H' e r' w'.toWd0 q
    · exact fun σ' G' H' ρ' M' e _ w' q => q
    · exact fun σ' G' H' ρ' M' e _ w' q => q
/-- a def of the module: what a caller needs -/
structure GFn (P : Program) (w : World) (K : PySem.W.Frag) (mg : Str → Option Value) (base : Heap) (k : Nat) (x : Str) (ps : List Str) (S : DS) : Prop where
  ex : ∃ f fd, FnOk P w K mg base CX0 k f fd ps (spOf K S) ∧ mg x = some (.ref f) ∧ PySem.W.keepIn K (.ref f) = true ∧ Binds K fd ps []
theorem GFn.mono {j k : Nat} {x : Str} {ps : List Str} {S : DS} (h : GFn P w K mg base j x ps S) (hk : j ≤ k) : GFn P w K mg base k x ps S := by
  obtain ⟨f, fd, h1, h2⟩ := h.ex
  exact ⟨f, fd, h1.mono hk, h2⟩
end
theorem pe_g {X : Cx} {k : Nat} {x : Str} {ps : List Str} {S : DS} {e : Expr} {es : List Expr} {t : TA} {p pos : Pos} (G : GFn X.prog X.w X.K X.mg X.base k x ps S) (hr : Room k X.A) (ha : PA X (e :: es) t)
    (hg : Gl X x := by rfl) (hdb : (x == ("__debug__" : Str)) = false := by decide) (he : starEach (e :: es) X.env = (false, eval e X.env) :: starEach es X.env := by rfl) (hpl : (backTo pos (starEach es X.env)).any (·.1) = false := by rfl) :
    PE X (.Call (.Name x p) (e :: es) [] pos) (tCall (spOf X.K S) [] E0 t) := by
  obtain ⟨f, fd, h1, h2, h3, h4⟩ := G.ex
  exact pe_call h1 hr hg h2 h3 h4 .nil pass0 ha hdb he hpl
end XD

/-! XD5: built-ins, methods, slices; what a module's top has written. -/
namespace XD
open PySem L2

/-! ### rules that serve several kinds -/
def rAddI : R2 := rI0 fun i j => .int (i + j)
def rAddS' : R2 := fun x y H Q => ∃ i j, x = .str i ∧ y = .str j ∧ i.length + j.length ≤ sizeLine ∧ Q (.str (i ++ j)) H
def rAddU (K : PySem.W.Frag) : R2 := fun x y H Q => rAddI x y H Q ∨ (rAddS' x y H Q ∨ (rCat x y H Q ∨ rCatA K x y H Q))
theorem op_addU {X : Cx} : OpR X (binaryOp .Add) (rAddU X.K) := OpR.or op_add (OpR.or op_add_str (OpR.or op_cat op_catA))
/-- one factor small, or both together below a million bits -/
def CMulU (i j : Int) : Prop := CMul i j ∨ CMulW i j
theorem op_mulU {X : Cx} : OpR X (binaryOp .Mult) (rI CMulU fun i j => .int (i * j)) := opI fun _ _ _ _ _ _ _ hc q => PyProof.Rows.mul_int q (hc.elim (fun h => h.ok) fun h => h.ok)
theorem cmulR {i j : Int} (h : j.natAbs < 18446744073709551616) : CMulU i j := .inl (.inr ⟨by show -18446744073709551616 < j; omega, by show j < 18446744073709551616; omega⟩)
theorem cmulL {i j : Int} (h : i.natAbs < 18446744073709551616) : CMulU i j := .inl (.inl ⟨by show -18446744073709551616 < i; omega, by show i < 18446744073709551616; omega⟩)
def rSlU (K : PySem.W.Frag) : V → Option Int → Option Int → Hp → VK → Prop := fun x lo hi H Q => rSlS x lo hi H Q ∨ (rSlL K x lo hi H Q ∨ rSlA K x lo hi H Q)
theorem sl_U {X : Cx} : SlR X (rSlU X.K) := SlR.or sl_str (SlR.or sl_list sl_tupA)
def cInt : List V → Hp → VK → Prop := fun xs H Q => (∃ i, xs = [.int i] ∧ Q (.int i) H) ∨ ∃ k, xs = [.bl k] ∧ Q (.int (if k then 1 else 0)) H
def cLen (K : PySem.W.Frag) : List V → Hp → VK → Prop := fun xs H Q => ∃ x n, xs = [x] ∧ LenV K x H n ∧ Q (.int n) H
def cList (K : PySem.W.Frag) : List V → Hp → VK → Prop := fun xs H Q => ∃ p ys, xs = [.ref p] ∧ (SqL K H p ys ∨ SqT K H p ys) ∧ ∀ l, H l = none → Q (.ref l) (upd H l (.lst ys))
def cStrI : List V → Hp → VK → Prop := fun xs H Q => ∃ i, xs = [.int i] ∧ i.natAbs.log2 < 1920 ∧ Q (.str (toString i)) H
theorem c_int {X : Cx} : CallR X (.type "int") cInt := call_int1
theorem c_len {X : Cx} : CallR X (.builtin "len") (cLen X.K) := call_len
theorem c_list {X : Cx} : CallR X (.type "list") (cList X.K) := call_list_of
theorem c_strI {X : Cx} : CallR X (.type "str") cStrI := call_str_int
def rInC : R2 := fun x y H Q => ∃ (c : Nat) (z : Str), x = .str ⟨#[c]⟩ ∧ y = .str z ∧ Q (.bl (decide (c ∈ z.cps.toList))) H
theorem o_inC {X : Cx} : OpR X (compareOp .In) rInC := op_in_sign

def strLe (n : Nat) : n ≤ 16000000 → n ≤ sizeLine := fun h => Nat.le_trans h (by decide)
section
variable {K : PySem.W.Frag} [Bs K] {ρ : Rho} {M M' : Mm} {R : RD} {i j : Int}
theorem xr_addI (r : R (.int (i + j)) M) : Xr K (rAddU K) (.int i) (.int j) M R := xr_or1 (xr_I0 (g := fun i j => i + j) r)
theorem xr_addSt {a b : Str} (h : a.length + b.length ≤ 16000000) (r : R (.str (a ++ b)) M) : Xr K (rAddU K) (.str a) (.str b) M R := xr_or2 (xr_or1 (xr_addS h r))
theorem RpA.append {G : Hp} : ∀ {vs ws : List V} {ds es : List D}, RpA K G vs ds → RpA K G ws es → RpA K G (vs ++ ws) (ds ++ es) := by
  intro vs
  induction vs with
  | nil => intro ws ds es h r; cases h; exact r
  | cons a vs ih =>
    intro ws ds es h r
    cases h with
    | cons h1 h2 => exact .cons h1 (ih h2 r)
theorem xr_addL {ds es : List D} (h : ds.length + es.length ≤ 16000000) (r : R (.lst (ds ++ es)) M) : Xr K (rAddU K) (.lst ds) (.lst es) M R := by
  intro vx vy G H Q rx ry w k
  cases rx with
  | lst hx rx =>
    cases ry with
    | lst hy ry =>
      refine .inr (.inr (.inl ⟨_, _, _, _, rfl, rfl, w.lst hx, w.lst hy, ?_, fun p hp => ?_⟩))
      · rw [rx.length, ry.length]; exact strLe _ h
      · obtain ⟨G', e, r', w'⟩ := w.newL hp (rx.append ry)
        exact k _ _ G' M _ e r' w' r
/-- a new list that will be changed -/
theorem xr_addLM {ds es : List D} (h : ds.length + es.length ≤ 16000000) (r : ∀ p, R (.ref p) ((p, .lst (ds ++ es)) :: M)) : Xr K (rAddU K) (.lst ds) (.lst es) M R := by
  intro vx vy G H Q rx ry w k
  cases rx with
  | lst hx rx =>
    cases ry with
    | lst hy ry =>
      refine .inr (.inr (.inl ⟨_, _, _, _, rfl, rfl, w.lst hx, w.lst hy, ?_, fun p hp => ?_⟩))
      · rw [rx.length, ry.length]; exact strLe _ h
      · exact k _ (.ref p) G _ _ (Ex.refl G) (.ref p) (w.newLM hp (rx.append ry)) (r p)
theorem xr_addT {ds es : List D} (h : ds.length + es.length ≤ 16000000) (r : R (.tup (ds ++ es)) M) : Xr K (rAddU K) (.tup ds) (.tup es) M R := by
  intro vx vy G H Q rx ry w k
  cases rx with
  | @tup a xs _ hx rx =>
    cases ry with
    | @tup b ys _ hy ry =>
      refine .inr (.inr (.inr ⟨_, _, _, _, rfl, rfl, .inl (.inl (w.tup hx)), .inl (.inl (w.tup hy)), ?_, fun z => ?_, fun z z2 => ?_, fun _ _ p hp => ?_⟩))
      · rw [rx.length, ry.length]; exact strLe _ h
      · subst z
        cases rx
        exact k _ _ G M H (Ex.refl G) (.tup hy ry) w r
      · subst z2
        cases ry
        rw [List.append_nil] at r
        exact k _ _ G M H (Ex.refl G) (.tup hx rx) w r
      · obtain ⟨G', e, r', w'⟩ := w.newT hp (rx.append ry)
        exact k _ _ G' M _ e r' w' r
/-! calls -/
theorem xc_int (r : R (.int i) M) : Xc K cInt [.int i] M R := by
  intro vs G H Q rs w k
  cases rs with
  | cons h t =>
    cases t
    cases h
    exact .inl ⟨i, rfl, k _ _ G M H (Ex.refl G) (.int i) w r⟩
theorem xc_lenS {z : Str} (h : z.length ≤ 16000000) (r : R (.int z.length) M) : Xc K (cLen K) [.str z] M R := by
  intro vs G H Q rs w k
  cases rs with
  | cons h1 t =>
    cases t
    cases h1
    exact ⟨_, z.length, rfl, ⟨strLe _ h, rfl⟩, k _ _ G M H (Ex.refl G) (.int _) w r⟩
theorem xc_lenL {ds : List D} (r : R (.int ds.length) M) : Xc K (cLen K) [.lst ds] M R := by
  intro vs G H Q rs w k
  cases rs with
  | cons h1 t =>
    cases t
    cases h1 with
    | lst h1 h2 => exact ⟨_, ds.length, rfl, .inl ⟨_, .inl (.inl (w.lst h1)), h2.length.symm⟩, k _ _ G M H (Ex.refl G) (.int _) w r⟩
theorem xc_lenT {ds : List D} (r : R (.int ds.length) M) : Xc K (cLen K) [.tup ds] M R := by
  intro vs G H Q rs w k
  cases rs with
  | cons h1 t =>
    cases t
    cases h1 with
    | tup h1 h2 => exact ⟨_, ds.length, rfl, .inr ⟨_, .inl (.inl (w.tup h1)), h2.length.symm⟩, k _ _ G M H (Ex.refl G) (.int _) w r⟩
theorem xc_lenM {a : Addr} {ds : List D} (hm : Has M a (.lst ds)) (r : R (.int ds.length) M) : Xc K (cLen K) [.ref a] M R := by
  intro vs G H Q rs w k
  cases rs with
  | cons h1 t =>
    cases t
    cases h1
    obtain ⟨_, xs, h1, h2⟩ := w.get hm
    exact ⟨_, ds.length, rfl, .inl ⟨_, .inl (.inl h1), h2.length.symm⟩, k _ _ G M H (Ex.refl G) (.int _) w r⟩
theorem xc_listL {ds : List D} {x : D} (hx : x = .lst ds ∨ x = .tup ds ∨ ∃ a, x = .ref a ∧ Has M a (.lst ds)) (r : R (.lst ds) M) : Xc K (cList K) [x] M R := by
  intro vs G H Q rs w k
  cases rs with
  | cons h1 t =>
    cases t
    have fin : ∀ (xs : List V), RpA K G xs ds → ∀ l, H l = none → Q (.ref l) (upd H l (.lst xs)) := fun xs h l hl => by
      have e := Ex.new (o := .lst xs) (w.gfree hl)
      exact k _ _ _ M _ e (.lst upd_same (h.up e)) (w.new hl) r
    rcases hx with rfl | rfl | ⟨a, rfl, hm⟩
    · cases h1 with
      | lst h1 h2 => exact ⟨_, _, rfl, .inl (.inl (.inl (w.lst h1))), fin _ h2⟩
    · cases h1 with
      | tup h1 h2 => exact ⟨_, _, rfl, .inr (.inl (.inl (w.tup h1))), fin _ h2⟩
    · cases h1
      obtain ⟨_, xs, h1, h2⟩ := w.get hm
      exact ⟨_, _, rfl, .inl (.inl (.inl h1)), fin _ h2⟩
theorem xc_listM {ds : List D} {x : D} (hx : x = .lst ds ∨ x = .tup ds ∨ ∃ a, x = .ref a ∧ Has M a (.lst ds)) (r : ∀ p, R (.ref p) ((p, .lst ds) :: M)) : Xc K (cList K) [x] M R := by
  intro vs G H Q rs w k
  cases rs with
  | cons h1 t =>
    cases t
    have fin : ∀ (xs : List V), RpA K G xs ds → ∀ l, H l = none → Q (.ref l) (upd H l (.lst xs)) := fun xs h l hl =>
      k _ (.ref l) G _ _ (Ex.refl G) (.ref l) (w.newLM hl h) (r l)
    rcases hx with rfl | rfl | ⟨a, rfl, hm⟩
    · cases h1 with
      | lst h1 h2 => exact ⟨_, _, rfl, .inl (.inl (.inl (w.lst h1))), fin _ h2⟩
    · cases h1 with
      | tup h1 h2 => exact ⟨_, _, rfl, .inr (.inl (.inl (w.tup h1))), fin _ h2⟩
    · cases h1
      obtain ⟨_, xs, h1, h2⟩ := w.get hm
      exact ⟨_, _, rfl, .inl (.inl (.inl h1)), fin _ h2⟩
theorem xc_strI (h : i.natAbs.log2 < 1920) (r : R (.str (toString i)) M) : Xc K cStrI [.int i] M R := by
  intro vs G H Q rs w k
  cases rs with
  | cons h1 t =>
    cases t
    cases h1
    exact ⟨i, rfl, h, k _ _ G M H (Ex.refl G) (.str _) w r⟩
theorem xc_all {bs : List Bool} (r : R (.bl (bs.all id)) M) : Xc K (rAll K) [.lst (bs.map D.bl)] M R := by
  intro vs G H Q rs w k
  cases rs with
  | cons h1 t =>
    cases t
    cases h1 with
    | lst h1 h2 =>
      have e := h2.fl (by simp [List.all_eq_true, flD])
      have e2 : (bs.map D.bl).map fl = bs.map V.bl := by simp [fl]
      rw [e2] at e
      subst e
      exact ⟨_, bs, rfl, .inl (.inl (w.lst h1)), k _ _ G M H (Ex.refl G) (.bl _) w r⟩
theorem xc_any {bs : List Bool} (r : R (.bl (bs.any id)) M) : Xc K (rAny K) [.lst (bs.map D.bl)] M R := by
  intro vs G H Q rs w k
  cases rs with
  | cons h1 t =>
    cases t
    cases h1 with
    | lst h1 h2 =>
      have e := h2.fl (by simp [List.all_eq_true, flD])
      have e2 : (bs.map D.bl).map fl = bs.map V.bl := by simp [fl]
      rw [e2] at e
      subst e
      exact ⟨_, bs, rfl, .inl (.inl (w.lst h1)), k _ _ G M H (Ex.refl G) (.bl _) w r⟩
/-! isinstance -/
def tyN : D → Option String
  | .non => some "NoneType"
  | .bl _ => some "bool"
  | .int _ => some "int"
  | .str _ => some "str"
  | .lst _ => some "list"
  | .tup _ => some "tuple"
  | .dk _ _ => some "dict"
  | _ => none
theorem Rp.tyX {G H : Hp} {v : V} {d : D} {n : String} (h : Rp K G v d) (w : Wd K G M H) (e : tyN d = some n) : TyX K H v (.type n) := by
  cases h with
  | non => cases e; exact .base .non
  | bl b => cases e; exact .base (.bl b)
  | int b => cases e; exact .base (.int b)
  | str b => cases e; exact .base (.str b)
  | lst h r => cases e; exact .base (.lst (w.lst h))
  | tup h r => cases e; exact .base (.tup (w.tup h))
  | dk h r =>
    cases e
    rcases w.ex _ _ h with q | ⟨_, od, q, _⟩
    · exact .base (.dK q)
    · exact .fDict q
  | _ => cases e
theorem xc_isi {x : D} {n m : String} {b : Bool} (hx : tyN x = some n) (hk : kitB n m = some b) (r : R (.bl b) M) : Xc K (rIsi K) [x, .ty m] M R := by
  intro vs G H Q rs w k
  cases rs with
  | cons h1 t =>
    cases t with
    | cons h2 t =>
      cases t
      cases h2
      exact ⟨_, _, _, _, b, rfl, .ty m, h1.tyX w hx, kit_ty hk, k _ _ G M H (Ex.refl G) (.bl b) w r⟩
theorem paired_cls : ∀ ns : List String, Paired ClsV (ns.map V.ty) (ns.map Value.type) := by
  intro ns
  induction ns with
  | nil => exact .nil
  | cons n ns ih => exact .cons (.ty n) ih
theorem RpA.tys {G : Hp} : ∀ {vs : List V} {ns : List String}, RpA K G vs (ns.map D.ty) → vs = ns.map V.ty := by
  intro vs
  induction vs with
  | nil => intro ns h; cases ns with | nil => rfl | cons n ns => cases h
  | cons v vs ih =>
    intro ns h
    cases ns with
    | nil => cases h
    | cons n ns =>
      cases h with
      | cons h1 h2 => cases h1; rw [ih h2, List.map_cons]
def kitL (a : String) : List String → Option Bool
  | [] => some false
  | c :: r => match kitB a c with
    | some true => some true
    | some false => kitL a r
    | none => none
theorem kit_any {a : String} : ∀ {ns : List String} {b : Bool}, kitL a ns = some b → PySem.W.kitAny K (.type a) (ns.map Value.type) = some b := by
  intro ns
  induction ns with
  | nil => intro b h; exact h
  | cons n ns ih =>
    intro b h
    unfold kitL at h
    cases e : kitB a n with
    | none => rw [e] at h; cases h
    | some c =>
      rw [e] at h
      cases c with
      | true => exact kitAny_cons (kit_ty e) (fun z => nomatch z) (fun _ => (Option.some.inj h).symm)
      | false => exact kitAny_cons (kit_ty e) (fun _ => ih h) (fun z => nomatch z)
theorem xe_isiT {ta : TE} {tb : TA} (ns : List String) (h : Xe K ta ρ M fun x M1 => Xa K tb ρ M1 fun cs M2 => cs = ns.map D.ty ∧ ns.length ≤ 100 ∧ ∃ n b, tyN x = some n ∧ kitL n ns = some b ∧ R (.bl b) M2) :
    Xe K (tCB (rIsiT K) (tCons ta (tCons (tTup tb) tNil))) ρ M R := by
  intro σ G H Q s w k
  refine h σ G H _ s w fun vx x G1 M1 H1 e1 rx w1 h1 => ?_
  refine h1 σ G1 H1 _ (s.up e1) w1 fun vs cs G2 M2 H2 e2 rs w2 h2 => ?_
  obtain ⟨rfl, hl, n, b, hn, hk, r⟩ := h2
  have ev := rs.tys
  subst ev
  refine ⟨by rw [List.length_map]; exact strLe _ (by omega), fun p hp => ?_⟩
  have e := Ex.new (o := .tup (ns.map V.ty)) (w2.gfree hp)
  have w3 := w2.new (o := .tup (ns.map V.ty)) hp
  exact ⟨vx, p, ns.map V.ty, _, _, b, rfl, upd_same, paired_cls ns, (rx.up (e2.trans e)).tyX w3 hn, kit_any hk, k _ _ _ M2 _ ((e1.trans e2).trans e) (.bl b) w3 r⟩
/-! slices -/
def Xo (K : PySem.W.Frag) [Bs K] (t : TO) (ρ : Rho) (M : Mm) (R : Option Int → Mm → Prop) : Prop :=
  ∀ (σ : L2.St) (G H : Hp) (Q : Option Int → Hp → Prop), RpS K G σ ρ → Wd K G M H → (∀ o G' M' H', Ex G G' → Wd K G' M' H' → R o M' → Q o H') → t σ H Q
def Xl (K : PySem.W.Frag) [Bs K] (r : V → Option Int → Option Int → Hp → VK → Prop) (x : D) (lo hi : Option Int) (M : Mm) (R : RD) : Prop :=
  ∀ (vx : V) (G H : Hp) (Q : VK), Rp K G vx x → Wd K G M H → (∀ v d G' M' H', Ex G G' → Rp K G' v d → Wd K G' M' H' → R d M' → Q v H') → r vx lo hi H Q
theorem xo_no {RO : Option Int → Mm → Prop} (h : RO none M) : Xo K tNoPart ρ M RO := by
  intro σ G H Q s w k
  exact k none G M H (Ex.refl G) w h
theorem xo_at {te : TE} {RO : Option Int → Mm → Prop} (h : Xe K te ρ M fun d M1 => ∃ i, d = .int i ∧ RO (some i) M1) : Xo K (tPart te) ρ M RO := by
  intro σ G H Q s w k
  refine h σ G H _ s w fun v d G1 M1 H1 e1 r w1 q => ?_
  obtain ⟨i, rfl, q⟩ := q
  cases r
  exact ⟨i, rfl, k (some i) G1 M1 H1 e1 w1 q⟩
theorem xe_sl {r : V → Option Int → Option Int → Hp → VK → Prop} {te : TE} {tl th : TO} (h : Xe K te ρ M fun x M1 => Xo K tl ρ M1 fun lo M2 => Xo K th ρ M2 fun hi M3 => Xl K r x lo hi M3 R) : Xe K (tSl r te tl th) ρ M R := by
  intro σ G H Q s w k
  refine h σ G H _ s w fun vx x G1 M1 H1 e1 rx w1 h1 => ?_
  refine h1 σ G1 H1 _ (s.up e1) w1 fun lo G2 M2 H2 e2 w2 h2 => ?_
  refine h2 σ G2 H2 _ (s.up (e1.trans e2)) w2 fun hi G3 M3 H3 e3 w3 h3 => ?_
  exact h3 vx G3 H3 Q (rx.up (e2.trans e3)) w3 fun v d G' M' H' e => k v d G' M' H' (((e1.trans e2).trans e3).trans e)
def cutD (xs : List D) (lo hi : Option Int) : List D := (xs.drop (HT.sIx xs.length 0 lo)).take (HT.sIx xs.length xs.length hi - HT.sIx xs.length 0 lo)
theorem RpA.drop {G : Hp} : ∀ {vs : List V} {ds : List D} (n : Nat), RpA K G vs ds → RpA K G (vs.drop n) (ds.drop n) := by
  intro vs
  induction vs with
  | nil => intro ds n h; cases h; simp; exact .nil
  | cons v vs ih =>
    intro ds n h
    cases h with
    | cons h1 h2 =>
      cases n with
      | zero => exact .cons h1 h2
      | succ n => exact ih n h2
theorem RpA.take {G : Hp} : ∀ {vs : List V} {ds : List D} (n : Nat), RpA K G vs ds → RpA K G (vs.take n) (ds.take n) := by
  intro vs
  induction vs with
  | nil => intro ds n h; cases h; simp; exact .nil
  | cons v vs ih =>
    intro ds n h
    cases h with
    | cons h1 h2 =>
      cases n with
      | zero => exact .nil
      | succ n => exact .cons h1 (ih n h2)
theorem RpA.cut {G : Hp} {vs : List V} {ds : List D} (lo hi : Option Int) (h : RpA K G vs ds) : RpA K G (cutV vs lo hi) (cutD ds lo hi) := by
  unfold cutV cutD
  rw [h.length]
  exact (h.drop _).take _
theorem xl_S {z : Str} {lo hi : Option Int} (h : z.length ≤ 16000000) (r : R (.str (cutS z lo hi)) M) : Xl K (rSlU K) (.str z) lo hi M R := by
  intro vx G H Q rx w k
  cases rx
  exact .inl ⟨z, rfl, strLe _ h, k _ _ G M H (Ex.refl G) (.str _) w r⟩
theorem xl_L {ds : List D} {lo hi : Option Int} (r : R (.lst (cutD ds lo hi)) M) : Xl K (rSlU K) (.lst ds) lo hi M R := by
  intro vx G H Q rx w k
  cases rx with
  | lst h1 h2 =>
    refine .inr (.inl ⟨_, _, rfl, .inl (.inl (w.lst h1)), fun p hp => ?_⟩)
    obtain ⟨G', e, r', w'⟩ := w.newL hp (h2.cut lo hi)
    exact k _ _ G' M _ e r' w' r
theorem xl_T {ds : List D} {lo hi : Option Int} (r : R (.tup (cutD ds lo hi)) M) : Xl K (rSlU K) (.tup ds) lo hi M R := by
  intro vx G H Q rx w k
  cases rx with
  | @tup a xs _ h1 h2 =>
    refine .inr (.inr ⟨_, _, rfl, .inl (.inl (w.tup h1)), fun z => ?_, fun _ p hp => ?_⟩)
    · have ec : cutD ds lo hi = ds := by
        unfold cutD
        rw [h2.length] at z
        rw [z.1, z.2]
        simp
      rw [ec] at r
      exact k _ _ G M H (Ex.refl G) (.tup h1 h2) w r
    · have e := Ex.new (o := .tup (cutV xs lo hi)) (w.gfree hp)
      exact k _ _ _ M _ e (.tup upd_same ((h2.cut lo hi).up e)) (w.new hp) r
theorem rpA_ints {G : Hp} : ∀ ns : List Int, RpA K G (ns.map V.int) (ns.map D.int) := by
  intro ns
  induction ns with
  | nil => exact .nil
  | cons n ns ih => exact .cons (.int n) ih
theorem xl_scr {ns : List Int} {lo hi : Option Int} (r : R (.lst (cutD (ns.map D.int) lo hi)) M) : Xl K (rSlU K) (.scr ns) lo hi M R := by
  intro vx G H Q rx w k
  cases rx with
  | scr h1 =>
    refine .inr (.inl ⟨_, _, rfl, w.sqL h1, fun p hp => ?_⟩)
    have e := Ex.new (o := .lst (cutV (ns.map V.int) lo hi)) (w.gfree hp)
    exact k _ _ _ M _ e (.lst upd_same (((rpA_ints ns).cut lo hi).up e)) (w.new hp) r
/-! methods -/
inductive TyM (M : Mm) : String → D → Prop
  | str (z : Str) : TyM M "str" (.str z)
  | int (i : Int) : TyM M "int" (.int i)
  | lst (ds : List D) : TyM M "list" (.lst ds)
  | lstM {a : Addr} {ds : List D} (h : Has M a (.lst ds)) : TyM M "list" (.ref a)
  | dkM {a : Addr} {ds : List (Key × D)} (h : Has M a (.dk ds)) : TyM M "dict" (.ref a)
  | dtM {a : Addr} {ds : List (List Key × D)} (h : Has M a (.dt ds)) : TyM M "dict" (.ref a)
theorem TyM.tyV {G H : Hp} {T : String} {x : D} {v : V} (t : TyM M T x) (r : Rp K G v x) (w : Wd K G M H) : L2.tyV K T v H := by
  cases t with
  | str z => cases r; rfl
  | int z => cases r; rfl
  | lst ds => cases r with | lst h1 h2 => exact .inl ⟨rfl, _, .inl (.inl (w.lst h1))⟩
  | lstM h =>
    cases r
    obtain ⟨_, xs, h1, h2⟩ := w.get h
    exact .inl ⟨rfl, _, .inl (.inl h1)⟩
  | dkM h =>
    cases r
    obtain ⟨_, xs, h1, h2⟩ := w.get h
    exact .inr (.inr (.inl ⟨rfl, .inl ⟨_, h1⟩⟩))
  | dtM h =>
    cases r
    obtain ⟨_, xs, h1, h2⟩ := w.get h
    exact .inr (.inr (.inl ⟨rfl, .inr ⟨_, h1⟩⟩))
theorem xe_bm {T : String} {r : V → List V → Hp → VK → Prop} {to : TE} {t : TA} (h : Xe K to ρ M fun x M1 => TyM M1 T x ∧ Xa K t ρ M1 fun xs M2 => Xm K r x xs M2 R) : Xe K (tBM K T r to t) ρ M R := by
  intro σ G H Q s w k
  refine h σ G H _ s w fun vx x G1 M1 H1 e1 rx w1 h1 => ?_
  refine ⟨h1.1.tyV rx w1, ?_⟩
  refine h1.2 σ G1 H1 _ (s.up e1) w1 fun vs xs G2 M2 H2 e2 rs w2 h2 => ?_
  exact h2 vx vs G2 H2 Q (rx.up e2) rs w2 fun v d G' M' H' e => k v d G' M' H' ((e1.trans e2).trans e)
theorem xe_bm0 {T : String} {r : V → List V → Hp → VK → Prop} {to : TE} (h : Xe K to ρ M fun x M1 => TyM M1 T x ∧ Xm K r x [] M1 R) : Xe K (tBM0 K T r to) ρ M R := by
  intro σ G H Q s w k
  refine h σ G H _ s w fun vx x G1 M1 H1 e1 rx w1 h1 => ?_
  exact ⟨h1.1.tyV rx w1, h1.2 vx [] G1 H1 Q rx .nil w1 fun v d G' M' H' e => k v d G' M' H' (e1.trans e)⟩
theorem xm_append {a : Addr} {ds : List D} {y : D} (hm : Has M a (.lst ds)) (hp : Put M a (.lst (ds ++ [y])) M') (hl : ds.length < 16000000) (r : R .non M') : Xm K rAppend (.ref a) [y] M R := by
  intro vx vs G H Q rx rs w k
  cases rx
  cases rs with
  | cons h1 t =>
    cases t
    obtain ⟨g0, xs, h2, h3⟩ := w.get hm
    refine ⟨a, xs, _, rfl, rfl, h2, ?_, ?_⟩
    · rw [h3.length]; exact Nat.lt_of_lt_of_le hl (by decide)
    · exact k .non .non G M' _ (Ex.refl G) .non (w.put hp g0 ⟨g0, _, upd_same, h3.snoc h1⟩) r
/-! stores by place -/
theorem RpA.set {G : Hp} : ∀ {vs : List V} {ds : List D} {v : V} {d : D} (n : Nat), RpA K G vs ds → Rp K G v d → RpA K G (vs.set n v) (ds.set n d) := by
  intro vs
  induction vs with
  | nil => intro ds v d n h r; cases h; exact .nil
  | cons a vs ih =>
    intro ds v d n h r
    cases h with
    | cons h1 h2 =>
      cases n with
      | zero => exact .cons r h2
      | succ n => exact .cons h1 (ih n h2 r)
theorem xg_setL {vs : List Nat} {to ti : TE} {d : D} {RG : Rho → Mm → Prop} (h : Xe K to ρ M fun o M1 => Xe K ti ρ M1 fun x M2 => ∃ a k ds j M3, o = .ref a ∧ x = .int k ∧ Has M2 a (.lst ds) ∧ ixN ds.length k = some j ∧ Put M2 a (.lst (ds.set j d)) M3 ∧ RG ρ M3) : Xg K vs (gSub to ti rSetL) d ρ M RG := by
  intro v σ G H Q s w r kk
  refine h σ G H _ s w fun vo o G1 M1 H1 e1 ro w1 h1 => ?_
  refine h1 σ G1 H1 _ (s.up e1) w1 fun vi x G2 M2 H2 e2 ri w2 h2 => ?_
  obtain ⟨a, k, ds, j, M3, rfl, rfl, hm, hj, hp, q⟩ := h2
  cases ro
  cases ri
  obtain ⟨g0, xs, h3, h4⟩ := w2.get hm
  refine ⟨a, xs, k, j, rfl, rfl, h3, by rw [h4.length]; exact hj, ?_⟩
  exact kk σ G2 ρ M3 _ (e1.trans e2) (s.up (e1.trans e2)) (w2.put hp g0 ⟨g0, _, upd_same, h4.set j (r.up (e1.trans e2))⟩) (Agr.refl vs σ) q
end

theorem cxOf_K {CX : CXT} {P : Program} {w : World} {K : PySem.W.Frag} [Bs K] {mg : Str → Option Value} {base : Heap} {N : List Str} {q : Str} {sc : Scope} {f : Addr} {cd : Value} {A : Around} {outer : List Env} {s : Shared} {H : Hp} {E : XK} :
    (cxOf CX P w K mg base N q sc f cd A outer s H E).nox.K = K := rfl
/-! ### what the top has written -/
structure FT (K : PySem.W.Frag) (mg : Str → Option Value) (x qual : Str) (st : Stmt) (ps : List Str) : Prop where
  ex : ∃ f fd, Fun K x qual st f fd ∧ mg x = some (.ref f) ∧ Binds K fd ps []
theorem FT.mk' {K : PySem.W.Frag} [Bs K] {mg : Str → Option Value} {h : Heap} (X : K.In h) (G : h.Ns mainGlobals mg) {x qual : Str} {st : Stmt} {ps : List Str} {f : Addr} {oc : Value} {od an : Option Addr} {osl : Array (Option Value)} {kV doc pm cdv ct : Value}
    (a : PySem.W.nsIn K mainGlobals x = some (some (.ref f)))
    (l : K.lookup f = some ⟨oc, od, .func (PySem.W.fnOf x qual (defArgs st) (defBody st) (defScope st) .none kV doc pm an cdv ct), osl⟩) (c : PySem.W.codeIn K cdv qual = true) (k : PySem.W.keepIn K (.ref f) = true)
    (hb : ∀ (kV doc pm : Value) (an : Option Addr) (cdv ct : Value) (us : List Value), us.length = ps.length → bindArgs (PySem.W.fnOf x qual (defArgs st) (defBody st) (defScope st) .none kV doc pm an cdv ct) ⟨us, []⟩ = pure (ps.zip us)) : FT K mg x qual st ps := by
  have F := fun_mk (st := st) l c k
  exact ⟨f, _, F, PySem.W.mg_of X G a, F.binds hb⟩
/-- a constant of the module -/
structure CT (mg : Str → Option Value) (x : Str) (v : V) : Prop where
  ex : ∃ u, mg x = some u ∧ RelV v u
theorem pe_ct {X : Cx} {x : Str} {v : V} {pos : Pos} (c : CT X.mg x v) (hg : Gl X x := by rfl) (hd : (x == ("__debug__" : Str)) = false := by decide) : PE X (.Name x pos) (tC v) := by
  obtain ⟨u, h1, h2⟩ := c.ex
  exact pe_glob hg h1 h2 hd
section
variable {P : Program} {w : World} {K : PySem.W.Frag} [Bs K] {mg : Str → Option Value} {base : Heap}
omit [Bs K] in
theorem g_ok {x qual : Str} {st : Stmt} {N ps : List Str} {k : Nat} {S : DS} (T : FT K mg x qual st ps) (Sc : FnScope N ps (defScope st)) (len : ∀ ds M R, S ds M R → ds.length = ps.length)
    (hbody : ∀ (f : Addr) (cdv : Value) (A : Around) (outer : List Env) (s : Shared) (H : Hp) (E : XK), Room k (A.deeper (PyProof.Rows.envOfC qual (defScope st) s.heap.objs.size f cdv)) →
      ∃ t, PSs (cxOf CX0 P w K mg base N qual (defScope st) f cdv A outer s H E).nox (defBody st) t ∧ ∀ ds M R, S ds M R → Xs0 K t { nx := fun _ M' => R .non M', rt := R } (startD N ds) M) : GFn P w K mg base (k + 1) x ps S := by
  obtain ⟨f, fd, F, h1, h2⟩ := T.ex
  exact ⟨f, fd, fn_ok F Sc len (hbody f), h1, F.kp, h2⟩
end
end XD

/-! XD6: the same rules with the ends written out; the steps' tactics; the feed. -/
namespace XD
open PySem L2
abbrev RS := Rho → Mm → Prop
section
variable {K : PySem.W.Frag} [Bs K] {ρ : Rho} {M M' : Mm} {nx bk ct : RS} {rt : RD} {t u : TS} {te : TE}
theorem ys_next (h : nx ρ M) : Xs K tNext ⟨nx, rt, bk, ct⟩ ρ M := xs_next h
theorem ys_seq (h : Xs K t ⟨fun ρ' M' => Xs K u ⟨nx, rt, bk, ct⟩ ρ' M', rt, bk, ct⟩ ρ M) : Xs K (tSeq t u) ⟨nx, rt, bk, ct⟩ ρ M := xs_seq h
theorem ys_ret (h : Xe K te ρ M rt) : Xs K (tRet te) ⟨nx, rt, bk, ct⟩ ρ M := xs_ret h
theorem ys_retN (h : rt .non M) : Xs K tRetN ⟨nx, rt, bk, ct⟩ ρ M := xs_retN h
theorem ys_drop (h : Xe K te ρ M fun _ M1 => nx ρ M1) : Xs K (tDrop te) ⟨nx, rt, bk, ct⟩ ρ M := xs_drop h
theorem ys_set {i : Nat} (h : Xe K te ρ M fun d M1 => nx (ρ.set i (some d)) M1) : Xs K (tAsg te (gName i)) ⟨nx, rt, bk, ct⟩ ρ M := xs_set h
theorem ys_asg {g : TG} (vs : List Nat) (h : Xe K te ρ M fun d M1 => Xg K vs g d ρ M1 nx) : Xs K (tAsg te g) ⟨nx, rt, bk, ct⟩ ρ M := xs_asg vs h
theorem ys_if {tc : TT} (h : Xt K tc ρ M fun c M1 => (c = true → Xs K t ⟨nx, rt, bk, ct⟩ ρ M1) ∧ (c = false → Xs K u ⟨nx, rt, bk, ct⟩ ρ M1)) : Xs K (tIfS tc t u) ⟨nx, rt, bk, ct⟩ ρ M := xs_if h
theorem ys_brk (h : bk ρ M) : Xs K tBreak ⟨nx, rt, bk, ct⟩ ρ M := xs_brk h
theorem ys_cont (h : ct ρ M) : Xs K tCont ⟨nx, rt, bk, ct⟩ ρ M := xs_cont h
theorem ys_aug {i : Nat} {f : Int → Int → Int} {a : Int} (hx : ρ[i]? = some (some (.int a))) (h : Xe K te ρ M fun d M1 => ∃ b, d = .int b ∧ nx (ρ.set i (some (.int (f a b)))) M1) : Xs K (tAug i te (ipI f)) ⟨nx, rt, bk, ct⟩ ρ M := xs_aug hx h
theorem ys_par {i j : Nat} {ta : TA} (h : Xa K ta ρ M fun ds M1 => ∃ x y, ds = [x, y] ∧ nx ((ρ.set i (some x)).set j (some y)) M1) : Xs K (tPar i j ta) ⟨nx, rt, bk, ct⟩ ρ M := xs_par h
theorem ys_for {wi : TI} {g : TG} {tb : TS} (vs : List Nat) (h : Xi K wi ρ M fun n it lk M1 => ∃ I : Nat → Rho → Mm → Prop, I 0 ρ M1 ∧ (∀ i ρ' M', i ≤ n → I i ρ' M' → lk M') ∧
    (∀ i d ρ' M', i < n → it i d → I i ρ' M' → Xg K vs g d ρ' M' fun ρ2 M2 => Xs K tb ⟨I (i + 1), rt, nx, I (i + 1)⟩ ρ2 M2) ∧
    (∀ ρ' M', I n ρ' M' → nx ρ' M')) : Xs K (tFor wi g tb) ⟨nx, rt, bk, ct⟩ ρ M := xs_for vs h
theorem ys_while {tc : TT} {tb : TS} (I : Nat → Rho → Mm → Prop) (m : Nat) (h0 : I m ρ M) (h : ∀ m ρ' M', I m ρ' M' → Xt K tc ρ' M' fun c M1 =>
    (c = true → Xs K tb ⟨fun ρ2 M2 => ∃ m', m' < m ∧ I m' ρ2 M2, rt, nx, fun ρ2 M2 => ∃ m', m' < m ∧ I m' ρ2 M2⟩ ρ' M1) ∧ (c = false → nx ρ' M1)) : Xs K (tWhile tc tb) ⟨nx, rt, bk, ct⟩ ρ M := xs_while ⟨I, ⟨m, h0⟩, h⟩
/-- the state is told otherwise at a return -/
theorem ys_wrap (F : Mm → Mm → Prop) (hf : ∀ G M H M', F M M' → Wd K G M H → Wd K G M' H) (h : Xs K t ⟨nx, fun d M' => ∃ M'', F M' M'' ∧ rt d M'', bk, ct⟩ ρ M) : Xs K t ⟨nx, rt, bk, ct⟩ ρ M := by
  intro σ G H D s w k
  refine h σ G H D s w ⟨k.nx, fun v d G' M' H' e r w' q => ?_, k.bk, k.ct⟩
  obtain ⟨M'', hF, q⟩ := q
  exact k.rt v d G' M'' H' e r (hf G' M' H' M'' hF w') q
theorem xt_and2 {ta tb : TT} {R : Bool → Mm → Prop} (h : Xt K ta ρ M fun c M1 => (c = true → Xt K tb ρ M1 R) ∧ (c = false → R false M1)) : Xt K (tAnd ta tb) ρ M R := xt_and h
theorem ys_mono {nx' : RS} (h : Xs K t ⟨nx', rt, bk, ct⟩ ρ M) (hm : ∀ ρ' M', nx' ρ' M' → nx ρ' M') : Xs K t ⟨nx, rt, bk, ct⟩ ρ M := by
  intro σ G H D s w k
  exact h σ G H D s w ⟨fun σ' G' H' ρ' M' e s' w' q => k.nx σ' G' H' ρ' M' e s' w' (hm ρ' M' q), k.rt, k.bk, k.ct⟩
theorem ys_mid (Mid : RS) (h : Xs K t ⟨Mid, rt, bk, ct⟩ ρ M) (hu : ∀ ρ' M', Mid ρ' M' → Xs K u ⟨nx, rt, bk, ct⟩ ρ' M') : Xs K (tSeq t u) ⟨nx, rt, bk, ct⟩ ρ M :=
  ys_seq (ys_mono h hu)
theorem ys_to (nx' : RS) (h : Xs K t ⟨nx', rt, bk, ct⟩ ρ M) (hm : ∀ ρ' M', nx' ρ' M' → nx ρ' M') : Xs K t ⟨nx, rt, bk, ct⟩ ρ M := ys_mono h hm
/-- all slots -/
abbrev allV : List Nat := [0, 1, 2, 3, 4, 5, 6, 7, 8, 9, 10, 11, 12, 13, 14, 15, 16, 17, 18, 19, 20, 21, 22, 23, 24, 25, 26, 27, 28, 29, 30, 31]
theorem atI_ints {ns : List Int} {i : Int} (h0 : 0 ≤ i) (h1 : i < ns.length) : ∃ z, L2.atI (ns.map D.int) i = some (D.int z) := by
  obtain ⟨n, rfl⟩ := Int.eq_ofNat_of_zero_le h0
  have hn : n < ns.length := by omega
  refine ⟨ns[n], ?_⟩
  exact atI_nat (by simp [hn])
theorem brF {A B : Prop} (h : B) : (false = true → A) ∧ (false = false → B) := ⟨fun z => absurd z Bool.false_ne_true, fun _ => h⟩
theorem brT {A B : Prop} (h : A) : (true = true → A) ∧ (true = false → B) := ⟨fun _ => h, fun z => absurd z.symm Bool.false_ne_true⟩
theorem b1 {c : Bool} {A B : Prop} (hc : c = true) (h : A) : (c = true → A) ∧ (c = false → B) := ⟨fun _ => h, fun z => absurd (hc.symm.trans z) (by decide)⟩
theorem b2 {c : Bool} {A B : Prop} (hc : c = false) (h : B) : (c = true → A) ∧ (c = false → B) := ⟨(fun z => absurd (hc.symm.trans z) (by decide)), fun _ => h⟩
theorem b3 {c : Bool} {A B : Prop} (hc : c = true) (h : B) : (c = false → A) ∧ (c = true → B) := ⟨(fun z => absurd (hc.symm.trans z) (by decide)), fun _ => h⟩
theorem b4 {c : Bool} {A B : Prop} (hc : c = false) (h : A) : (c = false → A) ∧ (c = true → B) := ⟨fun _ => h, fun z => absurd (hc.symm.trans z) (by decide)⟩
theorem cmul64 {i j : Int} (hi : i.natAbs < 18446744073709551616) (hj : j.natAbs < 18446744073709551616) : CMulW i j :=
  wide_mul (a := 64) (b := 64) hi hj (by decide) (by decide) (by decide)
theorem cdivB {i j : Int} (h : 0 < j) (hb : j.natAbs < 2 ^ 2000) : CDivW i j := wide_div h hb (by decide) (by decide)
theorem cpowK {i j : Int} (h1 : 0 ≤ j) (h2 : j ≤ 1000000) (h3 : i.natAbs < 18446744073709551616) : CPow i j := ⟨h1, h2, h3⟩
theorem cdivK {i j : Int} (h1 : 0 < j) (h2 : j.natAbs < 18446744073709551616) : CDivW i j := wide_div (b := 64) h1 h2 (by decide) (by decide)
/-- a test of known answer -/
theorem both {c : Bool} {A B : Prop} (hA : c = true → A) (hB : c = false → B) : (c = true → A) ∧ (c = false → B) := ⟨hA, hB⟩
end
/-! ### the feed: unfolded and folded -/
abbrev feedL (ns : List Int) (i b s : Int) : MO := .lst [.lst (ns.map D.int), .int i, .int b, .int s]
def FeedC (ns : List Int) (i b s : Int) : Prop := 0 ≤ i ∧ 0 ≤ b ∧ 0 ≤ s ∧ s < 2147483648
section
variable {K : PySem.W.Frag} [Bs K] {ρ : Rho} {M M' : Mm} {E : En} {t : TS} {f : Addr}
theorem Put.has {a : Addr} {m : MO} (h : Put M a m M') : Has M' a m := by
  induction h with
  | head => exact .head
  | tail _ ih => exact .tail ih
theorem rpA_intsD {G : Hp} {vs : List V} {ns : List Int} (h : RpA K G vs (ns.map D.int)) : vs = ns.map V.int := by
  have e := h.fl (by simp [List.all_eq_true, flD])
  rw [e]
  simp [fl]
theorem put_self {a : Addr} {m m' : MO} : ∀ {M M' : Mm}, Put M a m M' → Has M a m' → (M.map (·.1)).Nodup → True := fun _ _ _ => trivial
theorem Has.put {a : Addr} {m : MO} (m' : MO) (h : Has M a m) : ∃ M', Put M a m' M' := by
  induction h with
  | head => exact ⟨_, .head⟩
  | tail _ ih => obtain ⟨M', hp⟩ := ih; exact ⟨_, .tail hp⟩
/-- but for the entry at f the same -/
structure Same1 (f : Addr) (M M' : Mm) : Prop where
  keys : M'.map (·.1) = M.map (·.1)
  all : ∀ q ∈ M, q.1 ≠ f → q ∈ M'
theorem Same1.refl (f : Addr) (M : Mm) : Same1 f M M := ⟨rfl, fun _ h _ => h⟩
theorem Same1.trans {f : Addr} {M M1 M2 : Mm} (a : Same1 f M M1) (b : Same1 f M1 M2) : Same1 f M M2 := ⟨b.keys.trans a.keys, fun q h n => b.all q (a.all q h n) n⟩
theorem Put.same1 {a : Addr} {m : MO} (h : Put M a m M') : Same1 a M M' := by
  refine ⟨h.keys, ?_⟩
  induction h with
  | head =>
    intro q hq n
    rcases List.mem_cons.mp hq with e | e
    · subst e; exact absurd rfl n
    · exact List.mem_cons_of_mem _ e
  | tail _ ih =>
    intro q hq n
    rcases List.mem_cons.mp hq with e | e
    · exact e ▸ List.mem_cons_self
    · exact List.mem_cons_of_mem _ (ih q e n)
theorem nd_has {a : Addr} {m : MO} : ∀ {M : Mm}, (M.map (·.1)).Nodup → Has M a m → ∀ q ∈ M, q.1 = a → q = (a, m) := by
  intro M nd h
  induction h with
  | head =>
    intro q hq e
    rw [List.map_cons, List.nodup_cons] at nd
    rcases List.mem_cons.mp hq with z | z
    · exact z
    · exact absurd (e ▸ List.mem_map_of_mem (f := (·.1)) z) nd.1
  | tail h ih =>
    intro q hq e
    rw [List.map_cons, List.nodup_cons] at nd
    rcases List.mem_cons.mp hq with z | z
    · subst z
      exact absurd (e ▸ List.mem_map_of_mem (f := (·.1)) h.mem) nd.1
    · exact ih nd.2 q z e
theorem xs_unfeed (hm : Has M f .feed) (h : ∀ ns i b s M', FeedC ns i b s → Same1 f M M' → Has M' f (feedL ns i b s) → Xs K t E ρ M') : Xs K t E ρ M := by
  intro σ G H D s w k
  obtain ⟨g0, c, i, b, st, ns, h1, h2, h3⟩ := w.get hm
  obtain ⟨M', hp⟩ := hm.put (feedL ns i b st)
  have hw : Wd K G M' H := by
    refine ⟨⟨fun b u e => orKeep (w.ex b u e) fun od _ y => hp.keep (b, .lck od) y fun z => (by have z : b = f := z; rw [z, g0] at e; cases e), fun q hq => ?_, hp.keys ▸ w.nd, w.nt⟩, w.bs⟩
    rcases hp.all w.nd q hq with e | ⟨e, ne⟩
    · subst e
      exact ⟨g0, _, h1, .cons (.lst h2 (rpA_ints ns)) (.cons (.int i) (.cons (.int b) (.cons (.int st) .nil)))⟩
    · exact w.mo q e
  exact h ns i b st M' h3 hp.same1 hp.has σ G H D s hw k
theorem nd_one : ∀ {M : Mm}, (M.map (·.1)).Nodup → ∀ p ∈ M, ∀ q ∈ M, p.1 = q.1 → p = q := by
  intro M
  induction M with
  | nil => intro _ p hp; cases hp
  | cons x M ih =>
    intro nd p hp q hq e
    rw [List.map_cons, List.nodup_cons] at nd
    rcases List.mem_cons.mp hp with h1 | h1 <;> rcases List.mem_cons.mp hq with h2 | h2
    · rw [h1, h2]
    · subst h1
      exact absurd (e ▸ List.mem_map_of_mem (f := (·.1)) h2) nd.1
    · subst h2
      exact absurd (e ▸ List.mem_map_of_mem (f := (·.1)) h1) nd.1
    · exact ih nd.2 p h1 q h2 e
theorem Same1.back {M M' : Mm} (h : Same1 f M M') (nd : (M'.map (·.1)).Nodup) : ∀ q ∈ M', q.1 ≠ f → q ∈ M := by
  intro q hq n
  have h1 : q.1 ∈ M.map (·.1) := by rw [← h.keys]; exact List.mem_map_of_mem (f := (·.1)) hq
  obtain ⟨p, hp, e⟩ := List.mem_map.mp h1
  have h2 := h.all p hp (fun z => n (e ▸ z))
  rw [nd_one nd q hq p h2 e.symm]
  exact hp
/-- folding back to M -/
def FoldF (f : Addr) (M' M : Mm) : Prop := Has M f .feed ∧ Same1 f M M' ∧ ∃ ns i b s, FeedC ns i b s ∧ Has M' f (feedL ns i b s)
theorem foldF_wd {f : Addr} : ∀ G M H M', FoldF f M M' → Wd K G M H → Wd K G M' H := by
  intro G M H M' ⟨h0, sm, ns, i, b, s, hc, hm⟩ w
  obtain ⟨g0, xs, h1, h2⟩ := w.get hm
  have nd : (M'.map (·.1)).Nodup := sm.keys ▸ w.nd
  cases h2 with
  | cons r1 h2 =>
    cases h2 with
    | cons r2 h2 =>
      cases h2 with
      | cons r3 h2 =>
        cases h2 with
        | cons r4 h2 =>
          cases h2
          cases r2
          cases r3
          cases r4
          cases r1 with
          | lst hc1 ra =>
            have e := rpA_intsD ra
            subst e
            refine ⟨⟨fun b u e => orKeep (w.ex b u e) fun od _ y => sm.back w.nd (b, .lck od) y fun z => (by have z : b = f := z; rw [z, g0] at e; cases e), fun q hq => ?_, nd, w.nt⟩, w.bs⟩
            by_cases z : q.1 = f
            · have e := nd_has nd h0 q hq z
              subst e
              exact ⟨g0, _, i, b, s, ns, h1, hc1, hc⟩
            · exact w.mo q (sm.all q hq z)
theorem xg_setX {vs : List Nat} {to ti : TE} {d : D} {RG : Rho → Mm → Prop} (h : Xe K to ρ M fun o M1 => Xe K ti ρ M1 fun x M2 => ∃ a k ds j, o = .ref a ∧ x = .int k ∧ Has M2 a (.lst ds) ∧ ixN ds.length k = some j ∧ ∀ M3, Put M2 a (.lst (ds.set j d)) M3 → RG ρ M3) : Xg K vs (gSub to ti rSetL) d ρ M RG := by
  refine xg_setL (xe_mono h fun o M1 h1 => xe_mono h1 fun x M2 h2 => ?_)
  obtain ⟨a, k, ds, j, e1, e2, hm, hj, q⟩ := h2
  obtain ⟨M3, hp⟩ := hm.put (.lst (ds.set j d))
  exact ⟨a, k, ds, j, M3, e1, e2, hm, hj, hp, q M3 hp⟩
/-- a list of the feed's form, new, is a feed -/
theorem xe_tofeed {te : TE} {R : RD} (h : Xe K te ρ M fun d M' => ∃ f M'', d = .ref f ∧ FoldF f M' M'' ∧ R (.ref f) M'') : Xe K te ρ M R := by
  intro σ G H Q s w k
  refine h σ G H Q s w fun v d G' M' H' e r w' q => ?_
  obtain ⟨f, M'', rfl, hF, q⟩ := q
  exact k v (.ref f) G' M'' H' e r (foldF_wd G' M' H' M'' hF w') q
end

theorem big2000 {n : Int} (h : n.natAbs < 18446744073709551616) : n.natAbs < 2 ^ 2000 := Nat.lt_of_lt_of_le h (by decide +kernel)
section
variable {K : PySem.W.Frag} [Bs K] {ρ : Rho} {M M' : Mm} {R : RD}
theorem xr_neB {a b : Bool} (r : R (.bl (!decide (a = b))) M) : Xr K rNe (.bl a) (.bl b) M R := xr_ne rfl rfl rfl (by
  have e : decide (fl (.bl a) = fl (.bl b)) = decide (a = b) := by simp [fl]
  rw [e]; exact r)
theorem cut63 {ns : List Int} (h : ns.length ≤ 63) : cutD (ns.map D.int) none (some 63) = ns.map D.int := by
  unfold cutD
  rw [HT.sIx_none, show (some 63 : Option Int) = some ((63 : Nat) : Int) from rfl, HT.sIx_nat, List.drop_zero]
  rw [List.take_of_length_le]
  simp
  omega
/-- what is no table -/
def noTab (H : Hp) : Hp := fun a => match H a with
  | some (.tbl _) => none
  | x => x
theorem noTab_at {H : Hp} {a : Addr} {o : HO} (h : H a = some o) (n : ∀ ps, o ≠ .tbl ps) : noTab H a = some o := by
  unfold noTab
  rw [h]
  split
  · rename_i ps e
    cases e
    exact absurd rfl (n _)
  · rfl
theorem noTab_of {H : Hp} {a : Addr} {o : HO} (h : noTab H a = some o) : H a = some o ∧ ∀ ps, o ≠ .tbl ps := by
  unfold noTab at h
  split at h
  · cases h
  · rename_i n
    refine ⟨h, fun ps z => n ps ?_⟩
    rw [h, z]
theorem sqL_noTab {K : PySem.W.Frag} {H : Hp} {a : Addr} {xs : List V} (h : SqL K H a xs) : SqL K (noTab H) a xs := by
  rcases h with (h | ⟨o, h⟩) | h
  · exact .inl (.inl (noTab_at h (by intro ps z; cases z)))
  · exact .inl (.inr ⟨o, noTab_at h (by intro ps z; cases z)⟩)
  · exact .inr h
/-- the law's call, with the tables T of code objects -/
theorem law_startT {K : PySem.W.Frag} {H : Hp} {a : Addr} {ns : List Int} {S : DS} {E : XK} {T : List (Addr × Str)} (hT : ∀ p ∈ T, H p.1 = some (.tbl #[])) (nd : (T.map (·.1)).Nodup) (hS : SqL K H a (ns.map V.int)) (h : S [.scr ns] (T.map fun p => (p.1, MO.tab p.2)) fun d _ => d = .bl true) :
    spOf K S [.ref a] H (fun v _ => v = .bl true) E := by
  refine ⟨noTab H, _, [.scr ns], _, .cons (.scr (sqL_noTab hS)) .nil, ⟨fun a o e => .inl (noTab_of e).1, fun p hp => ?_, by rw [List.map_map]; exact nd, fun a ps z => (noTab_of z).2 ps rfl⟩, h, ?_⟩
  · obtain ⟨p0, h0, rfl⟩ := List.mem_map.mp hp
    refine ⟨#[], hT p0 h0, True.intro, fun pos cv z => ?_⟩
    have z : codeAmong pos [] = some cv := z
    simp [codeAmong] at z
  · intro v d G' M' H' _ r _ e
    subst e
    cases r
    rfl
/-- the law's call -/
theorem law_start {K : PySem.W.Frag} [Bs K] {H : Hp} {a : Addr} {ns : List Int} {S : DS} {E : XK} {n : Nat} (_ : ns.length ≤ n) (_ : Only H) (hS : SqL K H a (ns.map V.int)) (h : S [.scr ns] [] fun d _ => d = .bl true) :
    spOf K S [.ref a] H (fun v _ => v = .bl true) E := law_startT (T := []) (by simp) (by simp) hS h
theorem kb1 : kitB "NoneType" "bool" = some false := by decide +kernel
theorem kb2 : kitB "bool" "bool" = some true := by decide +kernel
theorem kb3 : kitB "int" "bool" = some false := by decide +kernel
theorem kb4 : kitB "str" "bool" = some false := by decide +kernel
theorem kb5 : kitB "list" "bool" = some false := by decide +kernel
theorem kb6 : kitB "tuple" "bool" = some false := by decide +kernel
theorem kb7 : kitB "int" "int" = some true := by decide +kernel
theorem kb8 : kitB "str" "int" = some false := by decide +kernel
theorem kb9 : kitB "int" "tuple" = some false := by decide +kernel
theorem kb10 : kitB "list" "tuple" = some false := by decide +kernel
theorem kb11 : kitB "tuple" "tuple" = some true := by decide +kernel
theorem kb12 : kitB "list" "list" = some true := by decide +kernel
theorem kb13 : kitB "tuple" "list" = some false := by decide +kernel
theorem kb14 : kitB "bool" "int" = some true := by decide +kernel
theorem kb15 : kitB "NoneType" "tuple" = some false := by decide +kernel
theorem kb16 : kitB "bool" "tuple" = some false := by decide +kernel
theorem kb17 : kitB "str" "tuple" = some false := by decide +kernel
theorem kl1 : kitL "int" ["int", "str"] = some true := by decide +kernel
theorem kl2 : kitL "str" ["int", "str"] = some true := by decide +kernel
theorem kl3 : kitL "list" ["int", "str"] = some false := by decide +kernel
theorem kl4 : kitL "tuple" ["int", "str"] = some false := by decide +kernel
end
/-- plain data of depth at most n -/
def pl : Nat → D → Bool
  | 0, _ => false
  | n + 1, d => match d with
    | .non => true
    | .bl _ => true
    | .int _ => true
    | .str _ => true
    | .lst xs => decide (xs.length ≤ 1000000) && xs.all (pl n)
    | .tup xs => decide (xs.length ≤ 1000000) && xs.all (pl n)
    | _ => false
end XD

/-! XD7: the hand layer's rules with the written part K as a letter of its own (a comprehension's block has another context, the same K). -/
namespace XD
open PySem L2
section
variable {X : Cx} (K : PySem.W.Frag)
theorem k_addU (h : X.K = K := by rfl) : OpR X (binaryOp .Add) (rAddU K) := h ▸ op_addU
theorem k_ix (h : X.K = K := by rfl) : IxR X (rIx K) := h ▸ ix_seq
theorem k_sl (h : X.K = K := by rfl) : SlR X (rSlU K) := h ▸ sl_U
theorem k_len (h : X.K = K := by rfl) : CallR X (.builtin "len") (cLen K) := h ▸ c_len
theorem k_list (h : X.K = K := by rfl) : CallR X (.type "list") (cList K) := h ▸ c_list
theorem k_all (hc : X.calm = true := by rfl) (h : X.K = K := by rfl) : CallR X (.builtin "all") (rAll K) := h ▸ cr_all hc
theorem k_any (hc : X.calm = true := by rfl) (h : X.K = K := by rfl) : CallR X (.builtin "any") (rAny K) := h ▸ cr_any hc
theorem k_isi (h : X.K = K := by rfl) : CallR X (.builtin "isinstance") (rIsi K) := h ▸ call_isi
theorem k_isiT (h : X.K = K := by rfl) : CallR X (.builtin "isinstance") (rIsiT K) := h ▸ call_isiT
theorem k_in (h : X.K = K := by rfl) : OpR X (compareOp .In) (rIn K false) := h ▸ op_in_seq
theorem k_notIn (h : X.K = K := by rfl) : OpR X (compareOp .NotIn) (rIn K true) := h ▸ op_notIn_seq
theorem pi_listK {tg l : Expr} {tl : TE} (hl : PE X l tl) (h : X.K = K := by rfl) : PI X tg l (iList K tl) := h ▸ pi_list hl
theorem pi_tupK {tg l : Expr} {tl : TE} (hl : PE X l tl) (h : X.K = K := by rfl) : PI X tg l (iTup K tl) := h ▸ pi_tup hl
theorem pi_zipK {e e2 : Expr} {ta : TA} {p pos tpos : Pos} {elts : List Expr} {kk : Nat} (hm : X.mg "zip" = none) (ha : PA X [e, e2] ta) (hg : Gl X "zip" := by rfl)
    (hs : starEach [e, e2] X.env = (false, eval e X.env) :: starEach [e2] X.env := by rfl) (hpl : (backTo pos (starEach [e2] X.env)).any (·.1) = false := by rfl) (h : X.K = K := by rfl) :
    PI X (.Tuple elts kk tpos) (.Call (.Name "zip" p) [e, e2] [] pos) (RZ.iZipA K ta) := h ▸ RZ.pi_zipA hg hm ha hs hpl
theorem pi_enumK {e : Expr} {ta : TA} {p pos tpos : Pos} {elts : List Expr} {kk : Nat} (hm : X.mg "enumerate" = none) (ha : PA X [e] ta) (hg : Gl X "enumerate" := by rfl) (hs : starEach [e] X.env = [(false, eval e X.env)] := by rfl) (h : X.K = K := by rfl) :
    PI X (.Tuple elts kk tpos) (.Call (.Name "enumerate" p) [e] [] pos) (iEnum K ta) := h ▸ pi_enum hg hm ha hs
theorem pg_tupK {es : List Expr} {k : Nat} {t : TGs} {n : Nat} {pos : Pos} (ht : PGs X es t) (hc : X.calm = true := by rfl)
    (hn : (assignEach es X.env).length = n := by rfl) (hst : (assignEach es X.env).findIdx? (·.1) = none := by rfl) (h : X.K = K := by rfl) : PG X (.Tuple es k pos) (gTup K n t) := h ▸ pg_tup hc ht hn hst
theorem pe_bmK {T : String} {name : Str} {id : String} {r : V → List V → Hp → VK → Prop} {o e : Expr} {es : List Expr} {to : TE} {t : TA} {apos cpos : Pos} (pa : PlainAttrs T) (slot : Slot T name id) (hty : typeOf (.builtin id) = pure (.type "method_descriptor")) (hm : MtR X id r) (ho : PE X o to) (ha : PA X (e :: es) t)
    (hbase : attributeBase o name X.env (eval o X.env) = eval o X.env := by rfl)
    (hfew : ((backTo cpos (starEach (e :: es) X.env)).all (fun x => !x.1) && (backToKw cpos (keywordEach [] X.env)).all (fun x => x.1.isSome)
      && decide ((e :: es).length + ([] : List Keyword).length + (if ([] : List Keyword).isEmpty then 0 else 1) < 30)) = true := by rfl)
    (hline : (apos.endLine == cpos.line) = true := by rfl) (hs : starEach (e :: es) X.env = (false, eval e X.env) :: starEach es X.env := by rfl) (hplain : (backTo cpos (starEach es X.env)).any (·.1) = false := by rfl) (h : X.K = K := by rfl) :
    PE X (.Call (.Attribute o name apos) (e :: es) [] cpos) (tBM K T r to t) := h ▸ pe_bm pa slot hty hm ho ha hbase hfew hline hs hplain
theorem pe_bm0K {T : String} {name : Str} {id : String} {r : V → List V → Hp → VK → Prop} {o : Expr} {to : TE} {apos cpos : Pos} (pa : PlainAttrs T) (slot : Slot T name id) (hty : typeOf (.builtin id) = pure (.type "method_descriptor")) (hm : MtR X id r) (ho : PE X o to)
    (hbase : attributeBase o name X.env (eval o X.env) = eval o X.env := by rfl) (hline : (apos.endLine == cpos.line) = true := by rfl) (h : X.K = K := by rfl) : PE X (.Call (.Attribute o name apos) [] [] cpos) (tBM0 K T r to) := h ▸ pe_bm0 pa slot hty hm ho hbase hline
end
/-- a call of a def of the module -/
theorem pe_gK {X : Cx} {K : PySem.W.Frag} [Bs K] {k : Nat} {x : Str} {ps : List Str} {S : DS} {e : Expr} {es : List Expr} {t : TA} {p pos : Pos} (G : GFn X.prog X.w K X.mg X.base k x ps S) (hr : Room k X.A) (ha : PA X (e :: es) t) (h : X.K = K := by rfl)
    (hg : Gl X x := by rfl) (hdb : (x == ("__debug__" : Str)) = false := by decide) (he : starEach (e :: es) X.env = (false, eval e X.env) :: starEach es X.env := by rfl) (hpl : (backTo pos (starEach es X.env)).any (·.1) = false := by rfl) :
    PE X (.Call (.Name x p) (e :: es) [] pos) (tCall (spOf K S) [] E0 t) := by
  subst h
  exact pe_g G hr ha hg hdb he hpl
end XD

/-! XD8: texts, f-strings, more of lists and tuples. -/
namespace XD
open PySem L2
def rSplit : V → List V → Hp → VK → Prop := fun x xs H Q => ∃ a b, x = .str a ∧ xs = [.str b] ∧ (b.length == 0) = false ∧ a.length + 2 ≤ sizeLine ∧ rNewStrs (Txt.split a b) H Q
theorem m_split {X : Cx} : MtR X "str.split" rSplit := mt_split
def rPart : V → List V → Hp → VK → Prop := fun x xs H Q => ∃ a b, x = .str a ∧ xs = [.str b] ∧ (b.length == 0) = false ∧ a.length ≤ sizeLine ∧
  ∀ p, H p = none → Q (.ref p) (upd H p (.tup [.str (Txt.partition a b).1, .str (Txt.partition a b).2.1, .str (Txt.partition a b).2.2]))
theorem m_part {X : Cx} : MtR X "str.partition" rPart := mt_partition
def rJoin (K : PySem.W.Frag) : V → List V → Hp → VK → Prop := fun x xs H Q => ∃ a p, ∃ ys : List Str, x = .str a ∧ xs = [.ref p] ∧ (SqL K H p (ys.map V.str) ∨ SqT K H p (ys.map V.str)) ∧
  (ys.map (·.length)).sum + ys.length * a.length ≤ 16777216 ∧ Q (.str (Txt.join a ys)) H
theorem m_join {X : Cx} : MtR X "str.join" (rJoin X.K) := mt_join
def rInsert : V → List V → Hp → VK → Prop := fun x vs H Q => ∃ (l : Addr) (xs : List V) (i : Int) (y : V), x = .ref l ∧ vs = [.int i, y] ∧ H l = some (.lst xs) ∧ xs.length < sizeLine ∧ 0 ≤ i ∧ i < 2 ^ 63 ∧
  Q .non (upd H l (.lst (xs.take i.toNat ++ [y] ++ xs.drop i.toNat)))
theorem m_insert {X : Cx} : MtR X "list.insert" rInsert := mt_insert
/-- extend by a tuple -/
def rExtendT (K : PySem.W.Frag) : V → List V → Hp → VK → Prop := fun x vs H Q => ∃ l b xs zs, x = .ref l ∧ vs = [.ref b] ∧ H l = some (.lst xs) ∧ H b = some (.tup zs) ∧ xs.length + zs.length ≤ sizeLine ∧ Q .non (upd H l (.lst (xs ++ zs)))
theorem ext_tupA (l : Addr) (items : Array Value) (n : Nat) (b : Addr) (items2 : Array Value) (n2 : Nat) (dd2 : Option Addr) (sl2 : Array (Option Value))
    (hs0 : ¬(!items.isEmpty && Builtin.List.listTooLong (items.size + items2.size)) = true) (hs1 : items.size ≤ sizeLine) (hs2 : items.size + items2.size ≤ sizeLine + 1) :
    Meets (Builtin.«list.extend» ⟨[.ref l, .ref b], []⟩) (fun _ R s => s.heap.get? l = some { cls := .type "list", dict := none, data := .seq items n, slots := #[] } ∧
      s.heap.get? b = some { cls := .type "tuple", dict := dd2, data := .seq items2 n2, slots := sl2 } ∧ R (.ok (.ret Value.none)) { s with heap := s.heap.update l (Obj.mapSeq fun x => x ++ items2), toks := s.toks }) :=
  .of_wp fun prog w A R s h => by
    obtain ⟨hp, g, d, tk, os⟩ := s
    obtain ⟨hl, hb, h⟩ := h
    have f1 := AutoSeq1.idx_int
    have f2 := AutoSeq1.sub_tuple_tuple
    have f3 := AutoSeq1.sub_list_list
    have f4 := AutoSeq1.sub_tuple_list
    have f5 := AutoSeq1.sub_list_tuple
    have hz' : (items ++ items2).size ≤ sizeLine + 1 := by rw [Array.size_append]; exact hs2
    wp_walk using (wpAny_updateSeq hl rfl (hz := hs1) (_hz' := hz')), wpAny_loadPart' hl, wpAny_loadPart' hb
    exact ⟨_, rfl, h⟩
theorem m_extendT {X : Cx} : MtR X "list.extend" (rExtendT X.K) := by
  intro pins s σ H x vs v us Q I rx rv h
  obtain ⟨l, b, xs, zs, rfl, rfl, hH, hB, hz, q⟩ := h
  cases rx
  obtain ⟨u, rfl, ru⟩ := rv.one
  cases ru
  obtain ⟨z, its, n, r, hl, e⟩ := I.lstM hH
  obtain ⟨z2, its2, r2, ⟨⟨cls2, dd2, data2, sl2⟩, e2, hc, n2, hd⟩⟩ := I.hok b _ hB
  simp only at hc hd
  subst hc hd
  have hl2 := r2.length
  have hsz : its.toArray.size + its2.toArray.size ≤ sizeLine := by rw [List.size_toArray, List.size_toArray]; omega
  have hlong : ¬ (!its.toArray.isEmpty && Builtin.List.listTooLong (its.toArray.size + its2.toArray.size)) = true := by
    rw [notLongL hsz, Bool.and_false]
    exact Bool.false_ne_true
  refine call_meets F.slot_list_extend ⟨_, e, rfl⟩ F.entry_list_extend (F.args_list_extend_2 _ _) (ext_tupA l its.toArray n b its2.toArray n2 dd2 sl2 hlong (by rw [List.size_toArray]; omega) (by omega)) ⟨e, e2, ?_⟩
  refine ⟨.non, _, I.lset (its' := its ++ its2) hH e (by simp) (r.append r2) ?_, rfl, q⟩
  rw [List.length_append]
  exact hz
/-- == and != of lists of which one is empty -/
def rNil (neg : Bool) : R2 := fun x y H Q => ∃ a b xs, x = .ref a ∧ y = .ref b ∧ H a = some (.lst xs) ∧ H b = some (.lst []) ∧ Q (.bl (if neg then !xs.isEmpty else xs.isEmpty)) H
theorem o_eqNil {X : Cx} (hu : X.A.units + 64 < cLine) : OpR X (compareOp .Eq) (rNil false) := by
  intro pins s σ H x y v u Q I rx ry h
  obtain ⟨a, b, xs, rfl, rfl, ha, hb, q⟩ := h
  have na := fun z => op_eqD hu pins s σ H (.ref a) (.ref b) v u Q I rx ry z
  cases rx
  cases ry
  cases xs with
  | nil => exact na ⟨.list [], .list [], .lst (.inl (.inl ha)) .nil, .lst (.inl (.inl hb)) .nil, rfl, rfl, q⟩
  | cons z zs =>
    obtain ⟨_, its, n, r, hl, e⟩ := I.lstM ha
    obtain ⟨_, its2, n2, r2, hl2, e2⟩ := I.lstM hb
    refine P.eq_list_lengths (items := its.toArray) (items2 := its2.toArray) (n := n) (n2 := n2) e e2 ?_ (by omega) ⟨.bl false, H, I, rfl, q⟩
    simp only [List.size_toArray, ← hl, ← hl2, List.length_cons, List.length_nil, bne_iff_ne]
    omega
theorem o_neNil {X : Cx} (hu : X.A.units + 64 < cLine) : OpR X (compareOp .NotEq) (rNil true) := by
  intro pins s σ H x y v u Q I rx ry h
  obtain ⟨a, b, xs, rfl, rfl, ha, hb, q⟩ := h
  have na := fun z => op_neD hu pins s σ H (.ref a) (.ref b) v u Q I rx ry z
  cases rx
  cases ry
  cases xs with
  | nil => exact na ⟨.list [], .list [], .lst (.inl (.inl ha)) .nil, .lst (.inl (.inl hb)) .nil, rfl, rfl, q⟩
  | cons z zs =>
    obtain ⟨_, its, n, r, hl, e⟩ := I.lstM ha
    obtain ⟨_, its2, n2, r2, hl2, e2⟩ := I.lstM hb
    refine SeqAt.RcNeAt.lists_lengths (items := its.toArray) (items2 := its2.toArray) ⟨_, e, rfl, n, rfl⟩ ⟨_, e2, rfl, n2, rfl⟩ ?_ (by omega) _ _ _ _ ⟨.bl true, H, I, rfl, q⟩
    simp only [List.size_toArray, ← hl, ← hl2, List.length_cons, List.length_nil, bne_iff_ne]
    omega
/-! ### data as the model's plain data -/
def pyN : Nat → D → PyData
  | 0, _ => .none
  | n + 1, d => match d with
    | .bl b => .bool b
    | .int i => .int i
    | .str s => .str s
    | .lst xs => .list (xs.map (pyN n))
    | .tup xs => .tuple (xs.map (pyN n))
    | _ => .none
/-- plain, and the texts' signs are signs -/
def plS : Nat → D → Bool
  | 0, _ => false
  | n + 1, d => match d with
    | .non => true
    | .bl _ => true
    | .int _ => true
    | .str s => PyData.strOk s
    | .lst xs => xs.all (plS n)
    | .tup xs => xs.all (plS n)
    | _ => false
section
variable {K : PySem.W.Frag} [Bs K] {ρ : Rho} {M M' : Mm} {R : RD} {i j : Int}
theorem dp_all {n : Nat} {G H : Hp} (ih : ∀ {v : V} {d : D}, Rp K G v d → plS n d = true → Dp K H v (pyN n d)) : ∀ {vs : List V} {ds : List D}, RpA K G vs ds → ds.all (plS n) = true → DpAll K H vs (ds.map (pyN n)) := by
  intro vs
  induction vs with
  | nil => intro ds h _; cases h; exact .nil
  | cons v vs ih2 =>
    intro ds h f
    cases h with
    | cons h r =>
      rw [List.all_cons, Bool.and_eq_true] at f
      exact .cons (ih h f.1) (ih2 r f.2)
theorem dp_of {G H : Hp} (w : Wd K G M H) : ∀ (n : Nat) {v : V} {d : D}, Rp K G v d → plS n d = true → Dp K H v (pyN n d) := by
  intro n
  induction n with
  | zero => intro v d _ h; cases h
  | succ n ih =>
    intro v d r h
    cases r with
    | non => exact .non
    | bl b => exact .bl b
    | int b => exact .int b
    | str b => exact .str b
    | lst h1 h2 => exact .lst (.inl (.inl (w.lst h1))) (dp_all ih h2 h)
    | tup h1 h2 => exact .tup (.inl (.inl (w.tup h1))) (dp_all ih h2 h)
    | _ => cases h
theorem can_all {n : Nat} (ih : ∀ {d : D}, plS n d = true → (pyN n d).canLay0 = true ∧ (pyN n d).depth ≤ n) : ∀ {ds : List D}, ds.all (plS n) = true → PyData.canLayAll0 (ds.map (pyN n)) = true ∧ PyData.depthAll (ds.map (pyN n)) ≤ n := by
  intro ds
  induction ds with
  | nil => intro _; exact ⟨rfl, Nat.zero_le _⟩
  | cons d ds ih2 =>
    intro f
    rw [List.all_cons, Bool.and_eq_true] at f
    obtain ⟨h1, h2⟩ := ih f.1
    obtain ⟨h3, h4⟩ := ih2 f.2
    refine ⟨?_, ?_⟩
    · show ((pyN n d).canLay0 && PyData.canLayAll0 (ds.map (pyN n))) = true
      rw [h1, h3]
      rfl
    · show max (pyN n d).depth (PyData.depthAll (ds.map (pyN n))) ≤ n
      omega
theorem can_of : ∀ (n : Nat) {d : D}, plS n d = true → (pyN n d).canLay0 = true ∧ (pyN n d).depth ≤ n := by
  intro n
  induction n with
  | zero => intro d h; cases h
  | succ n ih =>
    intro d h
    cases d with
    | non => exact ⟨rfl, Nat.zero_le _⟩
    | bl b => exact ⟨rfl, Nat.zero_le _⟩
    | int b => exact ⟨rfl, Nat.zero_le _⟩
    | str b => exact ⟨h, Nat.zero_le _⟩
    | lst xs =>
      obtain ⟨h1, h2⟩ := can_all ih h
      exact ⟨h1, Nat.succ_le_succ h2⟩
    | tup xs =>
      obtain ⟨h1, h2⟩ := can_all ih h
      exact ⟨h1, Nat.succ_le_succ h2⟩
    | _ => cases h
theorem shaped_of {n : Nat} {d : D} (hn : n ≤ 60) (h : plS n d = true) : SeqAt.shaped (pyN n d) = true := by
  obtain ⟨h1, h2⟩ := can_of n h
  unfold SeqAt.shaped
  rw [h1, Bool.true_and]
  exact decide_eq_true (by omega)
/-- x reads as the frozen d -/
inductive Rds (M : Mm) : D → D → Prop
  | same (d : D) : Rds M d d
  | mtb {a : Addr} {ds : List D} (h : Has M a (.lst ds)) : Rds M (.ref a) (.lst ds)
theorem Rds.dp {G H : Hp} {x d : D} (t : Rds M x d) (w : Wd K G M H) {n : Nat} {v : V} (r : Rp K G v x) (h : plS n d = true) : Dp K H v (pyN n d) := by
  cases t with
  | same => exact dp_of w n r h
  | mtb hm =>
    cases r
    obtain ⟨_, xs, h1, h2⟩ := w.get hm
    cases n with
    | zero => cases h
    | succ n => exact .lst (.inl (.inl h1)) (dp_all (dp_of w n) h2 h)
theorem xr_eqP {x y d e : D} (n : Nat) (tx : Rds M x d) (ty : Rds M y e) (hn : n ≤ 60) (hx : plS n d = true) (hy : plS n e = true) (r : R (.bl (PyData.eqv (pyN n d) (pyN n e))) M) : Xr K (rEqD K) x y M R := by
  intro vx vy G H Q rx ry w k
  exact ⟨_, _, tx.dp w rx hx, ty.dp w ry hy, shaped_of hn hx, shaped_of hn hy, k _ _ G M H (Ex.refl G) (.bl _) w r⟩
theorem xr_neP {x y d e : D} (n : Nat) (tx : Rds M x d) (ty : Rds M y e) (hn : n ≤ 60) (hx : plS n d = true) (hy : plS n e = true) (r : R (.bl (!PyData.eqv (pyN n d) (pyN n e))) M) : Xr K (rNeD K) x y M R := by
  intro vx vy G H Q rx ry w k
  exact ⟨_, _, tx.dp w rx hx, ty.dp w ry hy, shaped_of hn hx, shaped_of hn hy, k _ _ G M H (Ex.refl G) (.bl _) w r⟩
theorem xr_nil {neg : Bool} {x : D} {ds : List D} (tx : Rds M x (.lst ds)) (r : R (.bl (if neg then !ds.isEmpty else ds.isEmpty)) M) : Xr K (rNil neg) x (.lst []) M R := by
  intro vx vy G H Q rx ry w k
  cases ry with
  | @lst b ys _ hb rb =>
    cases rb
    cases tx with
    | same =>
      cases rx with
      | @lst a xs _ ha ra =>
        refine ⟨a, b, xs, rfl, rfl, w.lst ha, w.lst hb, ?_⟩
        rw [show xs.isEmpty = ds.isEmpty by cases ra <;> rfl]
        exact k _ _ G M H (Ex.refl G) (.bl _) w r
    | mtb hm =>
      cases rx
      obtain ⟨_, xs, h1, h2⟩ := w.get hm
      refine ⟨_, b, xs, rfl, rfl, h1, w.lst hb, ?_⟩
      rw [show xs.isEmpty = ds.isEmpty by cases h2 <;> rfl]
      exact k _ _ G M H (Ex.refl G) (.bl _) w r
/-! ### texts -/
theorem rpA_strs {G : Hp} : ∀ zs : List Str, RpA K G (zs.map V.str) (zs.map D.str) := by
  intro zs
  induction zs with
  | nil => exact .nil
  | cons n ns ih => exact .cons (.str n) ih
theorem rpA_strsD {G : Hp} {vs : List V} {ns : List Str} (h : RpA K G vs (ns.map D.str)) : vs = ns.map V.str := by
  have e := h.fl (by simp [List.all_eq_true, flD])
  rw [e]
  simp [fl]
theorem xm_split {a b : Str} (hb : (b.length == 0) = false) (hl : a.length ≤ 1000000) (r : R (.lst ((Txt.split a b).map D.str)) M) : Xm K rSplit (.str a) [.str b] M R := by
  intro vx vs G H Q rx rs w k
  cases rx
  cases rs with
  | cons h1 t =>
    cases t
    cases h1
    refine ⟨a, b, rfl, rfl, hb, strLe _ (by omega), fun p hp => ?_⟩
    obtain ⟨G', e, r', w'⟩ := w.newL hp (rpA_strs (Txt.split a b))
    exact k _ _ G' M _ e r' w' r
theorem xm_splitM {a b : Str} (hb : (b.length == 0) = false) (hl : a.length ≤ 1000000) (r : ∀ p, R (.ref p) ((p, .lst ((Txt.split a b).map D.str)) :: M)) : Xm K rSplit (.str a) [.str b] M R := by
  intro vx vs G H Q rx rs w k
  cases rx
  cases rs with
  | cons h1 t =>
    cases t
    cases h1
    refine ⟨a, b, rfl, rfl, hb, strLe _ (by omega), fun p hp => ?_⟩
    exact k _ (.ref p) G _ _ (Ex.refl G) (.ref p) (w.newLM hp (rpA_strs (Txt.split a b))) (r p)
theorem xm_part {a b : Str} (hb : (b.length == 0) = false) (hl : a.length ≤ 1000000) (r : R (.tup [.str (Txt.partition a b).1, .str (Txt.partition a b).2.1, .str (Txt.partition a b).2.2]) M) : Xm K rPart (.str a) [.str b] M R := by
  intro vx vs G H Q rx rs w k
  cases rx
  cases rs with
  | cons h1 t =>
    cases t
    cases h1
    refine ⟨a, b, rfl, rfl, hb, strLe _ (by omega), fun p hp => ?_⟩
    obtain ⟨G', e, r', w'⟩ := w.newT hp (.cons (.str (Txt.partition a b).1) (.cons (.str (Txt.partition a b).2.1) (.cons (.str (Txt.partition a b).2.2) .nil)))
    exact k _ _ G' M _ e r' w' r
theorem xm_join {a : Str} {ys : List Str} {x : D} (tx : Rds M x (.lst (ys.map D.str)) ∨ x = .tup (ys.map D.str)) (hl : (ys.map (·.length)).sum + ys.length * a.length ≤ 16000000) (r : R (.str (Txt.join a ys)) M) : Xm K (rJoin K) (.str a) [x] M R := by
  intro vx vs G H Q rx rs w k
  cases rx
  cases rs with
  | cons h1 t =>
    cases t
    rcases tx with tx | rfl
    · cases tx with
      | same =>
        cases h1 with
        | @lst p xs _ hp rp =>
          have e := rpA_strsD rp
          subst e
          exact ⟨a, p, ys, rfl, rfl, .inl (.inl (.inl (w.lst hp))), Nat.le_trans hl (by decide), k _ _ G M H (Ex.refl G) (.str _) w r⟩
      | mtb hm =>
        cases h1
        obtain ⟨_, xs, h1, h2⟩ := w.get hm
        have e := rpA_strsD h2
        subst e
        exact ⟨a, _, ys, rfl, rfl, .inl (.inl (.inl h1)), Nat.le_trans hl (by decide), k _ _ G M H (Ex.refl G) (.str _) w r⟩
    · cases h1 with
      | @tup p xs _ hp rp =>
        have e := rpA_strsD rp
        subst e
        exact ⟨a, p, ys, rfl, rfl, .inr (.inl (.inl (w.tup hp))), Nat.le_trans hl (by decide), k _ _ G M H (Ex.refl G) (.str _) w r⟩
/-! ### lists that change -/
theorem xm_pop0 {a : Addr} {d : D} {ds : List D} (hm : Has M a (.lst (d :: ds))) (hp : Put M a (.lst ds) M') (r : R d M') : Xm K rPopAt (.ref a) [.int 0] M R := by
  intro vx vs G H Q rx rs w k
  cases rx
  cases rs with
  | cons h1 t =>
    cases t
    cases h1
    obtain ⟨g0, xs, h2, h3⟩ := w.get hm
    cases h3 with
    | @cons v vs _ _ h3 h4 =>
      refine ⟨a, v :: vs, 0, 0, v, rfl, rfl, h2, by decide, by decide, ?_, rfl, ?_⟩
      · simp [seqIndex?]
      · exact k v d G M' _ (Ex.refl G) h3 (w.put hp g0 ⟨g0, _, upd_same, h4⟩) r
theorem RpA.dropLast {G : Hp} : ∀ {vs : List V} {ds : List D}, RpA K G vs ds → RpA K G vs.dropLast ds.dropLast := by
  intro vs
  induction vs with
  | nil => intro ds h; cases h; exact .nil
  | cons v vs ih =>
    intro ds h
    cases h with
    | cons h1 h2 =>
      cases h2 with
      | nil => exact .nil
      | cons h3 h4 => exact .cons h1 (ih (.cons h3 h4))
theorem xm_popL {a : Addr} {d : D} {ds : List D} (hm : Has M a (.lst (ds ++ [d]))) (hp : Put M a (.lst ds) M') (r : R d M') : Xm K rPop (.ref a) [] M R := by
  intro vx vs G H Q rx rs w k
  cases rx
  cases rs
  obtain ⟨g0, xs, h2, h3⟩ := w.get hm
  have hl := h3.length
  rw [List.length_append, List.length_singleton] at hl
  obtain ⟨v, e1, e2⟩ := h3.get (n := ds.length) (d := d) (by simp)
  refine ⟨a, xs, v, rfl, rfl, h2, ?_, ?_⟩
  · rw [hl]; exact e1
  · have h4 := h3.dropLast
    rw [List.dropLast_concat] at h4
    exact k v d G M' _ (Ex.refl G) e2 (w.put hp g0 ⟨g0, _, upd_same, h4⟩) r
theorem xm_insert {a : Addr} {ds : List D} {y : D} {i : Int} (hm : Has M a (.lst ds)) (hp : Put M a (.lst (ds.take i.toNat ++ [y] ++ ds.drop i.toNat)) M') (hl : ds.length ≤ 1000000) (h0 : 0 ≤ i) (h1 : i ≤ 1000000) (r : R .non M') : Xm K rInsert (.ref a) [.int i, y] M R := by
  intro vx vs G H Q rx rs w k
  cases rx
  cases rs with
  | cons r1 t =>
    cases r1
    cases t with
    | cons r2 t =>
      cases t
      obtain ⟨g0, xs, h2, h3⟩ := w.get hm
      refine ⟨a, xs, i, _, rfl, rfl, h2, ?_, h0, by omega, ?_⟩
      · rw [h3.length]; exact Nat.lt_of_le_of_lt hl (by decide)
      · exact k .non .non G M' _ (Ex.refl G) .non (w.put hp g0 ⟨g0, _, upd_same, ((h3.take _).append (.cons r2 .nil)).append (h3.drop _)⟩) r
def rExtU (K : PySem.W.Frag) : V → List V → Hp → VK → Prop := fun x xs H Q => rExtend x xs H Q ∨ rExtendT K x xs H Q
theorem m_extU {X : Cx} : MtR X "list.extend" (rExtU X.K) := by
  intro pins s σ H x xs v us Q I rx rv h
  rcases h with h | h
  · exact mt_extend pins s σ H x xs v us Q I rx rv h
  · exact m_extendT pins s σ H x xs v us Q I rx rv h
theorem xm_extend {a : Addr} {ds es : List D} {y : D} (hm : Has M a (.lst ds)) (ty : y = .lst es ∨ y = .tup es ∨ ∃ b, y = .ref b ∧ Has M b (.lst es)) (hp : Put M a (.lst (ds ++ es)) M') (hl : ds.length + es.length ≤ 16000000) (r : R .non M') : Xm K (rExtU K) (.ref a) [y] M R := by
  intro vx vs G H Q rx rs w k
  cases rx
  cases rs with
  | cons r1 t =>
    cases t
    obtain ⟨g0, xs, h2, h3⟩ := w.get hm
    rcases ty with rfl | rfl | ⟨b, rfl, hb⟩
    · cases r1 with
      | @lst b ys _ hb rb =>
        refine .inl ⟨a, b, xs, ys, rfl, rfl, h2, w.lst hb, ?_, ?_⟩
        · rw [h3.length, rb.length]; exact strLe _ hl
        · exact k .non .non G M' _ (Ex.refl G) .non (w.put hp g0 ⟨g0, _, upd_same, h3.append rb⟩) r
    · cases r1 with
      | @tup b ys _ hb rb =>
        refine .inr ⟨a, b, xs, ys, rfl, rfl, h2, w.tup hb, ?_, ?_⟩
        · rw [h3.length, rb.length]; exact strLe _ hl
        · exact k .non .non G M' _ (Ex.refl G) .non (w.put hp g0 ⟨g0, _, upd_same, h3.append rb⟩) r
    · cases r1
      obtain ⟨_, ys, h4, h5⟩ := w.get hb
      refine .inl ⟨a, b, xs, ys, rfl, rfl, h2, h4, ?_, ?_⟩
      · rw [h3.length, h5.length]; exact strLe _ hl
      · exact k .non .non G M' _ (Ex.refl G) .non (w.put hp g0 ⟨g0, _, upd_same, h3.append h5⟩) r
/-! ### tuple(..), int(text) -/
def cTup (K : PySem.W.Frag) : List V → Hp → VK → Prop := fun xs H Q => ∃ p ys, xs = [.ref p] ∧ ((SqL K H p ys ∧ ∀ l, H l = none → Q (.ref l) (upd H l (.tup ys))) ∨ (SqT K H p ys ∧ Q (.ref p) H))
theorem c_tup {X : Cx} : CallR X (.type "tuple") (cTup X.K) := call_tuple_of
theorem xc_tup {ds : List D} {x : D} (hx : x = .lst ds ∨ x = .tup ds ∨ ∃ a, x = .ref a ∧ Has M a (.lst ds)) (r : R (.tup ds) M) : Xc K (cTup K) [x] M R := by
  intro vs G H Q rs w k
  cases rs with
  | cons h1 t =>
    cases t
    have fin : ∀ (xs : List V), RpA K G xs ds → ∀ l, H l = none → Q (.ref l) (upd H l (.tup xs)) := fun xs h l hl => by
      have e := Ex.new (o := .tup xs) (w.gfree hl)
      exact k _ _ _ M _ e (.tup upd_same (h.up e)) (w.new hl) r
    rcases hx with rfl | rfl | ⟨a, rfl, hm⟩
    · cases h1 with
      | lst h1 h2 => exact ⟨_, _, rfl, .inl ⟨.inl (.inl (w.lst h1)), fin _ h2⟩⟩
    · cases h1 with
      | tup h1 h2 => exact ⟨_, _, rfl, .inr ⟨.inl (.inl (w.tup h1)), k _ _ G M H (Ex.refl G) (.tup h1 h2) w r⟩⟩
    · cases h1
      obtain ⟨_, xs, h1, h2⟩ := w.get hm
      exact ⟨_, _, rfl, .inl ⟨.inl (.inl h1), fin _ h2⟩⟩
def cIntS : List V → Hp → VK → Prop := fun xs H Q => ∃ a n, xs = [.str a] ∧ PySem.intText? a = some n ∧ a.length ≤ 640 ∧ Q (.int n) H
def cIntU : List V → Hp → VK → Prop := fun xs H Q => cInt xs H Q ∨ cIntS xs H Q
theorem c_intU {X : Cx} : CallR X (.type "int") cIntU := by
  intro pins s σ H xs us Q I r h
  rcases h with h | h
  · exact c_int pins s σ H xs us Q I r h
  · exact call_int_str pins s σ H xs us Q I r h
theorem xc_intI (r : R (.int i) M) : Xc K cIntU [.int i] M R := by
  intro vs G H Q rs w k
  exact .inl (xc_int r vs G H Q rs w k)
theorem xc_intT {a : Str} {n : Int} (h : PySem.intText? a = some n) (hl : a.length ≤ 640) (r : R (.int n) M) : Xc K cIntU [.str a] M R := by
  intro vs G H Q rs w k
  cases rs with
  | cons h1 t =>
    cases t
    cases h1
    exact .inr ⟨a, n, rfl, h, hl, k _ _ G M H (Ex.refl G) (.int n) w r⟩
/-! ### f-strings -/
def Xj (K : PySem.W.Frag) [Bs K] (ts : List TE) (acc : Str) (ρ : Rho) (M : Mm) (R : Str → Mm → Prop) : Prop :=
  ∀ (σ : L2.St) (G H : Hp) (Q : Str → Hp → Prop), RpS K G σ ρ → Wd K G M H → (∀ z G' M' H', Ex G G' → Wd K G' M' H' → R z M' → Q z H') → tJs ts acc σ H Q
theorem xj_nil {acc : Str} {RS : Str → Mm → Prop} (r : RS acc M) : Xj K [] acc ρ M RS := by
  intro σ G H Q s w k
  exact k acc G M H (Ex.refl G) w r
theorem xj_cons {t : TE} {ts : List TE} {acc : Str} {RS : Str → Mm → Prop} (h : Xe K t ρ M fun d M1 => ∃ z, d = .str z ∧ (acc ++ z).length ≤ 16000000 ∧ Xj K ts (acc ++ z) ρ M1 RS) : Xj K (t :: ts) acc ρ M RS := by
  intro σ G H Q s w k
  refine h σ G H _ s w fun v d G1 M1 H1 e1 r w1 q => ?_
  obtain ⟨z, rfl, hl, q⟩ := q
  cases r
  exact ⟨z, rfl, strLe _ hl, q σ G1 H1 Q (s.up e1) w1 fun z G' M' H' e => k z G' M' H' (e1.trans e)⟩
theorem xe_js {ts : List TE} (h : Xj K ts Str.empty ρ M fun z M1 => R (.str z) M1) : Xe K (fun σ H Q => tJs ts Str.empty σ H fun out H1 => Q (.str out) H1) ρ M R := by
  intro σ G H Q s w k
  exact h σ G H _ s w fun z G' M' H' e w' q => k _ _ G' M' H' e (.str z) w' q
def Fmt (d : D) (M : Mm) (R : RD) : Prop := (∃ z : Str, d = .str z ∧ z.length ≤ 16000000 ∧ R (.str z) M) ∨ ∃ i : Int, d = .int i ∧ i.natAbs.log2 < 1920 ∧ R (.str (toString i)) M
theorem fmt_s {z : Str} (hz : z.length ≤ 16000000) (r : R (.str z) M) : Fmt (.str z) M R := .inl ⟨z, rfl, hz, r⟩
theorem fmt_i (hz : i.natAbs.log2 < 1920) (r : R (.str (toString i)) M) : Fmt (.int i) M R := .inr ⟨i, rfl, hz, r⟩
theorem xe_fmt {te : TE} (h : Xe K te ρ M fun d M1 => Fmt d M1 R) : Xe K (tFmt te) ρ M R := by
  intro σ G H Q s w k
  refine h σ G H _ s w fun v d G1 M1 H1 e1 r w1 q => ?_
  rcases q with ⟨z, rfl, hz, q⟩ | ⟨i, rfl, hz, q⟩
  · cases r
    exact .inl ⟨z, rfl, strLe _ hz, k _ _ G1 M1 H1 e1 (.str z) w1 q⟩
  · cases r
    exact .inr ⟨i, rfl, hz, k _ _ G1 M1 H1 e1 (.str _) w1 q⟩
theorem log_lt {i : Int} {k : Nat} (h : i.natAbs < 2 ^ k) (hk : k ≤ 1900) : i.natAbs.log2 < 1920 := by
  by_cases h0 : i.natAbs = 0
  · rw [h0]; decide
  · have := (Nat.log2_lt h0).mpr h
    omega
end
section
variable {X : Cx} (K : PySem.W.Frag)
theorem k_extU (h : X.K = K := by rfl) : MtR X "list.extend" (rExtU K) := h ▸ m_extU
theorem k_join (h : X.K = K := by rfl) : MtR X "str.join" (rJoin K) := h ▸ m_join
theorem k_tup (h : X.K = K := by rfl) : CallR X (.type "tuple") (cTup K) := h ▸ c_tup
theorem k_eqD (hu : X.A.units + 64 < cLine) (h : X.K = K := by rfl) : OpR X (compareOp .Eq) (rEqD K) := h ▸ op_eqD hu
theorem k_neD (hu : X.A.units + 64 < cLine) (h : X.K = K := by rfl) : OpR X (compareOp .NotEq) (rNeD K) := h ▸ op_neD hu
end
/-! a list or a tuple is walked -/
def iSeq (K : PySem.W.Frag) (tl : TE) : TI := fun σ H R => iList K tl σ H R ∨ iTup K tl σ H R
theorem pi_seqK {X : Cx} {tg l : Expr} {tl : TE} (K : PySem.W.Frag) (hl : PE X l tl) (h : X.K = K := by rfl) : PI X tg l (iSeq K tl) := by
  subst h
  exact ⟨fun pins s σ H R I q => q.elim ((pi_list hl).run pins s σ H R I) ((pi_tup hl).run pins s σ H R I)⟩
section
variable {K : PySem.W.Frag} [Bs K] {ρ : Rho} {M M' : Mm} {nx bk ct : RS} {rt : RD} {R : RD}
theorem xi_seqL {tl : TE} {RI : Nat → (Nat → D → Prop) → (Mm → Prop) → Mm → Prop} (h : Xi K (iList K tl) ρ M RI) : Xi K (iSeq K tl) ρ M RI := by
  intro σ G H Q s w k
  exact .inl (h σ G H Q s w k)
theorem xi_seqT {tl : TE} {RI : Nat → (Nat → D → Prop) → (Mm → Prop) → Mm → Prop} (h : Xi K (iTup K tl) ρ M RI) : Xi K (iSeq K tl) ρ M RI := by
  intro σ G H Q s w k
  exact .inr (h σ G H Q s w k)
/-- a list that does not change while it is walked -/
theorem xi_listM {tl : TE} {RI : Nat → (Nat → D → Prop) → (Mm → Prop) → Mm → Prop} (h : Xe K tl ρ M fun d M1 => ∃ a ds, d = .ref a ∧ Has M1 a (.lst ds) ∧ RI ds.length (fun i x => ds[i]? = some x) (fun M => Has M a (.lst ds)) M1) : Xi K (iList K tl) ρ M RI := by
  intro σ G H Q s w k
  refine h σ G H _ s w fun v d G1 M1 H1 e1 r w1 q => ?_
  obtain ⟨a, ds, rfl, hm, q⟩ := q
  cases r
  obtain ⟨_, xs, hx, ra⟩ := w1.get hm
  refine ⟨a, rfl, ⟨xs, .inl (.inl hx)⟩, k _ _ _ _ G1 M1 H1 e1 w1 ⟨fun i G M H hi e w hm => ?_, fun G M H e w hm => ?_, fun i G M H x H' hi e w hm y => ?_⟩ q⟩
  · obtain ⟨_, xs, hx, ra⟩ := w.get hm
    rw [← ra.length] at hi
    exact ⟨xs, xs[i], .inl (.inl hx), by simp [hi]⟩
  · obtain ⟨_, xs, hx, ra⟩ := w.get hm
    exact ⟨xs, .inl (.inl hx), by rw [ra.length]; exact Nat.le_refl _⟩
  · obtain ⟨rfl, y⟩ := y
    obtain ⟨_, xs, hx, ra⟩ := w.get hm
    obtain ⟨d, h1, h2⟩ := ra.getV (y xs (.inl (.inl hx)))
    exact ⟨G, d, Ex.refl G, w, h2, h1⟩
theorem ys_par3 {i j l : Nat} {ta : TA} (h : Xa K ta ρ M fun ds M1 => ∃ x y z, ds = [x, y, z] ∧ nx (((ρ.set i (some x)).set j (some y)).set l (some z)) M1) : Xs K (tPar3 i j l ta) ⟨nx, rt, bk, ct⟩ ρ M := by
  intro σ G H D s w k
  refine h σ G H _ s w fun vs ds G' M' H' e r w' q => ?_
  obtain ⟨x, y, z, rfl, q⟩ := q
  cases r with
  | cons r1 r =>
    cases r with
    | cons r2 r =>
      cases r with
      | cons r3 r =>
        cases r
        exact ⟨_, _, _, rfl, k.nx _ G' H' _ M' e ((((s.up e).set i r1).set j r2).set l r3) w' q⟩
/-- [c in w for c in z] -/
theorem lc_signs {te : TE} {i j : Nat} {z w : Str} (hz : z.length ≤ 1000000) (hi : ρ[i]? = some (some (.str z))) (hj : j < ρ.length) (hw : te = tC (.str w))
    (h : R (.lst ((z.cps.toList.map fun c => decide (c ∈ w.cps.toList)).map D.bl)) M) : Xe K (tLc (iStr (tVar i)) (gName j) tYes (tOp rInC (tVar j) te) [j]) ρ M R := by
  subst hw
  refine xe_lc ?_
  refine xi_str ?_
  refine xe_var hi ?_
  have hn : z.cps.size ≤ 16000000 := by show z.length ≤ _; omega
  refine ⟨z, rfl, trivial, fun _ _ => trivial, hn, fun n ys => ys = ((z.cps.toList.take n).map fun c => decide (c ∈ w.cps.toList)).map D.bl, rfl, ?_, ?_⟩
  · rintro n d ys p hn ⟨c, hc, rfl⟩ rfl
    have hc' : z.cps.toList[n]? = some c := by rw [Array.getElem?_toList]; exact hc
    refine xg_name List.mem_cons_self ⟨rfl, xt_yes ⟨rfl, fun _ => ?_, fun z => Bool.noConfusion z⟩⟩
    refine xe_op (xe_var (d := .str ⟨#[c]⟩) (by simp [wipeD, hj]) (xe_str ?_))
    refine xr_inC ⟨rfl, ?_⟩
    simp only []
    rw [List.take_add_one, hc']
    simp
  · rintro ys rfl
    rw [List.take_of_length_le (by simp)]
    exact h
theorem app_len (a b : Str) : (a ++ b).length = a.length + b.length := by
  show (a ++ b).cps.size = a.cps.size + b.cps.size
  exact Array.size_append
theorem cut_le (z : Str) (a b : Option Int) : (cutS z a b).length ≤ z.length := by
  show (cutS z a b).cps.size ≤ z.cps.size
  unfold cutS
  rw [List.size_toArray, List.length_take, List.length_drop, ← Array.length_toList]
  omega
theorem pt2 {p : Str × Str × Str} {a b c : Str} (h : p = (a, b, c)) : p.1 = a ∧ p.2.1 = b ∧ p.2.2 = c := by subst h; exact ⟨rfl, rfl, rfl⟩
theorem fmt_iK {i : Int} (h : i.natAbs < 18446744073709551616) (r : R (.str (toString i)) M) : Fmt (.int i) M R := fmt_i (log_lt (k := 64) h (by decide)) r
theorem xc_strK {i : Int} (h : i.natAbs < 18446744073709551616) (r : R (.str (toString i)) M) : Xc K cStrI [.int i] M R := xc_strI (log_lt (k := 64) h (by decide)) r
end
/-! list displays: of a list that stays, of a list that will change -/
def tLstF : TA → TE := tLst
def tLstN : TA → TE := tLst
theorem pe_lstF {X : Cx} {es : List Expr} {ta : TA} {pos : Pos} (h : PE X (.List es pos) (tLst ta)) : PE X (.List es pos) (tLstF ta) := h
theorem pe_lstN {X : Cx} {es : List Expr} {ta : TA} {pos : Pos} (h : PE X (.List es pos) (tLst ta)) : PE X (.List es pos) (tLstN ta) := h
section
variable {K : PySem.W.Frag} [Bs K] {ρ : Rho} {M M' : Mm} {R : RD}
theorem xe_lstF {t : TA} (h : Xa K t ρ M fun ds M1 => ds.length ≤ 16000000 ∧ R (.lst ds) M1) : Xe K (tLstF t) ρ M R := xe_lst h
theorem xe_lstN {t : TA} (h : Xa K t ρ M fun ds M1 => ds.length ≤ 16000000 ∧ ∀ p, R (.ref p) ((p, .lst ds) :: M1)) : Xe K (tLstN t) ρ M R := xe_lstM h
end
/-- ints between bounds -/
def intsIn (lo hi : Int) (ds : List D) : Bool := ds.all fun d => match d with | .int r => decide (lo ≤ r ∧ r ≤ hi) | _ => false
theorem ints_mem {lo hi : Int} {ds : List D} {d : D} (h : intsIn lo hi ds = true) (hd : d ∈ ds) : ∃ r, d = .int r ∧ lo ≤ r ∧ r ≤ hi := by
  unfold intsIn at h
  rw [List.all_eq_true] at h
  have := h d hd
  cases d with
  | int r => exact ⟨r, rfl, of_decide_eq_true this⟩
  | _ => cases this
theorem nd_f {P : Prop} [Decidable P] (h : (!decide P) = false) : P := by simpa using h
theorem nd_t {P : Prop} [Decidable P] (h : (!decide P) = true) : ¬ P := by simpa using h
/-! what is not wanted any more is forgotten -/
/-- M' is M without some things; no lock is forgotten -/
structure Few (M' M : Mm) : Prop where
  sub : M'.Sublist M
  lk : ∀ p ∈ M, isLck p.2 = true → p ∈ M'
theorem Wd.sub {K : PySem.W.Frag} [Bs K] {G H : Hp} {M M' : Mm} (w : Wd K G M H) (h : Few M' M) : Wd K G M' H :=
  ⟨⟨fun b u e => orKeep (w.ex b u e) fun _ _ y => h.lk _ y rfl, fun q hq => w.mo q (h.sub.mem hq), (h.sub.map _).nodup w.nd, w.nt⟩, w.bs⟩
theorem Few.refl (M : Mm) : Few M M := ⟨List.Sublist.refl M, fun _ h _ => h⟩
theorem Few.trans {M M1 M2 : Mm} (a : Few M M1) (b : Few M1 M2) : Few M M2 := ⟨a.sub.trans b.sub, fun p h l => a.lk p (b.lk p h l) l⟩
theorem Few.cons {M M' : Mm} {x : Addr × MO} (h : Few M' M) (l : isLck x.2 = false := by rfl) : Few M' (x :: M) :=
  ⟨h.sub.trans (List.sublist_cons_self x M), fun p hp q => (List.mem_cons.mp hp).elim (fun e => by rw [e, l] at q; cases q) fun e => h.lk p e q⟩
theorem Few.keep {M M' : Mm} {x : Addr × MO} (h : Few M' M) : Few (x :: M') (x :: M) :=
  ⟨h.sub.cons_cons x, fun p hp q => (List.mem_cons.mp hp).elim (fun e => e ▸ List.mem_cons_self) fun e => List.mem_cons_of_mem _ (h.lk p e q)⟩
section
variable {K : PySem.W.Frag} [Bs K] {ρ : Rho} {M M' : Mm} {nx bk ct : RS} {rt : RD} {R : RD} {t : TS} {te : TE}
theorem xe_gone (h : Xe K te ρ M fun d M' => ∃ M'', Few M'' M' ∧ R d M'') : Xe K te ρ M R := by
  intro σ G H Q s w k
  refine h σ G H Q s w fun v d G' M' H' e r w' q => ?_
  obtain ⟨M'', hs, q⟩ := q
  exact k v d G' M'' H' e r (w'.sub hs) q
theorem ys_gone (h : Xs K t ⟨nx, fun d M' => ∃ M'', Few M'' M' ∧ rt d M'', bk, ct⟩ ρ M) : Xs K t ⟨nx, rt, bk, ct⟩ ρ M :=
  ys_wrap (fun M' M'' => Few M'' M') (fun _ _ _ _ hs w => w.sub hs) h
theorem ys_sub (hs : Few M' M) (h : Xs K t ⟨nx, rt, bk, ct⟩ ρ M') : Xs K t ⟨nx, rt, bk, ct⟩ ρ M := by
  intro σ G H D s w k
  exact h σ G H D s (w.sub hs) k
end
theorem sub1 {x : Addr × MO} {M : Mm} (h : isLck x.2 = false := by rfl) : Few M (x :: M) := (Few.refl M).cons h
theorem sub2 {x y : Addr × MO} {M : Mm} (h : isLck x.2 = false := by rfl) (h2 : isLck y.2 = false := by rfl) : Few M (x :: y :: M) := (sub1 h2).cons h
theorem atI_0 {α : Type} {d : α} {ds : List α} : L2.atI (d :: ds) 0 = some d := (atI_nat (xs := d :: ds) (j := 0) rfl : L2.atI (d :: ds) ((0 : Nat) : Int) = some d)
theorem atI_1 {α : Type} {d e : α} {ds : List α} : L2.atI (d :: e :: ds) 1 = some e := (atI_nat (xs := d :: e :: ds) (j := 1) rfl : L2.atI (d :: e :: ds) ((1 : Nat) : Int) = some e)
/-- list(..) of which the result stays -/
def cListF (K : PySem.W.Frag) : List V → Hp → VK → Prop := cList K
theorem k_listF {X : Cx} (K : PySem.W.Frag) (h : X.K = K := by rfl) : CallR X (.type "list") (cListF K) := h ▸ c_list
theorem xc_listF {K : PySem.W.Frag} [Bs K] {M : Mm} {R : RD} {ds : List D} {x : D} (hx : x = .lst ds ∨ x = .tup ds ∨ ∃ a, x = .ref a ∧ Has M a (.lst ds)) (r : R (.lst ds) M) : Xc K (cListF K) [x] M R := xc_listL hx r
theorem all_rep (n : Nat) : (List.replicate n true).all id = true := by
  induction n with
  | zero => rfl
  | succ n ih => rw [List.replicate_succ, List.all_cons, ih]; rfl
/-! which judgement it is (for the steps' tactics) -/
section
variable {K : PySem.W.Frag} [Bs K] {ρ : Rho} {M : Mm}
theorem tg_e {t : TE} {R : RD} (h : Xe K t ρ M R) : Xe K t ρ M R := h
theorem tg_t {t : TT} {R : Bool → Mm → Prop} (h : Xt K t ρ M R) : Xt K t ρ M R := h
theorem tg_a {t : TA} {R : List D → Mm → Prop} (h : Xa K t ρ M R) : Xa K t ρ M R := h
theorem tg_r {r : R2} {x y : D} {R : RD} (h : Xr K r x y M R) : Xr K r x y M R := h
theorem tg_s {t : TS} {E : En} (h : Xs K t E ρ M) : Xs K t E ρ M := h
theorem tg_c {r : List V → Hp → VK → Prop} {xs : List D} {R : RD} (h : Xc K r xs M R) : Xc K r xs M R := h
theorem tg_m {r : V → List V → Hp → VK → Prop} {x : D} {xs : List D} {R : RD} (h : Xm K r x xs M R) : Xm K r x xs M R := h
theorem tg_g {vs : List Nat} {g : TG} {d : D} {R : Rho → Mm → Prop} (h : Xg K vs g d ρ M R) : Xg K vs g d ρ M R := h
theorem tg_gs {vs : List Nat} {g : TGs} {d : List D} {R : Rho → Mm → Prop} (h : Xgs K vs g d ρ M R) : Xgs K vs g d ρ M R := h
theorem tg_l {r : V → Option Int → Option Int → Hp → VK → Prop} {x : D} {lo hi : Option Int} {R : RD} (h : Xl K r x lo hi M R) : Xl K r x lo hi M R := h
theorem tg_o {t : TO} {R : Option Int → Mm → Prop} (h : Xo K t ρ M R) : Xo K t ρ M R := h
theorem tg_u {r : V → Hp → VK → Prop} {x : D} {R : RD} (h : Xu K r x M R) : Xu K r x M R := h
theorem tg_j {ts : List TE} {acc : Str} {R : Str → Mm → Prop} (h : Xj K ts acc ρ M R) : Xj K ts acc ρ M R := h
theorem tg_f {d : D} {R : RD} (h : Fmt d M R) : Fmt d M R := h
end
end XD

/-! XD9: classes of one's own: fields, methods, making, own operators; dicts. -/
namespace XD
open PySem L2
/-! ### what the top has written of a class -/
def clsA (mg : Str → Option Value) (x : Str) : Addr := match mg x with | some (.ref a) => a | _ => 0
structure CK (K : PySem.W.Frag) (mg : Str → Option Value) (x : Str) : Prop where
  at_ : mg x = some (.ref (clsA mg x))
  cls : Cls K (clsA mg x)
  mks : PySem.W.makesIn K (clsA mg x) = true
  kp : PySem.W.keepIn K (.ref (clsA mg x)) = true
theorem clsA_of {mg : Str → Option Value} {x : Str} {a : Addr} (h : mg x = some (.ref a)) : clsA mg x = a := by unfold clsA; rw [h]
theorem CK.mk' {K : PySem.W.Frag} [Bs K] {mg : Str → Option Value} {h : Heap} (X : K.In h) (G : h.Ns mainGlobals mg) {x : Str} {C : Addr} (a : PySem.W.nsIn K mainGlobals x = some (some (.ref C)))
    (pg : PySem.W.plainGet K C Str.empty = true) (hd : PySem.W.hasDictIn K C = true) (po : PySem.W.plainOver K C = true) (sa : PySem.W.findIn K (.ref C) "__setattr__" = some (some (.builtin "object.__setattr__"))) (mk : PySem.W.makesIn K C = true) (kc : PySem.W.keepIn K (.ref C) = true) : CK K mg x := by
  have e := PySem.W.mg_of X G a
  have e2 := clsA_of e
  exact ⟨by rw [e2]; exact e, by rw [e2]; exact ⟨pg, hd, po, sa⟩, by rw [e2]; exact mk, by rw [e2]; exact kc⟩
/-- a plain method -/
structure MT (K : PySem.W.Frag) (mg : Str → Option Value) (x m qual : Str) (st : Stmt) (ps : List Str) : Prop where
  ex : ∃ f fd, Fun K m qual st f fd ∧ Meth K (clsA mg x) m f ∧ Binds K fd ps []
theorem MT.mk' {K : PySem.W.Frag} [Bs K] {mg : Str → Option Value} {h : Heap} (X : K.In h) (G : h.Ns mainGlobals mg) {x m qual : Str} {st : Stmt} {ps : List Str} {C f : Addr} {oc : Value} {od an : Option Addr} {osl : Array (Option Value)} {kV doc pm cdv ct : Value}
    (a : PySem.W.nsIn K mainGlobals x = some (some (.ref C))) (fi : PySem.W.findIn K (.ref C) m = some (some (.ref f))) (isf : PySem.W.isFn K (.ref f) = true)
    (l : K.lookup f = some ⟨oc, od, .func (PySem.W.fnOf m qual (defArgs st) (defBody st) (defScope st) .none kV doc pm an cdv ct), osl⟩) (c : PySem.W.codeIn K cdv qual = true) (k : PySem.W.keepIn K (.ref f) = true)
    (hb : ∀ (kV doc pm : Value) (an : Option Addr) (cdv ct : Value) (us : List Value), us.length = ps.length → bindArgs (PySem.W.fnOf m qual (defArgs st) (defBody st) (defScope st) .none kV doc pm an cdv ct) ⟨us, []⟩ = pure (ps.zip us)) : MT K mg x m qual st ps := by
  have e2 := clsA_of (PySem.W.mg_of X G a)
  have F := fun_mk (st := st) l c k
  exact ⟨f, _, F, by rw [e2]; exact ⟨fi, isf, k⟩, F.binds hb⟩
/-- a method with one parameter self and a star parameter -/
structure MTs (K : PySem.W.Frag) (mg : Str → Option Value) (x m qual : Str) (st : Stmt) (pv : Str) : Prop where
  ex : ∃ f fd, Fun K m qual st f fd ∧ Meth K (clsA mg x) m f ∧ ∀ (kV doc pm : Value) (an : Option Addr) (cdv ct : Value) (us rest : List Value), us.length = ["self"].length →
    bindArgs (PySem.W.fnOf m qual (defArgs st) (defBody st) (defScope st) .none kV doc pm an cdv ct) ⟨us ++ rest, []⟩ = (newTuple rest >>= fun t => pure ((["self"] : List Str).zip us ++ [(pv, t)]))
theorem MTs.mk' {K : PySem.W.Frag} [Bs K] {mg : Str → Option Value} {h : Heap} (X : K.In h) (G : h.Ns mainGlobals mg) {x m qual : Str} {st : Stmt} {pv : Str} {C f : Addr} {oc : Value} {od an : Option Addr} {osl : Array (Option Value)} {kV doc pm cdv ct : Value}
    (a : PySem.W.nsIn K mainGlobals x = some (some (.ref C))) (fi : PySem.W.findIn K (.ref C) m = some (some (.ref f))) (isf : PySem.W.isFn K (.ref f) = true)
    (l : K.lookup f = some ⟨oc, od, .func (PySem.W.fnOf m qual (defArgs st) (defBody st) (defScope st) .none kV doc pm an cdv ct), osl⟩) (c : PySem.W.codeIn K cdv qual = true) (k : PySem.W.keepIn K (.ref f) = true)
    (hb : ∀ (kV doc pm : Value) (an : Option Addr) (cdv ct : Value) (us rest : List Value), us.length = ["self"].length →
      bindArgs (PySem.W.fnOf m qual (defArgs st) (defBody st) (defScope st) .none kV doc pm an cdv ct) ⟨us ++ rest, []⟩ = (newTuple rest >>= fun t => pure ((["self"] : List Str).zip us ++ [(pv, t)]))) : MTs K mg x m qual st pv := by
  have e2 := clsA_of (PySem.W.mg_of X G a)
  have F := fun_mk (st := st) l c k
  exact ⟨f, _, F, by rw [e2]; exact ⟨fi, isf, k⟩, hb⟩
/-- no class of it has the name -/
abbrev FN (K : PySem.W.Frag) (mg : Str → Option Value) (x f : Str) : Prop := NoAttr K (clsA mg x) f
theorem FN.mk' {K : PySem.W.Frag} [Bs K] {mg : Str → Option Value} {h : Heap} (X : K.In h) (G : h.Ns mainGlobals mg) {x f : Str} {C : Addr} (a : PySem.W.nsIn K mainGlobals x = some (some (.ref C))) (n : PySem.W.findIn K (.ref C) f = some none) : FN K mg x f := by
  have e2 := clsA_of (PySem.W.mg_of X G a)
  show PySem.W.findIn K (.ref (clsA mg x)) f = _
  rw [e2]
  exact n
/-! ### fields -/
def tFldC (C : Addr) (ta : TE) (f : Str) : TE := fun σ H Q => ta σ H fun x H1 => ∃ a dx fs v, x = .ref a ∧ H1 a = some (.ins C dx fs) ∧ fs.lookup f = some v ∧ Q v H1
theorem pe_fldC {X : Cx} {K : PySem.W.Frag} [Bs K] {e : Expr} {ta : TE} {f : Str} {pos : Pos} {C : Addr} (c : Cls K C) (n : NoAttr K C f) (he : PE X e ta) (h : X.K = K := by rfl) (hb : attributeBase e f X.env (eval e X.env) = eval e X.env := by rfl) : PE X (.Attribute e f pos) (tFldC C ta f) := by
  subst h
  refine ⟨fun pins s σ H Q I h => ?_⟩
  refine attr_of hb (thn (he.run pins s σ H _ I h) fun u s1 hq => ?_)
  obtain ⟨x, H1, I1, rx, a, dx, fs, v, ex, ea, l, q⟩ := hq
  subst ex
  cases (show u = Value.ref a from rx)
  exact getattr_ok I1 ea c n l fun u' s2 I2 ru => ⟨v, H1, I2, ru, q⟩
def sFldC (C : Addr) (ta tv : TE) (f : Str) : TS := fun D σ H => tv σ H fun y H1 => ta σ H1 fun x H2 => ∃ a dx fs, x = .ref a ∧ H2 a = some (.ins C dx fs) ∧ fs.length < 1000 ∧ D.nx σ (upd H2 a (.ins C dx (putF f y fs)))
theorem ps_fldC {X : Cx} {K : PySem.W.Frag} [Bs K] {o value : Expr} {ta tv : TE} {f : Str} {pos pos' : Pos} {C : Addr} (c : Cls K C) (n : NoAttr K C f) (ha : PE X o ta) (hv : PE X value tv) (h : X.K = K := by rfl)
    (hs : swapsWith value (some (.Attribute o f pos')) pos.line X.env = pure false := by rfl) : PS X (.Assign [.Attribute o f pos'] value pos) (sFldC C ta tv f) := by
  subst h
  refine ⟨fun pins s σ H D I h => ?_⟩
  refine plainObj_wpAny_Assign_Attribute (thn (hv.run pins s σ H _ I h) fun u s1 hq => ?_) hs
  obtain ⟨y, H1, I1, ry, q⟩ := hq
  refine thn (ha.run pins s1 σ H1 _ I1 q) fun ov s2 hq2 => ?_
  obtain ⟨x, H2, I2, rx, a, dx, fs, ex, ea, l, q2⟩ := hq2
  subst ex
  cases (show ov = Value.ref a from rx)
  exact setattr_ok I2 ea c n l ry fun s3 I3 => ⟨σ, _, I3, q2⟩
section
variable {K : PySem.W.Frag} [Bs K] {ρ : Rho} {M M' : Mm} {R : RD} {nx bk ct : RS} {rt : RD}
theorem RpF.lookup {G : Hp} {f : Str} : ∀ {xs : List (Str × V)} {fs : List (Str × D)}, RpF K G xs fs → ∀ {d : D}, fs.lookup f = some d → ∃ v, xs.lookup f = some v ∧ Rp K G v d := by
  intro xs
  induction xs with
  | nil => intro fs h d e; cases h; cases e
  | cons x xs ih =>
    intro fs h d e
    cases h with
    | @cons k v _ d' ds h r =>
      unfold List.lookup at e ⊢
      cases q : f == k with
      | true => rw [q] at e; cases e; exact ⟨v, rfl, h⟩
      | false => rw [q] at e; exact ih r e
theorem RpF.noLook {G : Hp} {f : Str} : ∀ {xs : List (Str × V)} {fs : List (Str × D)}, RpF K G xs fs → fs.lookup f = none → xs.lookup f = none := by
  intro xs
  induction xs with
  | nil => intro fs h e; rfl
  | cons x xs ih =>
    intro fs h e
    cases h with
    | @cons k v _ d' ds h r =>
      unfold List.lookup at e ⊢
      cases q : f == k with
      | true => rw [q] at e; cases e
      | false => rw [q] at e; exact ih r e
theorem RpF.length {G : Hp} : ∀ {xs : List (Str × V)} {fs : List (Str × D)}, RpF K G xs fs → xs.length = fs.length := by
  intro xs
  induction xs with
  | nil => intro fs h; cases h; rfl
  | cons x xs ih => intro fs h; cases h with | cons h r => simp [ih r]
def putD (f : Str) (v : D) : List (Str × D) → List (Str × D)
  | [] => [(f, v)]
  | (g, x) :: r => if g = f then (g, v) :: r else (g, x) :: putD f v r
theorem RpF.put {G : Hp} {f : Str} {v : V} {d : D} (h : Rp K G v d) : ∀ {xs : List (Str × V)} {fs : List (Str × D)}, RpF K G xs fs → RpF K G (putF f v xs) (putD f d fs) := by
  intro xs
  induction xs with
  | nil => intro fs r; cases r; exact .cons h .nil
  | cons x xs ih =>
    intro fs r
    cases r with
    | @cons k u _ e ds h1 r =>
      show RpF K G (if k = f then (k, v) :: xs else (k, u) :: putF f v xs) (if k = f then (k, d) :: ds else (k, e) :: putD f d ds)
      by_cases q : k = f
      · rw [if_pos q, if_pos q]; exact .cons h r
      · rw [if_neg q, if_neg q]; exact .cons h1 (ih r)
/-- what an object's field is -/
def Fd (C : Addr) (d : D) (f : Str) (M : Mm) (R : RD) : Prop := (∃ fs v, d = .ins C fs ∧ fs.lookup f = some v ∧ R v M) ∨ ∃ a fs v, d = .ref a ∧ Has M a (.ins C fs) ∧ fs.lookup f = some v ∧ R v M
theorem fd_f {C : Addr} {fs : List (Str × D)} {f : Str} {v : D} (h : fs.lookup f = some v) (r : R v M) : Fd C (.ins C fs) f M R := .inl ⟨fs, v, rfl, h, r⟩
theorem fd_m {C a : Addr} {fs : List (Str × D)} {f : Str} {v : D} (hm : Has M a (.ins C fs)) (h : fs.lookup f = some v) (r : R v M) : Fd C (.ref a) f M R := .inr ⟨a, fs, v, rfl, hm, h, r⟩
theorem xe_fld {C : Addr} {ta : TE} {f : Str} (h : Xe K ta ρ M fun d M1 => Fd C d f M1 R) : Xe K (tFldC C ta f) ρ M R := by
  intro σ G H Q s w k
  refine h σ G H _ s w fun v d G1 M1 H1 e1 r w1 q => ?_
  rcases q with ⟨fs, v, rfl, l, q⟩ | ⟨a, fs, v, rfl, hm, l, q⟩
  · cases r with
    | @ins a C dx xs _ hx rf =>
      obtain ⟨u, h1, h2⟩ := rf.lookup l
      exact ⟨a, dx, xs, u, rfl, w1.at' hx (fun z => z), h1, k u v G1 M1 H1 e1 h2 w1 q⟩
  · cases r
    obtain ⟨_, dx, xs, h1, rf⟩ := w1.get hm
    obtain ⟨u, h2, h3⟩ := rf.lookup l
    exact ⟨a, dx, xs, u, rfl, h1, h2, k u v G1 M1 H1 e1 h3 w1 q⟩
theorem ys_fld {C : Addr} {ta tv : TE} {f : Str} (h : Xe K tv ρ M fun y M1 => Xe K ta ρ M1 fun o M2 => ∃ a fs M3, o = .ref a ∧ Has M2 a (.ins C fs) ∧ fs.length < 900 ∧ Put M2 a (.ins C (putD f y fs)) M3 ∧ nx ρ M3) : Xs K (sFldC C ta tv f) ⟨nx, rt, bk, ct⟩ ρ M := by
  intro σ G H D s w k
  refine h σ G H _ s w fun v y G1 M1 H1 e1 r w1 q => ?_
  refine q σ G1 H1 _ (s.up e1) w1 fun u o G2 M2 H2 e2 r2 w2 q2 => ?_
  obtain ⟨a, fs, M3, rfl, hm, hl, hp, q2⟩ := q2
  cases r2
  obtain ⟨g0, dx, xs, h1, rf⟩ := w2.get hm
  refine ⟨a, dx, xs, rfl, h1, by rw [rf.length]; omega, ?_⟩
  exact k.nx σ G2 _ ρ M3 (e1.trans e2) (s.up (e1.trans e2)) (w2.put hp g0 ⟨g0, dx, _, upd_same, rf.put (r.up e2)⟩) q2
/-! ### methods -/
def Mcl (C : Addr) (d : D) (m : Str) (M : Mm) : Prop := (∃ fs, d = .ins C fs ∧ fs.lookup m = none) ∨ ∃ a fs, d = .ref a ∧ Has M a (.ins C fs) ∧ fs.lookup m = none
theorem mc_f {C : Addr} {fs : List (Str × D)} {m : Str} (h : fs.lookup m = none) : Mcl C (.ins C fs) m M := .inl ⟨fs, rfl, h⟩
theorem mc_m {C a : Addr} {fs : List (Str × D)} {m : Str} (hm : Has M a (.ins C fs)) (h : fs.lookup m = none) : Mcl C (.ref a) m M := .inr ⟨a, fs, rfl, hm, h⟩
theorem Mcl.at {C : Addr} {d : D} {m : Str} {G H : Hp} {v : V} (t : Mcl C d m M) (r : Rp K G v d) (w : Wd K G M H) : ∃ a dx xs, v = .ref a ∧ H a = some (.ins C dx xs) ∧ xs.lookup m = none := by
  rcases t with ⟨fs, rfl, l⟩ | ⟨a, fs, rfl, hm, l⟩
  · cases r with
    | @ins a C dx xs _ hx rf => exact ⟨a, dx, xs, rfl, w.at' hx (fun z => z), rf.noLook l⟩
  · cases r
    obtain ⟨_, dx, xs, h1, rf⟩ := w.get hm
    exact ⟨a, dx, xs, rfl, h1, rf.noLook l⟩
theorem xe_meth {C : Addr} {m : Str} {S : DS} {X : XK} {ta : TE} {t : TA} (h : Xe K ta ρ M fun x M1 => Mcl C x m M1 ∧ Xa K t ρ M1 fun ds M2 => S (x :: ds) M2 R) : Xe K (tMeth C m (spOf K S) [] X ta t) ρ M R := by
  intro σ G H Q s w k
  refine h σ G H _ s w fun v x G1 M1 H1 e1 r w1 q => ?_
  obtain ⟨a, dx, xs, rfl, h1, h2⟩ := q.1.at r w1
  refine ⟨a, dx, xs, rfl, h1, h2, ?_⟩
  refine q.2 σ G1 H1 _ (s.up e1) w1 fun vs ds G2 M2 H2 e2 rs w2 q2 => ?_
  rw [List.append_nil]
  exact ⟨G2, M2, x :: ds, R, .cons (r.up e2) rs, w2.toWd0, q2, sp_back w2.bs k (e1.trans e2)⟩
end
/-! ### methods of a class of the module: what a caller needs -/
section
variable {P : Program} {w : World} {K : PySem.W.Frag} [Bs K] {mg : Str → Option Value} {base : Heap}
structure GMt (P : Program) (w : World) (K : PySem.W.Frag) (mg : Str → Option Value) (base : Heap) (k : Nat) (x m : Str) (ps : List Str) (S : DS) : Prop where
  ex : ∃ f fd, FnOk P w K mg base CX0 k f fd ps (spOf K S) ∧ Meth K (clsA mg x) m f ∧ Binds K fd ps []
theorem GMt.mono {j k : Nat} {x m : Str} {ps : List Str} {S : DS} (h : GMt P w K mg base j x m ps S) (hk : j ≤ k) : GMt P w K mg base k x m ps S := by
  obtain ⟨f, fd, h1, h2⟩ := h.ex
  exact ⟨f, fd, h1.mono hk, h2⟩
omit [Bs K] in
theorem m_ok {x m qual : Str} {st : Stmt} {N ps : List Str} {k : Nat} {S : DS} (T : MT K mg x m qual st ps) (Sc : FnScope N ps (defScope st)) (len : ∀ ds M R, S ds M R → ds.length = ps.length)
    (hbody : ∀ (f : Addr) (cdv : Value) (A : Around) (outer : List Env) (s : Shared) (H : Hp) (E : XK), Room k (A.deeper (PyProof.Rows.envOfC qual (defScope st) s.heap.objs.size f cdv)) →
      ∃ t, PSs (cxOf CX0 P w K mg base N qual (defScope st) f cdv A outer s H E).nox (defBody st) t ∧ ∀ ds M R, S ds M R → Xs0 K t { nx := fun _ M' => R .non M', rt := R } (startD N ds) M) : GMt P w K mg base (k + 1) x m ps S := by
  obtain ⟨f, fd, F, h1, h2⟩ := T.ex
  exact ⟨f, fd, fn_ok F Sc len (hbody f), h1, h2⟩
/-- star parameter: what is left over comes as a tuple -/
def starS (n : Nat) (S : DS) : DS := fun ds M R => ∃ ws rest, ds = ws ++ rest ∧ ws.length = n ∧ rest.length ≤ 16000000 ∧ S (ws ++ [.tup rest]) M R
theorem RpA.split {G : Hp} : ∀ {ws : List D} {vs : List V} {rest : List D}, RpA K G vs (ws ++ rest) → ∃ v1 v2, vs = v1 ++ v2 ∧ RpA K G v1 ws ∧ RpA K G v2 rest := by
  intro ws
  induction ws with
  | nil => intro vs rest h; exact ⟨[], vs, rfl, .nil, h⟩
  | cons a ws ih =>
    intro vs rest h
    cases h with
    | @cons v vs' _ _ h r =>
      obtain ⟨v1, v2, e, h1, h2⟩ := ih r
      exact ⟨v :: v1, v2, by rw [e]; rfl, .cons h h1, h2⟩
omit [Bs K] in
theorem star_sp {n : Nat} {S : DS} {vs : List V} {H : Hp} {Q : VK} {E : XK} (h : spOf K (starS n S) vs H Q E) :
    ∃ ws rest, vs = ws ++ rest ∧ ws.length = n ∧ rest.length ≤ sizeLine ∧ ∀ p, H p = Option.none → spOf K S (ws ++ [V.ref p]) (upd H p (.tup rest)) Q E := by
  obtain ⟨G, M, ds, R, r, w0, ⟨ws, rest, rfl, hl, hz, hs⟩, kk⟩ := h
  obtain ⟨v1, v2, rfl, r1, r2⟩ := r.split
  refine ⟨v1, v2, rfl, by rw [r1.length, hl], by rw [r2.length]; exact strLe _ hz, fun p hp => ?_⟩
  obtain ⟨G', e, r', w'⟩ := w0.wd.newT hp r2
  exact ⟨G', M, _, R, (r1.up e).append (.cons r' .nil), w'.toWd0, hs, fun v d G2 M' H' e2 => kk v d G2 M' H' (e.trans e2)⟩
structure GMs (P : Program) (w : World) (K : PySem.W.Frag) (mg : Str → Option Value) (base : Heap) (k : Nat) (x m : Str) (S : DS) : Prop where
  ex : ∃ f, FnR P w K mg base CX0 k f (spOf K (starS 1 S)) ∧ Meth K (clsA mg x) m f
theorem GMs.mono {j k : Nat} {x m : Str} {S : DS} (h : GMs P w K mg base j x m S) (hk : j ≤ k) : GMs P w K mg base k x m S := by
  obtain ⟨f, h1, h2⟩ := h.ex
  exact ⟨f, h1.mono hk, h2⟩
omit [Bs K] in
theorem ms_ok {x m qual pv : Str} {st : Stmt} {N : List Str} {k : Nat} {S : DS} (T : MTs K mg x m qual st pv) (Sc : FnScope N ([("self" : Str)] ++ [pv]) (defScope st))
    (hbody : ∀ (f : Addr) (cdv : Value) (A : Around) (outer : List Env) (s : Shared) (H : Hp) (E : XK), Room k (A.deeper (PyProof.Rows.envOfC qual (defScope st) s.heap.objs.size f cdv)) →
      ∃ t, PSs (cxOf CX0 P w K mg base N qual (defScope st) f cdv A outer s H E).nox (defBody st) t ∧ ∀ ds M R, S ds M R → Xs0 K t { nx := fun _ M' => R .non M', rt := R } (startD N ds) M) : GMs P w K mg base (k + 1) x m S := by
  obtain ⟨f, fd, F, h1, hb⟩ := T.ex
  obtain ⟨oc, od, kV, doc, pm, an, cdv, ct, osl, rfl, lk, hcd⟩ := F.ex
  refine ⟨f, ?_, h1⟩
  refine FnR.imp (StX.fn_star (pv := pv) (ps := ["self"]) lk hcd Sc StX.cxUp_none (fun us rest hl => hb kV doc pm an cdv ct us rest hl) (sp := spOf K S) (N := N) fun A outer s H vs Q E hr h => ?_) fun vs H Q E h => star_sp h
  obtain ⟨G, M, ds, R, r, w0, hs, kk⟩ := h
  obtain ⟨t, h1, h2⟩ := hbody f cdv A outer s H E hr
  refine ⟨t, h1.nox, h2 ds M R hs _ G H _ (rps_start r) w0.wd ⟨?_, ?_, ?_, ?_⟩⟩
  · exact fun σ' G' H' ρ' M' e _ w' q => kk .non .non G' M' H' e .non w'.toWd0 q
  · exact fun v d G' M' H' e r' w' q => kk v d G' M' H' e r' w'.toWd0 q
  · exact fun σ' G' H' ρ' M' e _ w' q => q
  · exact fun σ' G' H' ρ' M' e _ w' q => q
end
/-! calls of methods -/
theorem pe_mK {X : Cx} {K : PySem.W.Frag} [Bs K] {mg : Str → Option Value} {k : Nat} {x m : Str} {ps : List Str} {S : DS} {o e : Expr} {es : List Expr} {ta : TE} {t : TA} {apos pos : Pos} {pl : Sem Bool} (c : CK K mg x) (Gm : GMt X.prog X.w K mg X.base k x m ps S) (hr : Room k X.A) (he : PE X o ta) (ha : PA X (e :: es) t) (h : X.K = K := by rfl) (hmg : X.mg = mg := by rfl)
    (hst : starEach (e :: es) X.env = (false, eval e X.env) :: starEach es X.env := by rfl) (hpl : (backTo pos (starEach es X.env)).any (·.1) = false := by rfl)
    (ht : eval (.Call (.Attribute o m apos) (e :: es) [] pos) X.env = (do let ov ← eval o X.env; standAt apos.atName; let (f, first) ← holding [ov] (getMethod ov m pl); callWith pos f first (backTo pos (starEach (e :: es) X.env)) (backToKw pos (keywordEach [] X.env))) := by rfl) :
    PE X (.Call (.Attribute o m apos) (e :: es) [] pos) (tMeth (clsA mg x) m (spOf K S) [] E0 ta t) := by
  subst h
  subst hmg
  obtain ⟨f, fd, h1, h2, h3⟩ := Gm.ex
  exact pe_meth he c.cls h2 h1 hr h3 .nil pass0 ha hst hpl ht
theorem pe_mK0 {X : Cx} {K : PySem.W.Frag} [Bs K] {mg : Str → Option Value} {k : Nat} {x m : Str} {ps : List Str} {S : DS} {o : Expr} {ta : TE} {apos pos : Pos} {pl : Sem Bool} (c : CK K mg x) (Gm : GMt X.prog X.w K mg X.base k x m ps S) (hr : Room k X.A) (he : PE X o ta) (h : X.K = K := by rfl) (hmg : X.mg = mg := by rfl)
    (ht : eval (.Call (.Attribute o m apos) [] [] pos) X.env = (do let ov ← eval o X.env; standAt apos.atName; let (f, first) ← holding [ov] (getMethod ov m pl); callWith pos f first (backTo pos (starEach [] X.env)) (backToKw pos (keywordEach [] X.env))) := by rfl) :
    PE X (.Call (.Attribute o m apos) [] [] pos) (tMeth (clsA mg x) m (spOf K S) [] E0 ta tNil) := by
  subst h
  subst hmg
  obtain ⟨f, fd, h1, h2, h3⟩ := Gm.ex
  exact pe_meth0 he c.cls h2 h1 hr h3 .nil pass0 ht
/-- a method with a star parameter, called with plain arguments -/
theorem pe_msK {X : Cx} {K : PySem.W.Frag} [Bs K] {mg : Str → Option Value} {k : Nat} {x m : Str} {S : DS} {o e : Expr} {es : List Expr} {ta : TE} {t : TA} {apos pos : Pos} {pl : Sem Bool} (c : CK K mg x) (Gm : GMs X.prog X.w K mg X.base k x m S) (hr : Room k X.A) (he : PE X o ta) (ha : PA X (e :: es) t) (h : X.K = K := by rfl) (hmg : X.mg = mg := by rfl)
    (hst : starEach (e :: es) X.env = (false, eval e X.env) :: starEach es X.env := by rfl) (hpl : (backTo pos (starEach es X.env)).any (·.1) = false := by rfl)
    (ht : eval (.Call (.Attribute o m apos) (e :: es) [] pos) X.env = (do let ov ← eval o X.env; standAt apos.atName; let (f, first) ← holding [ov] (getMethod ov m pl); callWith pos f first (backTo pos (starEach (e :: es) X.env)) (backToKw pos (keywordEach [] X.env))) := by rfl) :
    PE X (.Call (.Attribute o m apos) (e :: es) [] pos) (tMethR (clsA mg x) m (spOf K (starS 1 S)) E0 ta t) := by
  subst h
  subst hmg
  obtain ⟨f, h1, h2⟩ := Gm.ex
  exact pe_methR he c.cls h2 h1 hr pass0 ha hst hpl ht
section
variable {K : PySem.W.Frag} [Bs K] {ρ : Rho} {M M' : Mm} {R : RD} {nx bk ct : RS} {rt : RD}
theorem xe_methR {C : Addr} {m : Str} {S : DS} {X : XK} {ta : TE} {t : TA} (h : Xe K ta ρ M fun x M1 => Mcl C x m M1 ∧ Xa K t ρ M1 fun ds M2 => S (x :: ds) M2 R) : Xe K (tMethR C m (spOf K S) X ta t) ρ M R := by
  intro σ G H Q s w k
  refine h σ G H _ s w fun v x G1 M1 H1 e1 r w1 q => ?_
  obtain ⟨a, dx, xs, rfl, h1, h2⟩ := q.1.at r w1
  refine ⟨a, dx, xs, rfl, h1, h2, ?_⟩
  refine q.2 σ G1 H1 _ (s.up e1) w1 fun vs ds G2 M2 H2 e2 rs w2 q2 => ?_
  exact ⟨G2, M2, x :: ds, R, .cons (r.up e2) rs, w2.toWd0, q2, sp_back w2.bs k (e1.trans e2)⟩
theorem Wd.junk {G H : Hp} (w : Wd K G M H) {p : Addr} {o : HO} (h : H p = none) : Wd K G M (upd H p o) := by
  refine ⟨⟨fun b u e => ?_, fun q hq => ?_, w.nd, w.nt⟩, w.bs⟩
  · have hne : b ≠ p := fun z => by rw [z, w.gfree h] at e; cases e
    rw [upd_ne hne]
    exact w.ex b u e
  · have hne : q.1 ≠ p := fun z => w.nin h (z ▸ List.mem_map_of_mem (f := (·.1)) hq)
    have q2 := w.mo q hq
    exact q2.up (Ex.refl G) (upd_ne hne) q2.gnone
/-- C(..) -/
theorem xe_make {C : Addr} {S : DS} {X : XK} {t : TA} (h : Xa K t ρ M fun ds M1 => ∀ a, S (.ref a :: ds) ((a, .ins C []) :: M1) fun d M2 => d = .non ∧ R (.ref a) M2) : Xe K (tMake C (spOf K S) [] X t) ρ M R := by
  intro σ G H Q s w k
  refine h σ G H _ s w fun vs ds G1 M1 H1 e1 rs w1 q => ?_
  intro a dx ha hdx hne
  rw [List.append_nil]
  have w2 : Wd K G1 ((a, .ins C []) :: M1) (upd (upd H1 dx (.own a)) a (.ins C dx [])) := by
    have w3 := w1.junk (o := .own a) hdx
    have ha' : upd H1 dx (.own a) a = none := by rw [upd_ne (Ne.symm hne)]; exact ha
    exact w3.newM ha' ⟨w1.gfree ha, dx, [], upd_same, .nil⟩
  refine ⟨G1, _, _, _, .cons (.ref a) rs, w2.toWd0, q a, fun v d G' M' H' e r w' hd => ?_⟩
  obtain ⟨rfl, hq⟩ := hd
  cases r
  exact ⟨rfl, k _ _ G' M' H' (e1.trans e) (.ref a) ⟨w', w2.bs.trans e⟩ hq⟩
theorem xe_makeR {C : Addr} {S : DS} {X : XK} {t : TA} (h : Xa K t ρ M fun ds M1 => ∀ a, S (.ref a :: ds) ((a, .ins C []) :: M1) fun d M2 => d = .non ∧ R (.ref a) M2) : Xe K (StX.tMakeR C (spOf K S) X t) ρ M R := by
  intro σ G H Q s w k
  refine h σ G H _ s w fun vs ds G1 M1 H1 e1 rs w1 q => ?_
  intro a dx ha hdx hne
  have w2 : Wd K G1 ((a, .ins C []) :: M1) (upd (upd H1 dx (.own a)) a (.ins C dx [])) := by
    have w3 := w1.junk (o := .own a) hdx
    have ha' : upd H1 dx (.own a) a = none := by rw [upd_ne (Ne.symm hne)]; exact ha
    exact w3.newM ha' ⟨w1.gfree ha, dx, [], upd_same, .nil⟩
  refine ⟨G1, _, _, _, .cons (.ref a) rs, w2.toWd0, q a, fun v d G' M' H' e r w' hd => ?_⟩
  obtain ⟨rfl, hq⟩ := hd
  cases r
  exact ⟨rfl, k _ _ G' M' H' (e1.trans e) (.ref a) ⟨w', w2.bs.trans e⟩ hq⟩
/-- an instance is frozen when it is handed on -/
theorem xe_frzI {te : TE} (h : Xe K te ρ M fun d M' => ∃ a C fs M'', d = .ref a ∧ Cut M' a (.ins C fs) M'' ∧ R (.ins C fs) M'') : Xe K te ρ M R := by
  intro σ G H Q s w k
  refine h σ G H Q s w fun v d G' M' H' e r w' q => ?_
  obtain ⟨a, C, fs, M'', rfl, hc, q⟩ := q
  cases r
  obtain ⟨g0, dx, xs, h1, rf⟩ := w'.mo _ hc.mem
  obtain ⟨e2, w2⟩ := w'.cut hc rfl h1
  exact k (.ref a) (.ins C fs) _ M'' H' (e.trans e2) (.ins upd_same (rf.up e2)) w2 q
end
/-! making with a star parameter -/
def mkOf {K : PySem.W.Frag} [Bs K] {mg : Str → Option Value} {x : Str} {f : Addr} (c : CK K mg x) (m : Meth K (clsA mg x) "__init__" f) : Mk K (clsA mg x) f := ⟨c.mks, m.at_, m.fn, c.kp⟩
theorem pe_mkR {X : Cx} {K : PySem.W.Frag} [Bs K] {mg : Str → Option Value} {k : Nat} {x : Str} {S : DS} {e : Expr} {es : List Expr} {t : TA} {p pos : Pos} (c : CK K mg x) (Gm : GMs X.prog X.w K mg X.base k x "__init__" S) (hr : Room (k + 1) X.A) (ha : PA X (e :: es) t) (h : X.K = K := by rfl) (hmg : X.mg = mg := by rfl) (hg : Gl X x := by rfl)
    (hdb : (x == ("__debug__" : Str)) = false := by decide) (he : starEach (e :: es) X.env = (false, eval e X.env) :: starEach es X.env := by rfl) (hpl : (backTo pos (starEach es X.env)).any (·.1) = false := by rfl) :
    PE X (.Call (.Name x p) (e :: es) [] pos) (StX.tMakeR (clsA mg x) (spOf K (starS 1 S)) E0 t) := by
  subst h
  subst hmg
  obtain ⟨f, h1, h2⟩ := Gm.ex
  exact StX.pe_makeR (mkOf c h2) h1 hr hg c.at_ pass0 ha hdb he hpl
theorem pe_mkR0 {X : Cx} {K : PySem.W.Frag} [Bs K] {mg : Str → Option Value} {k : Nat} {x : Str} {S : DS} {p pos : Pos} (c : CK K mg x) (Gm : GMs X.prog X.w K mg X.base k x "__init__" S) (hr : Room (k + 1) X.A) (h : X.K = K := by rfl) (hmg : X.mg = mg := by rfl) (hg : Gl X x := by rfl)
    (hdb : (x == ("__debug__" : Str)) = false := by decide) : PE X (.Call (.Name x p) [] [] pos) (StX.tMakeR (clsA mg x) (spOf K (starS 1 S)) E0 tNil) := by
  subst h
  subst hmg
  obtain ⟨f, h1, h2⟩ := Gm.ex
  refine ⟨fun pins s σ H Q I q => ?_⟩
  refine wpAny_Call_Name_kw (ld_glob I hg c.at_ ?_ hdb)
  exact PySem.W.callWith_K0 I.kIn c.kp (StX.run_makeR (mkOf c h2) h1 hr pass0 I .nil q)
def tMakeS (K : PySem.W.Frag) (C : Addr) (sp : Sp) (E : XK) (te : TE) : TE := fun σ H Q => te σ H fun y H1 => ∃ b xs, y = V.ref b ∧ (SqT K H1 b xs ∨ SqL K H1 b xs) ∧
  ∀ x dx, H1 x = Option.none → H1 dx = Option.none → dx ≠ x → sp (V.ref x :: xs) (upd (upd H1 dx (.own x)) x (.ins C dx [])) (fun v H2 => v = .non ∧ Q (.ref x) H2) E
theorem pe_mkS {X : Cx} {K : PySem.W.Frag} [Bs K] {mg : Str → Option Value} {k : Nat} {x : Str} {S : DS} {e : Expr} {te : TE} {p sq pos : Pos} (c : CK K mg x) (Gm : GMs X.prog X.w K mg X.base k x "__init__" S) (hr : Room (k + 1) X.A) (he : PE X e te) (h : X.K = K := by rfl) (hmg : X.mg = mg := by rfl) (hg : Gl X x := by rfl)
    (hdb : (x == ("__debug__" : Str)) = false := by decide) (hst : starEach [.Starred e sq] X.env = [(true, eval e X.env)] := by rfl) :
    PE X (.Call (.Name x p) [.Starred e sq] [] pos) (tMakeS K (clsA mg x) (spOf K (starS 1 S)) E0 te) := by
  subst h
  subst hmg
  obtain ⟨f, h1, h2⟩ := Gm.ex
  refine ⟨fun pins s σ H Q I q => ?_⟩
  refine wpAny_Call_Name_kw (ld_glob I hg c.at_ ?_ hdb)
  refine PySem.W.callWith_S (h₀ := X.base) I.ok.mod.kin c.kp (thn (he.run pins s σ H _ I q) fun v s1 hq => ?_) hst
  obtain ⟨y, H1, I1, ry, b, xs, ey, hxs, q⟩ := hq
  subst ey
  cases (show v = Value.ref b from ry)
  exact StX.star_any I1 hxs fun us s2 I2 rv => ⟨I2.kIn, StX.run_makeR (mkOf c h2) h1 hr pass0 I2 rv q⟩
/-- o.m( *e ), e a tuple or a list -/
def tMethSA (K : PySem.W.Frag) (C : Addr) (m : Str) (g : Addr) (sp : Sp) (E : XK) (ta te : TE) : TE := fun σ H Q => ta σ H fun x H1 => ∃ a dx fs, x = .ref a ∧ H1 a = some (.ins C dx fs) ∧ fs.lookup m = Option.none ∧
  ∀ q, H1 q = Option.none → te σ (upd H1 q (.met g a)) fun y H2 => ∃ b vs, y = .ref b ∧ (SqT K H2 b vs ∨ SqL K H2 b vs) ∧ H2 q = some (.met g a) ∧ sp (.ref a :: vs) H2 Q E
theorem pe_methSA {X : Cx} {CX : CXT} {k : Nat} {C g : Addr} {m : Str} {sp : Sp} {E : XK} {o e : Expr} {ta te : TE} {p apos pos : Pos} (he : PE X o ta) (c : Cls X.K C) (b : BMeth X.K C m g) (F : FnR X.prog X.w X.K X.mg X.base CX k g sp) (hr : Room k X.A)
    (hx : Passes CX X E) (ha : PE X e te) (hbase : attributeBase o m X.env (eval o X.env) = eval o X.env := by rfl) : PE X (.Call (.Attribute o m apos) [.Starred e p] [] pos) (tMethSA X.K C m g sp E ta te) := by
  refine ⟨fun pins s σ H Q I hq => ?_⟩
  refine starcall_of hbase (thn (he.run pins s σ H _ I hq) fun u s1 hz => ?_)
  obtain ⟨x, H1, I1, rx, a, dx, fs, ex, ea, l, q⟩ := hz
  subst ex
  cases (show u = Value.ref a from rx)
  refine getbound_ok I1 ea c b l fun q1 s2 hq1 I2 => ?_
  refine PySem.W.ks_call (P := PySem.W.MethP X.K q1 g (.ref a)) rfl (PySem.W.keeps_M b.fi) (PySem.W.ks_lone ?_)
  refine thn (ha.run pins s2 σ _ _ I2 (q q1 hq1)) fun v s3 hy => ?_
  obtain ⟨y, H2, I3, ry, t, vs, ey, ht, hm, hsp⟩ := hy
  subst ey
  cases (show v = Value.ref t from ry)
  refine StX.star_any I3 ht fun us s4 I4 rv => ⟨met_P I4 hm, ?_⟩
  refine wpAny_call (PySem.W.method_call (met_P I4 hm).1 ?_)
  exact run_fnR (us := Value.ref a :: us) (vs := V.ref a :: vs) F hr hx I4 (.cons rfl rv) hsp
/-- .. by what is known of the class -/
structure BM (K : PySem.W.Frag) (mg : Str → Option Value) (x m : Str) : Prop where
  ex : ∀ f, Meth K (clsA mg x) m f → BMeth K (clsA mg x) m f
section
variable {K : PySem.W.Frag} [Bs K] {ρ : Rho} {M M' : Mm} {R : RD} {nx bk ct : RS} {rt : RD}
theorem xe_makeS {C : Addr} {S : DS} {X : XK} {te : TE} (h : Xe K te ρ M fun d M1 => ∃ ds, (d = .lst ds ∨ d = .tup ds) ∧ ∀ a, S (.ref a :: ds) ((a, .ins C []) :: M1) fun d M2 => d = .non ∧ R (.ref a) M2) : Xe K (tMakeS K C (spOf K S) X te) ρ M R := by
  intro σ G H Q s w k
  refine h σ G H _ s w fun v d G1 M1 H1 e1 r1 w1 q => ?_
  obtain ⟨ds, hd, q⟩ := q
  have fin : ∀ xs, RpA K G1 xs ds → ∀ x dx, H1 x = Option.none → H1 dx = Option.none → dx ≠ x → spOf K S (V.ref x :: xs) (upd (upd H1 dx (.own x)) x (.ins C dx [])) (fun v H2 => v = .non ∧ Q (.ref x) H2) X := by
    intro xs rs a dx ha hdx hne
    have w2 : Wd K G1 ((a, .ins C []) :: M1) (upd (upd H1 dx (.own a)) a (.ins C dx [])) := by
      have w3 := w1.junk (o := .own a) hdx
      have ha' : upd H1 dx (.own a) a = none := by rw [upd_ne (Ne.symm hne)]; exact ha
      exact w3.newM ha' ⟨w1.gfree ha, dx, [], upd_same, .nil⟩
    refine ⟨G1, _, _, _, .cons (.ref a) rs, w2.toWd0, q a, fun v d G' M' H' e r w' hd => ?_⟩
    obtain ⟨rfl, hq⟩ := hd
    cases r
    exact ⟨rfl, k _ _ G' M' H' (e1.trans e) (.ref a) ⟨w', w2.bs.trans e⟩ hq⟩
  rcases hd with rfl | rfl
  · cases r1 with
    | @lst b xs _ hb rb => exact ⟨b, xs, rfl, .inr (.inl (.inl (w1.lst hb))), fin xs rb⟩
  · cases r1 with
    | @tup b xs _ hb rb => exact ⟨b, xs, rfl, .inl (.inl (.inl (w1.tup hb))), fin xs rb⟩
theorem xe_methSA {C g : Addr} {m : Str} {S : DS} {X : XK} {ta : TE} {i : Nat} (h : Xe K ta ρ M fun x M1 => Mcl C x m M1 ∧ ∃ y ds, ρ[i]? = some (some y) ∧ (y = .lst ds ∨ y = .tup ds) ∧ S (x :: ds) M1 R) : Xe K (tMethSA K C m g (spOf K S) X ta (tVar i)) ρ M R := by
  intro σ G H Q s w k
  refine h σ G H _ s w fun v x G1 M1 H1 e1 r w1 q => ?_
  obtain ⟨hm, y, ds, hy, hd, q⟩ := q
  obtain ⟨a, dx, xs, rfl, h1, h2⟩ := hm.at r w1
  refine ⟨a, dx, xs, rfl, h1, h2, fun p hp => ?_⟩
  obtain ⟨u, hu, ru⟩ := (s.up e1).at_ i _ hy
  have w2 := w1.junk (o := .met g a) hp
  have fin : ∀ vs, RpA K G1 vs ds → spOf K S (.ref a :: vs) (upd H1 p (.met g a)) Q X := fun vs rs =>
    ⟨G1, M1, x :: ds, R, .cons r rs, w2.toWd0, q, sp_back w2.bs k e1⟩
  refine ⟨u, hu, ?_⟩
  rcases hd with rfl | rfl
  · cases ru with
    | @lst b vs _ hb rb => exact ⟨b, vs, rfl, .inr (.inl (.inl (w2.lst hb))), upd_same, fin vs rb⟩
  · cases ru with
    | @tup b vs _ hb rb => exact ⟨b, vs, rfl, .inl (.inl (.inl (w2.tup hb))), upd_same, fin vs rb⟩
end
/-! ### dicts -/
def kD : Key → D
  | .inl i => .int i
  | .inr z => .str z
theorem rp_key {K : PySem.W.Frag} [Bs K] {G : Hp} (k : Key) : Rp K G (kV k) (kD k) := by
  cases k with
  | inl i => exact .int i
  | inr z => exact .str z
theorem rp_keyD {K : PySem.W.Frag} [Bs K] {G : Hp} {v : V} {k : Key} (h : Rp K G v (kD k)) : v = kV k := by
  cases k with
  | inl i => cases h; rfl
  | inr z => cases h; rfl
section
variable {κ : Type} [DecidableEq κ]
def valD (kvs : List (κ × D)) (k : κ) : Option D := (kvs.find? fun kv => decide (kv.1 = k)).map (·.2)
def putKD (kvs : List (κ × D)) (k : κ) (v : D) : List (κ × D) := if (kvs.any fun kv => decide (kv.1 = k)) = true then kvs.map (fun kv => if kv.1 = k then (kv.1, v) else kv) else kvs ++ [(k, v)]
end
section
variable {K : PySem.W.Frag} [Bs K] {G : Hp}
theorem RpK.val {k : Key} : ∀ {xs : List (Key × V)} {ds : List (Key × D)}, RpK K G xs ds → (valD ds k = none ∧ valV xs k = none) ∨ ∃ d v, valD ds k = some d ∧ valV xs k = some v ∧ Rp K G v d := by
  intro xs
  induction xs with
  | nil => intro ds h; cases h; exact .inl ⟨rfl, rfl⟩
  | cons x xs ih =>
    intro ds h
    cases h with
    | @cons k' v _ d ds h r =>
      by_cases q : k' = k
      · refine .inr ⟨d, v, ?_, ?_, h⟩
        · simp [valD, q]
        · simp [valV, q]
      · rcases ih r with ⟨h1, h2⟩ | ⟨d2, v2, h1, h2, h3⟩
        · refine .inl ⟨?_, ?_⟩
          · simpa [valD, q] using h1
          · simpa [valV, q] using h2
        · refine .inr ⟨d2, v2, ?_, ?_, h3⟩
          · simpa [valD, q] using h1
          · simpa [valV, q] using h2
theorem RpK.length : ∀ {xs : List (Key × V)} {ds : List (Key × D)}, RpK K G xs ds → xs.length = ds.length := by
  intro xs
  induction xs with
  | nil => intro ds h; cases h; rfl
  | cons x xs ih => intro ds h; cases h with | cons h r => simp [ih r]
theorem RpK.any {k : Key} : ∀ {xs : List (Key × V)} {ds : List (Key × D)}, RpK K G xs ds → (xs.any fun kv => decide (kv.1 = k)) = (ds.any fun kv => decide (kv.1 = k)) := by
  intro xs
  induction xs with
  | nil => intro ds h; cases h; rfl
  | cons x xs ih => intro ds h; cases h with | cons h r => simp [ih r]
theorem RpK.mapPut {k : Key} {v : V} {d : D} (hv : Rp K G v d) : ∀ {xs : List (Key × V)} {ds : List (Key × D)}, RpK K G xs ds → RpK K G (xs.map fun kv => if kv.1 = k then (kv.1, v) else kv) (ds.map fun kv => if kv.1 = k then (kv.1, d) else kv) := by
  intro xs
  induction xs with
  | nil => intro ds h; cases h; exact .nil
  | cons x xs ih =>
    intro ds h
    cases h with
    | @cons k' u _ e ds h r =>
      simp only [List.map_cons]
      by_cases q : k' = k
      · rw [if_pos q, if_pos q]; exact .cons hv (ih r)
      · rw [if_neg q, if_neg q]; exact .cons h (ih r)
theorem RpK.snoc {k : Key} {v : V} {d : D} (hv : Rp K G v d) : ∀ {xs : List (Key × V)} {ds : List (Key × D)}, RpK K G xs ds → RpK K G (xs ++ [(k, v)]) (ds ++ [(k, d)]) := by
  intro xs
  induction xs with
  | nil => intro ds h; cases h; exact .cons hv .nil
  | cons x xs ih => intro ds h; cases h with | cons h r => exact .cons h (ih r)
theorem RpK.put {k : Key} {v : V} {d : D} (hv : Rp K G v d) {xs : List (Key × V)} {ds : List (Key × D)} (h : RpK K G xs ds) : RpK K G (putK xs k v) (putKD ds k d) := by
  unfold putK putKD
  rw [h.any]
  split
  · exact h.mapPut hv
  · exact h.snoc hv
theorem RpK.getV {i : Nat} {k : Key} {v : V} : ∀ {xs : List (Key × V)} {ds : List (Key × D)} {i : Nat}, RpK K G xs ds → xs[i]? = some (k, v) → ∃ d, ds[i]? = some (k, d) ∧ Rp K G v d := by
  intro xs
  induction xs with
  | nil => intro ds i h e; simp at e
  | cons x xs ih =>
    intro ds i h e
    cases h with
    | cons h r =>
      cases i with
      | zero => simp at e; obtain ⟨rfl, rfl⟩ := e; exact ⟨_, rfl, h⟩
      | succ i => exact ih (i := i) r (by simpa using e)
end
section
variable {K : PySem.W.Frag} [Bs K] {ρ : Rho} {M M' : Mm} {R : RD} {nx bk ct : RS} {rt : RD} {RB : Bool → Mm → Prop}
/-- x is a dict with int and text keys that holds kvs -/
inductive DcK (M : Mm) : D → List (Key × D) → Prop
  | fr (a : Addr) (kvs : List (Key × D)) : DcK M (.dk a kvs) kvs
  | mt {a : Addr} {kvs : List (Key × D)} (h : Has M a (.dk kvs)) : DcK M (.ref a) kvs
theorem DcK.at {G H : Hp} {x : D} {v : V} {kvs : List (Key × D)} (t : DcK M x kvs) (r : Rp K G v x) (w : Wd K G M H) : ∃ a xs, v = .ref a ∧ Rd H a (.dK xs) ∧ RpK K G xs kvs := by
  cases t with
  | fr a kvs =>
    cases r with
    | dk h r => exact ⟨_, _, rfl, w.rd h, r⟩
  | mt hm =>
    cases r
    obtain ⟨_, xs, h1, h2⟩ := w.get hm
    exact ⟨_, xs, rfl, .inl h1, h2⟩
theorem xe_dget {td ty : TE} (h : Xe K td ρ M fun x M1 => Xe K ty ρ M1 fun y M2 => ∃ kvs k d, DcK M2 x kvs ∧ y = kD k ∧ valD kvs k = some d ∧ R d M2) : Xe K (tDGet td ty) ρ M R := by
  intro σ G H Q s w k
  refine h σ G H _ s w fun v x G1 M1 H1 e1 r1 w1 q => ?_
  refine q σ G1 H1 _ (s.up e1) w1 fun u y G2 M2 H2 e2 r2 w2 q2 => ?_
  obtain ⟨kvs, ky, d, t, rfl, hv, q2⟩ := q2
  obtain ⟨a, xs, rfl, hd, rk⟩ := t.at (r1.up e2) w2
  have e := rp_keyD r2
  subst e
  rcases rk.val (k := ky) with ⟨h1, _⟩ | ⟨d2, v2, h1, h2, h3⟩
  · rw [h1] at hv; cases hv
  · have ed : d2 = d := Option.some.inj (h1.symm.trans hv)
    subst ed
    exact ⟨a, v2, rfl, .inl ⟨xs, ky, hd, rfl, h2.symm⟩, k v2 _ G2 M2 H2 (e1.trans e2) h3 w2 q2⟩
theorem val_some {G : Hp} {xs : List (Key × V)} {ds : List (Key × D)} {k : Key} (rk : RpK K G xs ds) : (valV xs k).isSome = (valD ds k).isSome := by
  rcases rk.val (k := k) with ⟨h1, h2⟩ | ⟨d2, v2, h1, h2, h3⟩ <;> rw [h1, h2] <;> rfl
theorem xe_din {td ty : TE} (h : Xe K ty ρ M fun y M1 => Xe K td ρ M1 fun x M2 => ∃ kvs k, DcK M2 x kvs ∧ y = kD k ∧ R (.bl (valD kvs k).isSome) M2) : Xe K (tDIn ty td) ρ M R := by
  intro σ G H Q s w k
  refine h σ G H _ s w fun v y G1 M1 H1 e1 r1 w1 q => ?_
  refine q σ G1 H1 _ (s.up e1) w1 fun u x G2 M2 H2 e2 r2 w2 q2 => ?_
  obtain ⟨kvs, ky, t, rfl, q2⟩ := q2
  obtain ⟨a, xs, rfl, hd, rk⟩ := t.at r2 w2
  have e := rp_keyD r1
  subst e
  refine ⟨a, valV xs ky, rfl, .inl ⟨xs, ky, hd, rfl, rfl⟩, ?_⟩
  rw [val_some rk]
  exact k _ _ G2 M2 H2 (e1.trans e2) (.bl _) w2 q2
theorem xe_dnotin {td ty : TE} (h : Xe K ty ρ M fun y M1 => Xe K td ρ M1 fun x M2 => ∃ kvs k, DcK M2 x kvs ∧ y = kD k ∧ R (.bl (!(valD kvs k).isSome)) M2) : Xe K (tDNotIn ty td) ρ M R := by
  intro σ G H Q s w k
  refine h σ G H _ s w fun v y G1 M1 H1 e1 r1 w1 q => ?_
  refine q σ G1 H1 _ (s.up e1) w1 fun u x G2 M2 H2 e2 r2 w2 q2 => ?_
  obtain ⟨kvs, ky, t, rfl, q2⟩ := q2
  obtain ⟨a, xs, rfl, hd, rk⟩ := t.at r2 w2
  have e := rp_keyD r1
  subst e
  refine ⟨a, valV xs ky, rfl, .inl ⟨xs, ky, hd, rfl, rfl⟩, ?_⟩
  rw [val_some rk]
  exact k _ _ G2 M2 H2 (e1.trans e2) (.bl _) w2 q2
theorem ys_dput {td ty tv : TE} (h : Xe K tv ρ M fun v M1 => Xe K td ρ M1 fun x M2 => Xe K ty ρ M2 fun y M3 => ∃ a kvs k M4, x = .ref a ∧ y = kD k ∧ Has M3 a (.dk kvs) ∧ kvs.length < 16000000 ∧ Put M3 a (.dk (putKD kvs k v)) M4 ∧ nx ρ M4) : Xs K (sDPut td ty tv) ⟨nx, rt, bk, ct⟩ ρ M := by
  intro σ G H D s w k
  refine h σ G H _ s w fun v d G1 M1 H1 e1 r1 w1 q => ?_
  refine q σ G1 H1 _ (s.up e1) w1 fun u x G2 M2 H2 e2 r2 w2 q2 => ?_
  refine q2 σ G2 H2 _ (s.up (e1.trans e2)) w2 fun z y G3 M3 H3 e3 r3 w3 q3 => ?_
  obtain ⟨a, kvs, ky, M4, rfl, rfl, hm, hl, hp, q3⟩ := q3
  cases r2
  have e := rp_keyD r3
  subst e
  obtain ⟨g0, xs, h1, rk⟩ := w3.get hm
  refine ⟨a, _, rfl, .inl ⟨xs, ky, h1, rfl, ?_, rfl⟩, ?_⟩
  · rw [rk.length]; exact Nat.lt_of_lt_of_le hl (by decide)
  · exact k.nx σ G3 _ ρ M4 ((e1.trans e2).trans e3) (s.up ((e1.trans e2).trans e3)) (w3.put hp g0 ⟨g0, _, upd_same, rk.put (r1.up (e2.trans e3))⟩) q3
end
end XD

/-! XD10: dicts that are walked (locks), dict comprehensions, what is frozen on the way. -/
namespace XD
open PySem L2
section
variable {K : PySem.W.Frag} [Bs K] {G H : Hp} {M M' : Mm}
theorem Wd.unlockC {a : Addr} {o : HO} {od : Obj} (w : Wd K G M H) (h : Cut M a (.lck od) M') (hg : G a = some o) : H a = some (.frz od o) ∧ Wd K G M' (upd H a o) := by
  obtain ⟨o', h1, h2, h3⟩ := w.mo _ h.mem
  rw [hg] at h2
  cases h2
  refine ⟨h3, ⟨fun b u e => ?_, fun q hq => ?_, (h.sub.map _).nodup w.nd, w.nt⟩, w.bs⟩
  · by_cases z : b = a
    · subst z
      rw [hg] at e
      cases e
      exact .inl upd_same
    · rw [upd_ne z]
      exact orKeep (w.ex b u e) fun _ _ y => h.keep _ y z
  · have hne := h.ne w.nd q hq
    have q2 := w.mo q (h.sub.mem hq)
    exact q2.up (Ex.refl G) (upd_ne hne) q2.gnone
/-- a dict of the frozen part, told of what the slots and things hold -/
def KnK (K : PySem.W.Frag) [Bs K] (ρ : Rho) (M : Mm) (a : Addr) (kvs : List (Key × D)) : Prop := ∀ (σ : L2.St) (G H : Hp), RpS K G σ ρ → Wd K G M H → ∃ xs, G a = some (.dK xs) ∧ RpK K G xs kvs
theorem kn_var {ρ : Rho} {i : Nat} {a : Addr} {kvs : List (Key × D)} (h : ρ[i]? = some (some (.dk a kvs))) : KnK K ρ M a kvs := by
  intro σ G H s w
  obtain ⟨v, h1, h2⟩ := s.at_ i _ h
  cases h2 with
  | dk h r => exact ⟨_, h, r⟩
theorem kn_fld {ρ : Rho} {i : Nat} {C a : Addr} {f : Str} {fs : List (Str × D)} {kvs : List (Key × D)} (h : ρ[i]? = some (some (.ins C fs))) (l : fs.lookup f = some (.dk a kvs)) : KnK K ρ M a kvs := by
  intro σ G H s w
  obtain ⟨v, h1, h2⟩ := s.at_ i _ h
  cases h2 with
  | ins h r =>
    obtain ⟨u, h3, h4⟩ := r.lookup l
    cases h4 with
    | dk h r => exact ⟨_, h, r⟩
theorem kn_fldM {ρ : Rho} {C a s0 : Addr} {f : Str} {fs : List (Str × D)} {kvs : List (Key × D)} (h : Has M s0 (.ins C fs)) (l : fs.lookup f = some (.dk a kvs)) : KnK K ρ M a kvs := by
  intro σ G H s w
  obtain ⟨_, dx, xs, h1, r⟩ := w.get h
  obtain ⟨u, h3, h4⟩ := r.lookup l
  cases h4 with
  | dk h r => exact ⟨_, h, r⟩
theorem nin_of {a : Addr} {o : HO} (w : Wd K G M H) (hg : G a = some o) (n : ∀ od, (a, MO.lck od) ∉ M) : a ∉ M.map (·.1) := by
  intro h
  obtain ⟨p, hp, e⟩ := List.mem_map.mp h
  obtain ⟨b, m⟩ := p
  cases e
  cases hl : isLck m with
  | false =>
    have := (w.mo _ hp).gnone hl
    rw [hg] at this
    cases this
  | true =>
    cases m with
    | lck od => exact n od hp
    | tab q =>
      obtain ⟨ps, h1, _⟩ := w.mo _ hp
      rcases w.ex b o hg with e | ⟨_, od, e, _⟩
      · rw [show H b = _ from h1] at e
        cases e
        exact w.nt b ps hg
      · rw [show H b = _ from h1] at e
        cases e
    | _ => cases hl
end
section
variable {K : PySem.W.Frag} [Bs K] {ρ : Rho} {M M' : Mm} {R : RD} {nx bk ct : RS} {rt : RD} {t : TS} {te : TE}
theorem ys_lock {a : Addr} {kvs : List (Key × D)} (hk : KnK K ρ M a kvs) (hn : ∀ od, (a, MO.lck od) ∉ M)
    (h : ∀ od, Xs K t ⟨fun ρ' M' => ∃ M'', Cut M' a (.lck od) M'' ∧ nx ρ' M'', fun d M' => ∃ M'', Cut M' a (.lck od) M'' ∧ rt d M'', fun ρ' M' => ∃ M'', Cut M' a (.lck od) M'' ∧ bk ρ' M'', fun ρ' M' => ∃ M'', Cut M' a (.lck od) M'' ∧ ct ρ' M''⟩ ρ ((a, .lck od) :: M)) :
    Xs K (tLock t) ⟨nx, rt, bk, ct⟩ ρ M := by
  intro σ G H D s w k
  obtain ⟨xs, hg, rk⟩ := hk σ G H s w
  refine ⟨a, .dK xs, w.free hg hn, trivial, fun od => ?_⟩
  have w2 := w.lock (o := .dK xs) trivial hg (nin_of w hg hn) od
  have lift : ∀ {E : RS} {Dn : L2.St → Hp → Prop}, SK K G E Dn → SK K G (fun ρ' M' => ∃ M'', Cut M' a (.lck od) M'' ∧ E ρ' M'') (fun σ' H' => H' a = some (.frz od (.dK xs)) ∧ Dn σ' (upd H' a (.dK xs))) := by
    intro E Dn kk σ' G' H' ρ' M' e s' w' q
    obtain ⟨M'', hc, q⟩ := q
    obtain ⟨h1, w3⟩ := w'.unlockC hc (e _ _ hg)
    exact ⟨h1, kk σ' G' _ ρ' M'' e s' w3 q⟩
  refine h od σ G _ _ s w2 ⟨lift k.nx, ?_, lift k.bk, lift k.ct⟩
  intro v d G' M' H' e r w' q
  obtain ⟨M'', hc, q⟩ := q
  obtain ⟨h1, w3⟩ := w'.unlockC hc (e _ _ hg)
  exact ⟨h1, k.rt v d G' M'' _ e r w3 q⟩
theorem xe_lock {a : Addr} {kvs : List (Key × D)} (hk : KnK K ρ M a kvs) (hn : ∀ od, (a, MO.lck od) ∉ M) (h : ∀ od, Xe K te ρ ((a, .lck od) :: M) fun d M' => ∃ M'', Cut M' a (.lck od) M'' ∧ R d M'') : Xe K (tLockE te) ρ M R := by
  intro σ G H Q s w k
  obtain ⟨xs, hg, rk⟩ := hk σ G H s w
  refine ⟨a, .dK xs, w.free hg hn, trivial, fun od => ?_⟩
  have w2 := w.lock (o := .dK xs) trivial hg (nin_of w hg hn) od
  refine h od σ G _ _ s w2 fun v d G' M' H' e r w' q => ?_
  obtain ⟨M'', hc, q⟩ := q
  obtain ⟨h1, w3⟩ := w'.unlockC hc (e _ _ hg)
  exact ⟨h1, k v d G' M'' _ e r w3 q⟩
theorem lck_at {G H : Hp} {a : Addr} {od : Obj} {o : HO} (w : Wd K G M H) (hm : Has M a (.lck od)) (hg : G a = some o) : H a = some (.frz od o) := by
  obtain ⟨o', h1, h2, h3⟩ := w.get hm
  rw [hg] at h2
  cases h2
  exact h3
theorem xi_keys {td : TE} {RI : Nat → (Nat → D → Prop) → (Mm → Prop) → Mm → Prop} (h : Xe K td ρ M fun d M1 => ∃ a kvs od, d = .dk a kvs ∧ Has M1 a (.lck od) ∧ RI kvs.length (fun i x => ∃ k v, kvs[i]? = some (k, v) ∧ x = kD k) (fun M => Has M a (.lck od)) M1) : Xi K (iKeys td) ρ M RI := by
  intro σ G H Q s w k
  refine h σ G H _ s w fun v d G1 M1 H1 e1 r w1 q => ?_
  obtain ⟨a, kvs, od, rfl, hm, q⟩ := q
  cases r with
  | @dk a xs _ hg rk =>
    refine ⟨a, od, rfl, .inl ⟨xs, lck_at w1 hm hg, k _ _ _ _ G1 M1 H1 e1 w1 ⟨fun i G M H hi e w hm => ?_, fun G M H e w hm => ?_, fun i G M H x H' hi e w hm y => ?_⟩ q⟩⟩
    · exact ⟨lck_at w hm (e _ _ hg), by rw [rk.length]; exact hi⟩
    · exact ⟨lck_at w hm (e _ _ hg), by rw [rk.length]; exact Nat.le_refl _⟩
    · obtain ⟨rfl, ky, v, h1, rfl⟩ := y
      obtain ⟨d, h2, h3⟩ := rk.getV (k := ky) (v := v) (i := i) h1
      exact ⟨G, kD ky, Ex.refl G, w, rp_key ky, ky, d, h2, rfl⟩
theorem xi_items {td : TE} {RI : Nat → (Nat → D → Prop) → (Mm → Prop) → Mm → Prop} (h : Xe K td ρ M fun d M1 => ∃ a kvs od, d = .dk a kvs ∧ Has M1 a (.lck od) ∧ RI kvs.length (fun i x => ∃ k v, kvs[i]? = some (k, v) ∧ x = .tup [kD k, v]) (fun M => Has M a (.lck od)) M1) : Xi K (iItems td) ρ M RI := by
  intro σ G H Q s w k
  refine h σ G H _ s w fun v d G1 M1 H1 e1 r w1 q => ?_
  obtain ⟨a, kvs, od, rfl, hm, q⟩ := q
  cases r with
  | @dk a xs _ hg rk =>
    refine ⟨a, od, xs, rfl, lck_at w1 hm hg, k _ _ _ _ G1 M1 H1 e1 w1 ⟨fun i G M H hi e w hm => ?_, fun G M H e w hm => ?_, fun i G M H x H' hi e w hm y => ?_⟩ q⟩
    · exact ⟨lck_at w hm (e _ _ hg), by rw [rk.length]; exact hi⟩
    · exact ⟨lck_at w hm (e _ _ hg), by rw [rk.length]; exact Nat.le_refl _⟩
    · obtain ⟨T, ky, v, h1, rfl, hT, rfl⟩ := y
      obtain ⟨d, h2, h3⟩ := rk.getV (k := ky) (v := v) (i := i) h1
      obtain ⟨G', e', r', w'⟩ := w.newT hT (.cons (rp_key ky) (.cons (h3.up e) .nil))
      exact ⟨G', _, e', w', r', ky, d, h2, rfl⟩
/-- {k: v for g in w if t} -/
theorem xe_dc {wi : TI} {g : TG} {tt : TT} {tk tv : TE} {vs : List Nat} (h : Xi K wi ρ M fun n it lk M1 => lk M1 ∧ (∀ p m, lk ((p, m) :: M1)) ∧ n ≤ 16000000 ∧ ∃ P : Nat → List (Key × D) → Prop, P 0 [] ∧
    (∀ i d ys p, i < n → it i d → P i ys → Xg K vs g d (wipeD ρ vs) ((p, .dk ys) :: M1) fun ρ2 M2 => M2 = (p, .dk ys) :: M1 ∧
      Xt K tt ρ2 ((p, .dk ys) :: M1) fun b M3 => M3 = (p, .dk ys) :: M1 ∧ (b = true → Xe K tk ρ2 ((p, .dk ys) :: M1) fun y M4 => M4 = (p, .dk ys) :: M1 ∧ Xe K tv ρ2 ((p, .dk ys) :: M1) fun z M5 => M5 = (p, .dk ys) :: M1 ∧ ys.length < 16000000 ∧
        ∃ k, y = kD k ∧ P (i + 1) (putKD ys k z)) ∧ (b = false → P (i + 1) ys)) ∧
    (∀ ys p, P n ys → (∀ od, (p, MO.lck od) ∉ M1) → R (.dk p ys) M1)) : Xe K (tDc wi g tt tk tv vs) ρ M R := by
  intro σ G H Q s w k
  refine h σ G H _ s w fun J n it lk G1 M1 H1 e1 w1 wk q => ?_
  obtain ⟨lk1, lk2, hn, P, p0, hs, hd⟩ := q
  intro Dl hD
  have hnl : ∀ od, (Dl, MO.lck od) ∉ M1 := fun od z => w1.nin hD (List.mem_map_of_mem (f := (·.1)) z)
  refine ⟨fun i m H => m = n - i ∧ i ≤ n ∧ ∃ G ys, Ex G1 G ∧ P i ys ∧ Wd K G ((Dl, .dk ys) :: M1) H, ⟨n, by simp, Nat.zero_le _, G1, [], Ex.refl _, p0, w1.newM hD ⟨w1.gfree hD, [], upd_same, .nil⟩⟩, ?_⟩
  rintro i m H' ⟨rfl, hi, G2, ys, e2, p2, w2⟩
  by_cases hlt : i < n
  · refine .inr ⟨wk.goes i G2 _ H' hlt e2 w2 (lk2 _ _), fun H => ∃ G ys, Ex G1 G ∧ P (i + 1) ys ∧ Wd K G ((Dl, .dk ys) :: M1) H, fun H3 c => ⟨n - (i + 1), by omega, rfl, hlt, c⟩, fun x H3 y => ?_⟩
    obtain ⟨G3, d, e3, w3, r3, hit⟩ := wk.yields i G2 _ H' x H3 hlt e2 w2 (lk2 _ _) y
    refine hs i d ys Dl hlt hit p2 x _ G3 H3 _ ((s.up ((e1.trans e2).trans e3)).wipe vs) w3 r3 fun σ4 G4 ρ4 M4 H4 e4 s4 w4 a4 q => ?_
    obtain ⟨rfl, q⟩ := q
    refine ⟨wipe_agr a4, ?_⟩
    refine q σ4 G4 H4 _ s4 w4 fun b G5 M5 H5 e5 w5 q5 => ?_
    obtain ⟨rfl, q5, q6⟩ := q5
    cases b with
    | true =>
      rw [if_pos rfl]
      refine q5 rfl σ4 G5 H5 _ (s4.up e5) w5 fun v z G6 M6 H6 e6 r6 w6 q7 => ?_
      obtain ⟨rfl, q7⟩ := q7
      refine q7 σ4 G6 H6 _ ((s4.up e5).up e6) w6 fun v2 z2 G7 M7 H7 e7 r7 w7 q8 => ?_
      obtain ⟨rfl, hl, ky, rfl, q8⟩ := q8
      obtain ⟨g0, xs, h1, h2⟩ := w7.get .head
      have ek := rp_keyD r6
      subst ek
      refine ⟨xs, ky, rfl, h1, ?_, G7, putKD ys ky z2, ((((e2.trans e3).trans e4).trans e5).trans e6).trans e7, q8, ?_⟩
      · rw [h2.length]
        exact Nat.lt_of_lt_of_le hl (by decide)
      · exact w7.put .head g0 ⟨g0, _, upd_same, h2.put r7⟩
    | false =>
      rw [if_neg Bool.false_ne_true]
      exact ⟨G5, ys, (((e2.trans e3).trans e4).trans e5), q6 rfl, w5⟩
  · have e : i = n := by omega
    subst e
    refine .inl ⟨wk.stops G2 _ H' e2 w2 (lk2 _ _), ?_⟩
    obtain ⟨_, xs, h1, h2⟩ := w2.get .head
    obtain ⟨e3, w3⟩ := w2.cut .head rfl h1
    exact k (.ref Dl) (.dk Dl ys) _ M1 H' ((e1.trans e2).trans e3) (.dk upd_same (h2.up e3)) w3 (hd ys Dl p2 hnl)
/-! ### a dict that was written is frozen; the instance that holds it says so -/
inductive SubFl (a : Addr) (e : D) : List (Str × D) → List (Str × D) → Prop
  | nil : SubFl a e [] []
  | same {f : Str} {x : D} {r r' : List (Str × D)} (h : SubFl a e r r') : SubFl a e ((f, x) :: r) ((f, x) :: r')
  | sub {f : Str} {r r' : List (Str × D)} (h : SubFl a e r r') : SubFl a e ((f, .ref a) :: r) ((f, e) :: r')
theorem RpF.subFl {G : Hp} {a : Addr} {e : D} (hr : Rp K G (.ref a) e) : ∀ {xs : List (Str × V)} {fs fs' : List (Str × D)}, RpF K G xs fs → SubFl a e fs fs' → RpF K G xs fs' := by
  intro xs
  induction xs with
  | nil => intro fs fs' h q; cases h; cases q; exact .nil
  | cons x xs ih =>
    intro fs fs' h q
    cases h with
    | cons h r =>
      cases q with
      | same q => exact .cons h (ih r q)
      | sub q => cases h; exact .cons hr (ih r q)
theorem ys_frzK {a s0 C : Addr} {kvs : List (Key × D)} {fs fs' : List (Str × D)} {M1 M2 : Mm} (hc : Cut M a (.dk kvs) M1) (hm : Has M1 s0 (.ins C fs)) (hf : SubFl a (.dk a kvs) fs fs') (hp : Put M1 s0 (.ins C fs') M2)
    (h : (∀ od, (a, MO.lck od) ∉ M2) → Xs K t ⟨nx, rt, bk, ct⟩ ρ M2) : Xs K t ⟨nx, rt, bk, ct⟩ ρ M := by
  intro σ G H D s w k
  obtain ⟨_, xs, h1, h2⟩ := w.mo _ hc.mem
  obtain ⟨e, w'⟩ := w.cut hc rfl h1
  have hr : Rp K (upd G a (.dK xs)) (.ref a) (.dk a kvs) := .dk upd_same (h2.up e)
  obtain ⟨g0, dx, ys, h3, rf⟩ := w'.get hm
  have w2 : Wd K (upd G a (.dK xs)) M2 H := by
    refine ⟨⟨fun b u eb => orKeep (w'.ex b u eb) fun od _ y => hp.keep (b, .lck od) y fun z => (by have z : b = s0 := z; rw [z, g0] at eb; cases eb), fun q hq => ?_, hp.keys ▸ w'.nd, w'.nt⟩, w'.bs⟩
    rcases hp.all w'.nd q hq with eq | ⟨eq, ne⟩
    · subst eq
      exact ⟨g0, dx, ys, h3, rf.subFl hr hf⟩
    · exact w'.mo q eq
  have hn : ∀ od, (a, MO.lck od) ∉ M2 := fun od z => by
    have hk : a ∈ M1.map (·.1) := by rw [← hp.keys]; exact List.mem_map_of_mem (f := (·.1)) z
    obtain ⟨p, hp1, hp2⟩ := List.mem_map.mp hk
    exact hc.ne w.nd p hp1 hp2
  exact h hn σ _ H D (s.up e) w2 (k.up e)
end
end XD

/-! XD11: static methods, constants of classes, two-for comprehensions, own operators. -/
namespace XD
open PySem L2
/-! ### own comparisons -/
def rOwnC (C : Addr) (sp : Sp) (E : XK) : R2 := fun x y H Q => ∃ a dx xs b dy ys, x = .ref a ∧ y = .ref b ∧ H a = some (.ins C dx xs) ∧ H b = some (.ins C dy ys) ∧ sp [x, y] H Q E
theorem ins_at {X : Cx} {pins : List (Addr × Obj)} {σ : L2.St} {H : Hp} {s : Shared} {a C dx : Addr} {fs : List (Str × V)} (I : Inv X pins σ H s) (h : H a = some (.ins C dx fs)) : ∃ od, PySem.W.InstAt s.heap a (PySem.W.instObj C dx) C (some od) := by
  obtain ⟨mA, O, _⟩ := ins_get I.hok h
  obtain ⟨od, J, _⟩ := O.look
  exact ⟨od, J⟩
theorem notFirst_self {K : PySem.W.Frag} [Bs K] {C : Addr} : PySem.W.notFirst K C (.ref C) = true := by
  unfold PySem.W.notFirst
  simp
theorem op_ownC {X : Cx} {CX : CXT} {n : Nat} {C g : Addr} {sp : Sp} {E : XK} {op : CmpOp} (hop : ∀ a b, compareOp op a b = richCompare op a b) (hs : PySem.W.findIn X.K (.ref C) (cmpInfo op).2.1 = some (some (.ref g))) (hf : PySem.W.isFn X.K (.ref g) = true)
    (F : FnR X.prog X.w X.K X.mg X.base CX n g sp) (hr : Room n X.A) (hx : Passes CX X E) : OpR X (compareOp op) (rOwnC C sp E) := by
  intro pins s σ H x y v u Q I rx ry h
  obtain ⟨a, dx, xs, b, dy, ys, rfl, rfl, ha, hb, q⟩ := h
  cases (show v = Value.ref a from rx)
  cases (show u = Value.ref b from ry)
  obtain ⟨od, J⟩ := ins_at I ha
  obtain ⟨od', J'⟩ := ins_at I hb
  obtain ⟨m, hF⟩ := I.fr
  rw [hop]
  refine PySem.W.cmp_K (op := op) (tb := .ref C) hr.units0 hF I.ok.mod.kin J J'.type notFirst_self hs hf ?_
  refine wpAny_mono (wpAny_call (run_fnR (us := [.ref a, .ref b]) (vs := [.ref a, .ref b]) F hr hx I (.cons rfl (.cons rfl .nil)) q)) (fun w s' z => ?_) fun _ _ x => x
  obtain ⟨z', H', I', rz, qz⟩ := z
  exact SlX.cmpback rz ⟨z', H', I', rz, qz⟩
/-! ### static methods -/
structure SM (K : PySem.W.Frag) (mg : Str → Option Value) (x m qual : Str) (st : Stmt) (ps : List Str) : Prop where
  ex : ∃ f fd mc p rest, Fun K m qual st f fd ∧ ClX.CRead K (clsA mg x) mc ∧ PySem.W.findCls K (.ref (clsA mg x)) mc m = some (.get (.builtin "staticmethod.__get__") (.ref p) .none (.ref (clsA mg x))) ∧
    PySem.W.recIn K p "staticmethod" = some (.ref f :: rest) ∧ PySem.W.keepIn K (.ref f) = true ∧ Binds K fd ps []
structure GSm (P : Program) (w : World) (K : PySem.W.Frag) (mg : Str → Option Value) (base : Heap) (k : Nat) (x m : Str) (ps : List Str) (S : DS) : Prop where
  ex : ∃ f fd mc p rest, FnOk P w K mg base CX0 k f fd ps (spOf K S) ∧ ClX.CRead K (clsA mg x) mc ∧ PySem.W.findCls K (.ref (clsA mg x)) mc m = some (.get (.builtin "staticmethod.__get__") (.ref p) .none (.ref (clsA mg x))) ∧
    PySem.W.recIn K p "staticmethod" = some (.ref f :: rest) ∧ PySem.W.keepIn K (.ref f) = true ∧ Binds K fd ps []
theorem sm_ok {P : Program} {w : World} {K : PySem.W.Frag} {mg : Str → Option Value} {base : Heap} {x m qual : Str} {st : Stmt} {N ps : List Str} {k : Nat} {S : DS} (T : SM K mg x m qual st ps) (Sc : FnScope N ps (defScope st)) (len : ∀ ds M R, S ds M R → ds.length = ps.length)
    (hbody : ∀ (f : Addr) (cdv : Value) (A : Around) (outer : List Env) (s : Shared) (H : Hp) (E : XK), Room k (A.deeper (PyProof.Rows.envOfC qual (defScope st) s.heap.objs.size f cdv)) →
      ∃ t, PSs (cxOf CX0 P w K mg base N qual (defScope st) f cdv A outer s H E).nox (defBody st) t ∧ ∀ ds M R, S ds M R → Xs0 K t { nx := fun _ M' => R .non M', rt := R } (startD N ds) M) : GSm P w K mg base (k + 1) x m ps S := by
  obtain ⟨f, fd, mc, p, rest, F, h⟩ := T.ex
  exact ⟨f, fd, mc, p, rest, fn_ok F Sc len (hbody f), h⟩
theorem pe_smK {X : Cx} {K : PySem.W.Frag} [Bs K] {mg : Str → Option Value} {k : Nat} {x m : Str} {ps : List Str} {S : DS} {e : Expr} {es : List Expr} {t : TA} {p0 apos pos : Pos} {pl : Sem Bool} (c : CK K mg x) (Gm : GSm X.prog X.w K mg X.base k x m ps S) (hr : Room k X.A) (ha : PA X (e :: es) t) (h : X.K = K := by rfl) (hmg : X.mg = mg := by rfl) (hg : Gl X x := by rfl) (hdb : (x == ("__debug__" : Str)) = false := by decide)
    (hst : starEach (e :: es) X.env = (false, eval e X.env) :: starEach es X.env := by rfl) (hpl : (backTo pos (starEach es X.env)).any (·.1) = false := by rfl)
    (ht : eval (.Call (.Attribute (.Name x p0) m apos) (e :: es) [] pos) X.env = (do let ov ← eval (.Name x p0) X.env; standAt apos.atName; let (f, first) ← holding [ov] (getMethod ov m pl); callWith pos f first (backTo pos (starEach (e :: es) X.env)) (backToKw pos (keywordEach [] X.env))) := by rfl) :
    PE X (.Call (.Attribute (.Name x p0) m apos) (e :: es) [] pos) (tCall (spOf K S) [] E0 t) := by
  subst h
  subst hmg
  obtain ⟨f, fd, mc, p, rest, h1, rd, at_, rc, kp, bd⟩ := Gm.ex
  have he : PE X (.Name x p0) (tC (.ref (clsA X.mg x))) := pe_glob hg c.at_ rfl hdb
  refine ⟨fun pins s σ H Q I hq => ?_⟩
  refine PySem.W.methodCall_KW (pl := pl) (thn (he.run pins s σ H (fun v H' => v = .ref (clsA X.mg x) ∧ t σ H' fun vs H1 => spOf X.K S (vs ++ []) H1 Q E0) I ⟨rfl, hq⟩) fun u s1 hz => ?_) ht
  obtain ⟨v, H1, I1, rv, rfl, q⟩ := hz
  cases (show u = Value.ref (clsA X.mg x) from rv)
  refine PySem.W.method_cls I1.kIn rd.ga ?_
  refine PySem.W.cls_bind I1.kIn rd.rd at_ ?_
  refine wpAny_call (PySem.W.sm_get (s := { s1 with toks := s1.toks + 1 }) I1.kIn rc (PySem.W.handed_on rfl ?_))
  have I2 : Inv X pins σ H1 { s1 with toks := s1.toks + 1 } := I1.tok (s1.toks + 1)
  refine PySem.W.callWith_K (h₀ := X.base) I.ok.mod.kin kp (thn (ha.run pos pins _ σ H1 _ I2 q) fun us s3 hy => ?_) hst hpl
  obtain ⟨vs, H3, I3, r, q3⟩ := hy
  exact ⟨I3.kIn, run_fn h1 hr bd .nil pass0 I3 r q3⟩
/-! ### constants of classes -/
structure CC (K : PySem.W.Frag) (mg : Str → Option Value) (x f : Str) (v : V) : Prop where
  ex : ∃ mc u, ClX.CRead K (clsA mg x) mc ∧ ClX.CVal K (clsA mg x) mc f v u
theorem pe_cc {X : Cx} {K : PySem.W.Frag} [Bs K] {mg : Str → Option Value} {x f : Str} {v : V} {p0 pos : Pos} (c : CK K mg x) (cc : CC K mg x f v) (h : X.K = K := by rfl) (hmg : X.mg = mg := by rfl) (hg : Gl X x := by rfl) (hdb : (x == ("__debug__" : Str)) = false := by decide)
    (hb : attributeBase (.Name x p0) f X.env (eval (.Name x p0) X.env) = eval (.Name x p0) X.env := by rfl) : PE X (.Attribute (.Name x p0) f pos) (tC v) := by
  subst h
  subst hmg
  obtain ⟨mc, u, r, k⟩ := cc.ex
  have he : PE X (.Name x p0) (tC (.ref (clsA X.mg x))) := pe_glob hg c.at_ rfl hdb
  refine ⟨fun pins s σ H Q I hq => ?_⟩
  refine attr_of hb (thn (he.run pins s σ H (fun v' H' => v' = .ref (clsA X.mg x) ∧ Q v H') I ⟨rfl, hq⟩) fun u1 s1 hz => ?_)
  obtain ⟨v1, H1, I1, rv, rfl, q⟩ := hz
  cases (show u1 = Value.ref (clsA X.mg x) from rv)
  exact ClX.getcval_ok I1 r k fun s2 I2 => ⟨v, H1, I2, k.rel, q⟩
theorem pe_mkK {X : Cx} {K : PySem.W.Frag} [Bs K] {mg : Str → Option Value} {k : Nat} {x : Str} {ps : List Str} {S : DS} {e : Expr} {es : List Expr} {t : TA} {p pos : Pos} (c : CK K mg x) (Gm : GMt X.prog X.w K mg X.base k x "__init__" ps S) (hr : Room (k + 1) X.A) (ha : PA X (e :: es) t) (h : X.K = K := by rfl) (hmg : X.mg = mg := by rfl) (hg : Gl X x := by rfl)
    (hdb : (x == ("__debug__" : Str)) = false := by decide) (he : starEach (e :: es) X.env = (false, eval e X.env) :: starEach es X.env := by rfl) (hpl : (backTo pos (starEach es X.env)).any (·.1) = false := by rfl) :
    PE X (.Call (.Name x p) (e :: es) [] pos) (tMake (clsA mg x) (spOf K S) [] E0 t) := by
  subst h
  subst hmg
  obtain ⟨f, fd, h1, h2, h3⟩ := Gm.ex
  exact pe_make (mkOf c h2) h1 hr hg c.at_ h3 .nil pass0 ha hdb he hpl
section
variable {K : PySem.W.Frag} [Bs K] {ρ : Rho} {M M' : Mm} {R : RD}
/-- [e for g in w if t for g1 in w1 if t1] -/
theorem xe_lc2 {wi wi1 : TI} {g g1 : TG} {tt tt1 : TT} {te : TE} {vs vs1 : List Nat} (h : Xi K wi ρ M fun n it lk M1 => lk M1 ∧ (∀ p m, lk ((p, m) :: M1)) ∧ ∃ P : Nat → List D → Prop, P 0 [] ∧
    (∀ i d ys p, i < n → it i d → P i ys → Xg K vs g d (wipeD ρ vs) ((p, .lst ys) :: M1) fun ρ2 M2 => M2 = (p, .lst ys) :: M1 ∧
      Xt K tt ρ2 ((p, .lst ys) :: M1) fun b M3 => M3 = (p, .lst ys) :: M1 ∧ (b = false → P (i + 1) ys) ∧ (b = true → Xi K wi1 ρ2 ((p, .lst ys) :: M1) fun n1 it1 lk1 M4 => M4 = (p, .lst ys) :: M1 ∧ (∀ zs, lk1 ((p, .lst zs) :: M1)) ∧
        ∃ P1 : Nat → List D → Prop, P1 0 ys ∧ (∀ j e zs, j < n1 → it1 j e → P1 j zs → Xg K vs1 g1 e (wipeD ρ2 vs1) ((p, .lst zs) :: M1) fun ρ3 M5 => M5 = (p, .lst zs) :: M1 ∧
          Xt K tt1 ρ3 ((p, .lst zs) :: M1) fun b M6 => M6 = (p, .lst zs) :: M1 ∧ (b = false → P1 (j + 1) zs) ∧ (b = true → Xe K te ρ3 ((p, .lst zs) :: M1) fun y M7 => M7 = (p, .lst zs) :: M1 ∧ zs.length < 16000000 ∧ P1 (j + 1) (zs ++ [y]))) ∧
        ∀ zs, P1 n1 zs → P (i + 1) zs)) ∧
    (∀ ys, P n ys → R (.lst ys) M1)) : Xe K (tLc2 wi g tt wi1 g1 tt1 te vs vs1) ρ M R := by
  intro σ G H Q s w k
  refine h σ G H _ s w fun J n it lk G1 M1 H1 e1 w1 wk q => ?_
  obtain ⟨lk1, lk2, P, p0, hs, hd⟩ := q
  intro Dl hD
  refine ⟨fun i m H => m = n - i ∧ i ≤ n ∧ ∃ G ys, Ex G1 G ∧ P i ys ∧ Wd K G ((Dl, .lst ys) :: M1) H, ⟨n, by simp, Nat.zero_le _, G1, [], Ex.refl _, p0, w1.newM hD ⟨w1.gfree hD, [], upd_same, .nil⟩⟩, ?_⟩
  rintro i m H' ⟨rfl, hi, G2, ys, e2, p2, w2⟩
  by_cases hlt : i < n
  · refine .inr ⟨wk.goes i G2 _ H' hlt e2 w2 (lk2 _ _), fun H => ∃ G ys, Ex G1 G ∧ P (i + 1) ys ∧ Wd K G ((Dl, .lst ys) :: M1) H, fun H3 c => ⟨n - (i + 1), by omega, rfl, hlt, c⟩, fun x H3 y => ?_⟩
    obtain ⟨G3, d, e3, w3, r3, hit⟩ := wk.yields i G2 _ H' x H3 hlt e2 w2 (lk2 _ _) y
    refine hs i d ys Dl hlt hit p2 x _ G3 H3 _ ((s.up ((e1.trans e2).trans e3)).wipe vs) w3 r3 fun σ4 G4 ρ4 M4 H4 e4 s4 w4 a4 q => ?_
    obtain ⟨rfl, q⟩ := q
    refine ⟨wipe_agr a4, ?_⟩
    refine q σ4 G4 H4 _ s4 w4 fun b G5 M5 H5 e5 w5 q5 => ?_
    obtain ⟨rfl, q5, q6⟩ := q5
    have e15 := ((e2.trans e3).trans e4).trans e5
    cases b with
    | false =>
      rw [if_neg Bool.false_ne_true]
      exact ⟨G5, ys, e15, q5 rfl, w5⟩
    | true =>
      rw [if_pos rfl]
      refine q6 rfl σ4 G5 H5 _ (s4.up e5) w5 fun J1 n1 it1 lk3 G6 M6 H6 e6 w6 wk1 q7 => ?_
      obtain ⟨rfl, lk4, P1, p10, hs1, hd1⟩ := q7
      refine ⟨fun j k H => k = n1 - j ∧ j ≤ n1 ∧ ∃ G zs, Ex G6 G ∧ P1 j zs ∧ Wd K G ((Dl, .lst zs) :: M1) H, ⟨n1, by simp, Nat.zero_le _, G6, ys, Ex.refl _, p10, w6⟩, ?_⟩
      rintro j kk H7 ⟨rfl, hj, G7, zs, e7, p17, w7⟩
      by_cases hlj : j < n1
      · refine .inr ⟨wk1.goes j G7 _ H7 hlj e7 w7 (lk4 _), fun H => ∃ G zs, Ex G6 G ∧ P1 (j + 1) zs ∧ Wd K G ((Dl, .lst zs) :: M1) H, fun H8 c => ⟨n1 - (j + 1), by omega, rfl, hlj, c⟩, fun x1 H8 y1 => ?_⟩
        obtain ⟨G8, d1, e8, w8, r8, hit1⟩ := wk1.yields j G7 _ H7 x1 H8 hlj e7 w7 (lk4 _) y1
        refine hs1 j d1 zs hlj hit1 p17 x1 _ G8 H8 _ ((s4.up (((e5.trans e6).trans e7).trans e8)).wipe vs1) w8 r8 fun σ9 G9 ρ9 M9 H9 e9 s9 w9 a9 q9 => ?_
        obtain ⟨rfl, q9⟩ := q9
        refine ⟨wipe_agr a9, ?_⟩
        refine q9 σ9 G9 H9 _ s9 w9 fun b1 G10 M10 H10 e10 w10 q10 => ?_
        obtain ⟨rfl, q10, q11⟩ := q10
        cases b1 with
        | false =>
          rw [if_neg Bool.false_ne_true]
          exact ⟨G10, zs, ((e7.trans e8).trans e9).trans e10, q10 rfl, w10⟩
        | true =>
          rw [if_pos rfl]
          refine q11 rfl σ9 G10 H10 _ (s9.up e10) w10 fun v z G11 M11 H11 e11 r11 w11 q12 => ?_
          obtain ⟨rfl, hl, q12⟩ := q12
          obtain ⟨g0, xs, h1, h2⟩ := w11.get .head
          refine ⟨xs, h1, ?_, G11, zs ++ [z], (((e7.trans e8).trans e9).trans e10).trans e11, q12, ?_⟩
          · rw [h2.length]
            exact Nat.lt_of_lt_of_le hl (by decide)
          · exact w11.put .head g0 ⟨g0, _, upd_same, h2.snoc r11⟩
      · have ej : j = n1 := by omega
        subst ej
        exact .inl ⟨wk1.stops G7 _ H7 e7 w7 (lk4 _), G7, zs, (e15.trans e6).trans e7, hd1 zs p17, w7⟩
  · have e : i = n := by omega
    subst e
    refine .inl ⟨wk.stops G2 _ H' e2 w2 (lk2 _ _), ?_⟩
    obtain ⟨_, xs, h1, h2⟩ := w2.get .head
    obtain ⟨e3, w3⟩ := w2.cut .head rfl h1
    exact k (.ref Dl) (.lst ys) _ M1 H' ((e1.trans e2).trans e3) (.lst upd_same (h2.up e3)) w3 (hd ys p2)
end
theorem SM.mk' {K : PySem.W.Frag} [Bs K] {mg : Str → Option Value} {h : Heap} (X : K.In h) (G : h.Ns mainGlobals mg) {x m qual : Str} {st : Stmt} {ps : List Str} {C f p : Addr} {rest : List Value} {mc oc : Value} {od an : Option Addr} {osl : Array (Option Value)} {kV doc pm cdv ct : Value}
    (a : PySem.W.nsIn K mainGlobals x = some (some (.ref C))) (rd : PySem.W.readsIn K C mc = true) (ga : PySem.W.specialIn K (.ref C) "__getattribute__" = some (some (.builtin "type.__getattribute__")))
    (at_ : PySem.W.findCls K (.ref C) mc m = some (.get (.builtin "staticmethod.__get__") (.ref p) .none (.ref C))) (rc : PySem.W.recIn K p "staticmethod" = some (.ref f :: rest))
    (l : K.lookup f = some ⟨oc, od, .func (PySem.W.fnOf m qual (defArgs st) (defBody st) (defScope st) .none kV doc pm an cdv ct), osl⟩) (c : PySem.W.codeIn K cdv qual = true) (k : PySem.W.keepIn K (.ref f) = true)
    (hb : ∀ (kV doc pm : Value) (an : Option Addr) (cdv ct : Value) (us : List Value), us.length = ps.length → bindArgs (PySem.W.fnOf m qual (defArgs st) (defBody st) (defScope st) .none kV doc pm an cdv ct) ⟨us, []⟩ = pure (ps.zip us)) : SM K mg x m qual st ps := by
  have e2 := clsA_of (PySem.W.mg_of X G a)
  have F := fun_mk (st := st) l c k
  exact ⟨f, _, mc, p, rest, F, by rw [e2]; exact ⟨rd, ga⟩, by rw [e2]; exact at_, rc, k, F.binds hb⟩
theorem CC.mk' {K : PySem.W.Frag} [Bs K] {mg : Str → Option Value} {h : Heap} (X : K.In h) (G : h.Ns mainGlobals mg) {x f : Str} {C : Addr} {mc u : Value} {v : V} (a : PySem.W.nsIn K mainGlobals x = some (some (.ref C))) (rd : PySem.W.readsIn K C mc = true)
    (ga : PySem.W.specialIn K (.ref C) "__getattribute__" = some (some (.builtin "type.__getattribute__"))) (at_ : PySem.W.findCls K (.ref C) mc f = some (.val u)) (r : RelV v u) : CC K mg x f v := by
  have e2 := clsA_of (PySem.W.mg_of X G a)
  exact ⟨mc, u, by rw [e2]; exact ⟨rd, ga⟩, by rw [e2]; exact ⟨at_, r⟩⟩
theorem BM.mk' {K : PySem.W.Frag} [Bs K] {mg : Str → Option Value} {h : Heap} (X : K.In h) (G : h.Ns mainGlobals mg) {x m : Str} {C f : Addr} (a : PySem.W.nsIn K mainGlobals x = some (some (.ref C))) (fi : PySem.W.findIn K (.ref C) m = some (some (.ref f)))
    (gf : PySem.W.specialIn K (.ref f) "__get__" = some (some (.builtin "function.__get__"))) (tk : PySem.W.takesIn K (.ref f) = some false) (cp : PySem.W.copiedNames.contains m = false) (fn : PySem.W.fnIn K f = true) : BM K mg x m := by
  have e2 := clsA_of (PySem.W.mg_of X G a)
  refine ⟨fun g h => ?_⟩
  have e3 := h.at_
  rw [e2, fi] at e3
  cases e3
  exact ⟨h, gf, tk, cp, fn⟩
def methA (K : PySem.W.Frag) (mg : Str → Option Value) (x m : Str) : Addr := match PySem.W.findIn K (.ref (clsA mg x)) m with | some (some (.ref f)) => f | _ => 0
theorem pe_msS {X : Cx} {K : PySem.W.Frag} [Bs K] {mg : Str → Option Value} {k : Nat} {x m : Str} {S : DS} {o e : Expr} {ta te : TE} {p apos pos : Pos} (c : CK K mg x) (b : BM K mg x m) (Gm : GMs X.prog X.w K mg X.base k x m S) (hr : Room k X.A) (he : PE X o ta) (ha : PE X e te) (h : X.K = K := by rfl) (hmg : X.mg = mg := by rfl)
    (hbase : attributeBase o m X.env (eval o X.env) = eval o X.env := by rfl) : PE X (.Call (.Attribute o m apos) [.Starred e p] [] pos) (tMethSA K (clsA mg x) m (methA K mg x m) (spOf K (starS 1 S)) E0 ta te) := by
  subst h
  subst hmg
  obtain ⟨f, h1, h2⟩ := Gm.ex
  have e1 : methA X.K X.mg x m = f := by unfold methA; rw [h2.at_]
  rw [e1]
  exact pe_methSA he c.cls (b.ex f h2) h1 hr pass0 ha hbase
end XD

/-! XD12: enumerate over a tuple. -/
namespace XD
open PySem L2
open AutoSeq1 (wpAny_loadPart')
open PySem.Spec PySem.Calls PyProof.Rows
theorem enumT_new (t : Addr) (items : Array Value) (n : Nat) (dd : Option Addr) (sl : Array (Option Value)) :
    Meets (Builtin.«enumerate.__new__» ⟨[.type "enumerate", .ref t], []⟩) (fun _ R s => s.heap.get? t = some { cls := .type "tuple", dict := dd, data := .seq items n, slots := sl } ∧
      R (.ok (.ret (.ref (s.heap.push { cls := .type "tuple_iterator", data := .fields #[.ref t, .int 0 0] }).objs.size)))
        { s with heap := (s.heap.push { cls := .type "tuple_iterator", data := .fields #[.ref t, .int 0 0] }).push { cls := .type "enumerate", data := .fields #[.none, .bool false, .ref s.heap.objs.size, rawInt 0, .none, .none] } }) :=
  .of_wp fun prog w A R s h => by
    obtain ⟨hp, g, d, tk, os⟩ := s
    obtain ⟨ht, h⟩ := h
    have hsb := sub_enumerate
    have hT : Heap.IsTuple (Shared.heap ⟨hp, g, d, tk, os⟩) t items := ⟨_, ht, rfl, n, rfl⟩
    wp_walk using wpAny_loadPart' ht
    refine wpAny_stack_any fun st => wpAny_pure ?_
    split
    · rename_i c _ _ _ _ _
      cases (c == Value.type "enumerate")
      · wp_walk using wpAny_loadPart' ht, wpAny_pyIter_tuple hT
        exact ⟨_, rfl, h⟩
      · wp_walk using wpAny_loadPart' ht, wpAny_pyIter_tuple hT
        exact ⟨_, rfl, h⟩
    · wp_walk using wpAny_loadPart' ht, wpAny_pyIter_tuple hT
      exact ⟨_, rfl, h⟩
section
variable {prog : Program} {w : World} {A : Around} {E : Value → Shared → Prop} {s : Shared}
theorem enumT_call {t : Addr} {items : Array Value} {Q : Value → Shared → Prop} (hT : s.heap.IsTuple t items)
    (h : ∀ h', IsEnum h' (s.heap.objs.size + 1) s.heap.objs.size 0 .none → h'.IsTupleIter s.heap.objs.size t 0 → (∀ b o, s.heap.get? b = some o → h'.get? b = some o) → Q (.ref (s.heap.objs.size + 1)) { s with heap := h' }) :
    wpAny (model prog w) A (call (.type "enumerate") [.ref t]) Q E s := by
  obtain ⟨⟨c, dd, dt, sl⟩, ho, hc, n, hd⟩ := hT
  simp only at hc hd
  subst hc hd
  refine callType_new F.called_enumerate (by decide) (F.typeCall_enumerate_1 _) (F.newCall_enumerate_1 _) (fun obj => F.args_object_init_2 obj _) F.entry_enumerate_new (enumT_new t items n dd sl) ⟨ho, ?_⟩
  have hz : (s.heap.push { cls := .type "tuple_iterator", data := .fields #[.ref t, .int 0 0] }).objs.size = s.heap.objs.size + 1 := Heap.size_push ..
  show _ ∧ _
  rw [hz]
  have he : IsEnum ((s.heap.push { cls := .type "tuple_iterator", data := .fields #[.ref t, .int 0 0] }).push { cls := .type "enumerate", data := .fields #[.none, .bool false, .ref s.heap.objs.size, rawInt 0, .none, .none] }) (s.heap.objs.size + 1) s.heap.objs.size 0 .none := by
    have q := Heap.get?_push_size (s.heap.push { cls := .type "tuple_iterator", data := .fields #[.ref t, .int 0 0] }) (o := { cls := .type "enumerate", data := .fields #[.none, .bool false, .ref s.heap.objs.size, rawInt 0, .none, .none] }) rfl
    rw [hz] at q
    exact q
  exact ⟨⟨_, he, rfl⟩, h _ he ⟨_, Heap.get?_push_of_some _ (Heap.get?_push_size _ rfl), rfl, rfl⟩ fun b o x => Heap.get?_push_of_some _ (Heap.get?_push_of_some _ x)⟩
end
/-- the places and items of the tuple at a, each pair new -/
def IteT (K : PySem.W.Frag) (a : Addr) : It :=
  ⟨fun i H => ∃ (xs : List V) (x : V), SqT K H a xs ∧ xs[i]? = some x, fun i H v H' => ∃ T x, v = .ref T ∧ H T = none ∧ H' = upd H T (.tup [.int (i : Nat), x]) ∧ ∀ xs, SqT K H a xs → xs[i]? = some x, fun i H => ∃ xs : List V, SqT K H a xs ∧ xs.length = i⟩
theorem turn_enumT {P : Program} {w : World} {K : PySem.W.Frag} [Bs K] {elts : List Expr} {kk : Nat} {tpos : Pos} (a e it : Addr) :
    Turn P w K (.Tuple elts kk tpos) (IteT K a) [e, it] e (fun i h => (∃ old, IsEnum h e it ((i : Nat) : Int) old) ∧ h.IsTupleIter it a i ∧ e ≠ it ∧ a ≠ e ∧ a ≠ it) where
  mem := by simp
  obj := fun i h st b hb => by
    obtain ⟨⟨old, he⟩, ⟨o, ho, hc, hd⟩, _⟩ := st
    have q : b = e ∨ b = it := by simpa using hb
    rcases q with z | z
    · subst z; exact ⟨_, he, fun v q => nomatch q⟩
    · subst z; exact ⟨o, ho, fun v q => by rw [hd] at q; cases q⟩
  keep := fun i h h' st k => by
    obtain ⟨⟨old, he⟩, hi, hr⟩ := st
    exact ⟨⟨old, k e (by simp) _ he⟩, hi.at fun o q => k it (by simp) o q, hr⟩
  item := by
    intro X hP hw hK hc i pins s σ H E I hf st hg
    subst hP hw hK
    obtain ⟨⟨old, he⟩, hit, hne, hae, hai⟩ := st
    obtain ⟨xs, x, hq, hx⟩ := hg
    obtain ⟨its, rv, p, hz⟩ := I.tuple hq
    obtain ⟨u, hu, ru⟩ := rv.get hx
    have hel : e < s.heap.objs.size := Heap.lt_size he
    have hil : it < s.heap.objs.size := by obtain ⟨_, q, _⟩ := hit; exact Heap.lt_size q
    have hil2 : i < its.toArray.size := by
      rw [List.size_toArray]
      exact (List.getElem?_eq_some_iff.mp hu).1
    refine wpAny_pyNext_enum_itemD (Draws.tuple (prog := X.prog) (w := X.w) (A := X.A.in1) (show X.A.in1.handled = none from I.ok.hd hc) it a hai its.toArray) he ⟨hit, p⟩ hil2 hne (by
      intro z
      have z : e = it ∨ e = a := by simpa using z
      exact z.elim hne fun q => hae q.symm) fun x' h' tk hx' ho hst' hT hsz hk => ?_
    have ex : x' = u := by
      have q : its.toArray[i]? = some u := by simpa using hu
      rw [q] at hx'
      exact (Option.some.inj hx').symm
    subst ex
    refine ⟨_, rfl, wpAny_letOwnedTupleGo_enum (s := { s with heap := h', toks := tk + 1 }) ho fun h2 he2 sb => ?_⟩
    have hT2 : h2.get? s.heap.objs.size = some { cls := .type "tuple", data := .seq #[.int i tk, x'] } := (sb.2 _ (Nat.ne_of_gt hel)).trans hT
    have nw : ObjOk X.prog X.w (upd H s.heap.objs.size (.tup [.int (i : Nat), x])) h2 s.heap.objs.size (.tup [.int (i : Nat), x]) := ⟨by show 2 ≤ sizeLine; decide, [.int i tk, x'], .cons ⟨_, rfl⟩ (.cons ru .nil), ⟨_, hT2, rfl, _, rfl⟩⟩
    have I1 : Inv X pins σ (upd H s.heap.objs.size (.tup [.int (i : Nat), x])) { s with heap := h2, toks := tk + 1 } := by
      refine I.turnedNew (ch := [e, it]) (fun b ob hb q => ?_) hf (Nat.le_refl _) nw
      have hb1 : b ≠ e := fun z => hb (by simp [z])
      have hb2 : b ≠ it := fun z => hb (by simp [z])
      exact (sb.2 b hb1).trans (hk b ob hb1 hb2 q)
    refine ⟨.ref s.heap.objs.size, _, I1, rfl, ⟨_, x, rfl, I.hok.fresh (Nat.le_refl _), rfl, fun ys hy => by rw [I.tuple_inj hy hq]; exact hx⟩, ⟨⟨x', ?_⟩, hst'.1.at fun o q => (sb.2 it (Ne.symm hne)).trans q, hne, hae, hai⟩, fun b hb => ?_⟩
    · rw [show ((i + 1 : Nat) : Int) = (i : Int) + 1 by omega]
      exact he2
    · have hb' : b < s.heap.objs.size := by
        have q : b = e ∨ b = it := by simpa using hb
        rcases q with z | z
        · subst z; exact hel
        · subst z; exact hil
      rw [upd_ne (Nat.ne_of_lt hb')]
      exact (hf b hb).1
  done := by
    intro X hP hw hK hc i pins s σ H E I hf st hg
    subst hP hw hK
    obtain ⟨⟨old, he⟩, hit, hne, hae, hai⟩ := st
    obtain ⟨xs, hq, hx⟩ := hg
    obtain ⟨its, rv, p, hz⟩ := I.tuple hq
    obtain ⟨f0, f1, f2, f3, f4, f5⟩ := hf it (by simp)
    have hl := rv.length
    have ei : its.toArray.size = i := by rw [List.size_toArray]; omega
    refine wpAny_pyNext_enum_endD (Draws.tuple (prog := X.prog) (w := X.w) (A := X.A.in1) (show X.A.in1.handled = none from I.ok.hd hc) it a hai its.toArray) he ⟨by rw [ei]; exact hit, p⟩ fun h2 eb => ⟨rfl, ?_⟩
    exact I.turned (t' := s.toks) (fun b o hb q => eb b o hb q) f0 f1 f3 f4 f5
  self := fun A i s Q E st h => by
    obtain ⟨⟨_, he⟩, _⟩ := st
    exact wpAny_pyIter_enum he h
def iEnumT (K : PySem.W.Frag) (ta : TA) : TI := fun σ H R => ta σ H fun vs H1 => ∃ a xs, vs = [.ref a] ∧ SqT K H1 a xs ∧ R (IteT K a) H1
theorem pi_enumT {X : Cx} {e : Expr} {ta : TA} {p pos tpos : Pos} {elts : List Expr} {kk : Nat} (hg : Gl X "enumerate") (hm : X.mg "enumerate" = none) (ha : PA X [e] ta) (hs : starEach [e] X.env = [(false, eval e X.env)] := by rfl) :
    PI X (.Tuple elts kk tpos) (.Call (.Name "enumerate" p) [e] [] pos) (iEnumT X.K ta) := by
  refine ⟨fun pins s σ H R I hw => ?_⟩
  refine Call_ (ld_blt I hg hm boot_enumerate (PyProof.Rows.callWith_type1 (thn (ha.run pos pins s σ H _ I hw) fun us s1 hz => ?_) hs rfl))
  obtain ⟨vs, H1, I1, r1, a, xs, ex, hq, q⟩ := hz
  subst ex
  cases r1 with
  | cons r rr =>
    cases rr
    cases r
    obtain ⟨its, rv, pt, hz⟩ := I1.tuple hq
    have hal : a < s1.heap.objs.size := by
      obtain ⟨o, ho, _⟩ := pt
      exact Heap.lt_size ho
    refine enumT_call (show s1.heap.IsTuple a its.toArray from pt) fun h' he hit hk => wpAny_pyIter_enum he ?_
    have I2 : Inv X pins σ H1 { s1 with heap := h' } := I1.kept (t' := s1.toks) hk
    refine ⟨s1.heap.objs.size + 1, [s1.heap.objs.size + 1, s1.heap.objs.size], _, _, H1, rfl, I2, turn_enumT a (s1.heap.objs.size + 1) s1.heap.objs.size, ⟨⟨.none, he⟩, hit, Nat.succ_ne_self _, Nat.ne_of_lt (Nat.lt_succ_of_lt hal), Nat.ne_of_lt hal⟩, fun b hb => ?_, q⟩
    have hle : s1.heap.objs.size ≤ b := by
      have e' : b = s1.heap.objs.size + 1 ∨ b = s1.heap.objs.size := by simpa using hb
      rcases e' with z | z <;> subst z
      · exact Nat.le_add_right _ _
      · exact Nat.le_refl _
    exact I1.fpOk hle (I1.hok.fresh hle)
theorem pi_enumTK {X : Cx} {e : Expr} {ta : TA} {p pos tpos : Pos} {elts : List Expr} {kk : Nat} (K : PySem.W.Frag) (hm : X.mg "enumerate" = none) (ha : PA X [e] ta) (hg : Gl X "enumerate" := by rfl) (hs : starEach [e] X.env = [(false, eval e X.env)] := by rfl) (h : X.K = K := by rfl) :
    PI X (.Tuple elts kk tpos) (.Call (.Name "enumerate" p) [e] [] pos) (iEnumT K ta) := h ▸ pi_enumT hg hm ha hs
section
variable {K : PySem.W.Frag} [Bs K] {ρ : Rho} {M : Mm}
theorem xi_enumT {ta : TA} {RI : Nat → (Nat → D → Prop) → (Mm → Prop) → Mm → Prop} (h : Xa K ta ρ M fun ds M1 => ∃ xs, ds = [.tup xs] ∧ RI xs.length (fun i x => ∃ a, xs[i]? = some a ∧ x = .tup [.int (i : Nat), a]) (fun _ => True) M1) : Xi K (iEnumT K ta) ρ M RI := by
  intro σ G H Q s w k
  refine h σ G H _ s w fun vs ds G1 M1 H1 e1 r w1 q => ?_
  obtain ⟨xs, rfl, q⟩ := q
  cases r with
  | cons r1 r =>
    cases r
    cases r1 with
    | @tup a us _ ha ra =>
      refine ⟨a, us, rfl, .inl (.inl (w1.tup ha)), k _ _ _ _ G1 M1 H1 e1 w1 ⟨fun i G M H hi e w _ => ?_, fun G M H e w _ => ?_, fun i G M H x H' hi e w _ y => ?_⟩ q⟩
      · have h1 : i < us.length := by rw [ra.length]; omega
        exact ⟨us, us[i], .inl (.inl (w.tup (e _ _ ha))), by simp [h1]⟩
      · exact ⟨us, .inl (.inl (w.tup (e _ _ ha))), ra.length⟩
      · obtain ⟨T, u, rfl, hT, rfl, f1⟩ := y
        obtain ⟨p, p1, p2⟩ := ra.getV (f1 us (.inl (.inl (w.tup (e _ _ ha)))))
        have eN := Ex.new (o := .tup [.int (i : Nat), u]) (w.gfree hT)
        exact ⟨_, .tup [.int (i : Nat), p], eN, w.new hT, .tup upd_same (.cons (.int _) (.cons (p2.up (e.trans eN)) .nil)), p, p1, rfl⟩
end
end XD

/-! XD13: len of a dict; own == and the != that object gives by it. -/
namespace XD
open PySem L2
def cLenD : List V → Hp → VK → Prop := fun xs H Q => ∃ a kvs, xs = [V.ref a] ∧ Rd H a (.dK kvs) ∧ Q (.int kvs.length) H
theorem c_lenD {X : Cx} : CallR X (.builtin "len") cLenD := by
  intro pins s σ H xs us Q I r h
  obtain ⟨d, kvs, rfl, hd, q⟩ := h
  obtain ⟨v, rfl, rv⟩ := vals1 r
  cases rv
  exact d_len I hd fun t s2 I2 => ⟨.int kvs.length, H, I2, ⟨t, rfl⟩, q⟩
theorem xc_lenD {K : PySem.W.Frag} [Bs K] {M : Mm} {R : RD} {x : D} {kvs : List (Key × D)} (t : DcK M x kvs) (r : R (.int kvs.length) M) : Xc K cLenD [x] M R := by
  intro vs G H Q rs w k
  cases rs with
  | cons r1 rs =>
    cases rs
    obtain ⟨a, xs, rfl, hd, rk⟩ := t.at r1 w
    refine ⟨a, xs, rfl, hd, ?_⟩
    rw [rk.length]
    exact k _ _ G M H (Ex.refl G) (.int _) w r
/-! ### name = {..} on one line, the name a local -/
section
open PySem.Spec PyProof.Rows
variable {X : Cx}
theorem sw_dict {kx vx : Expr} {gs : List Comprehension} {sc : Scope} {pos py : Pos} {y : Str} {l : Nat} {env : Env} (h1 : env.scope.kind = .function) (h2 : env.scope.names.lookup y = some .local) (h3 : (py.line == pos.line) = true)
    (h4 : (sc.names.any fun (n, k) => n == y && (k == .local || k == .cell)) = false) : swapsWith (.DictComp kx vx gs sc pos) (some (.Name y py)) l env = pure true := by
  have e1 : env.blockKind = .function := by unfold Env.blockKind; rw [h1]; rfl
  have e2 : env.kindOf y = some .local := h2
  unfold swapsWith
  simp only [e1, e2, h4, Expr.pos, h3]
  rfl
theorem ps_setDc {i : Nat} {y : Str} {py : Pos} {kx vx tg iter : Expr} {ifs : List Expr} {scope : Scope} {own : List (Str × Nat)} {pos spos : Pos} {wi : TI} {g : TG} {tt : TT} {tk tv : TE} (hc : X.calm = true) (hN : X.N.Nodup) (hy : X.N[i]? = some y) (hl : X.env.scope.names.lookup y = some .local)
    (hsw : swapsWith (.DictComp kx vx [⟨tg, iter, ifs, 0⟩] scope pos) (some (.Name y py)) spos.line X.env = pure true) (hi : PI X tg iter wi) (ok : BlkOk X.N X.env.scope scope own)
    (hg : ∀ (z : Shared) (J : Hp) (C : Addr) (cl : List (Str × Addr)) (fp : List Addr), PG (X.blk z J scope (compEnvC scope cl C X.env) fp) tg g) (ht : ∀ (z : Shared) (J : Hp) (C : Addr) (cl : List (Str × Addr)) (fp : List Addr), PTs (X.blk z J scope (compEnvC scope cl C X.env) fp) ifs tt) (hk : ∀ (z : Shared) (J : Hp) (C : Addr) (cl : List (Str × Addr)) (fp : List Addr), PE (X.blk z J scope (compEnvC scope cl C X.env) fp) kx tk) (hv : ∀ (z : Shared) (J : Hp) (C : Addr) (cl : List (Str × Addr)) (fp : List Addr), PE (X.blk z J scope (compEnvC scope cl C X.env) fp) vx tv) (hs : ∀ x, foldedSetIterable iter X.env x = pure x := by intro _; rfl) :
    PS X (.Assign [.Name y py] (.DictComp kx vx [⟨tg, iter, ifs, 0⟩] scope pos) spos) (tAsg (tDc wi g tt tk tv (own.map (·.2))) (gName i)) := by
  refine ⟨fun pins s σ H Dn I h => ?_⟩
  rw [exec_Assign_Name_used _ _ _ _ hsw]
  refine wpAny_bind ?_
  refine wpAny_standAt (wpAny_bind ?_)
  show wpAny _ X.A (do let _ ← comprehension (.DictComp kx vx [⟨tg, iter, ifs, 0⟩] scope pos) scope X.env (firstIterPos [⟨tg, iter, ifs, 0⟩] pos) newDict false (eval iter X.env) (some (assign (.Name y py) X.env))) _ _ s
  have h0 : tDc wi g tt tk tv (own.map (·.2)) σ H (fun x H1 => gName i x σ H1 Dn.nx) := h
  have last := dc_core (Qf := fun _ z => SP X pins Dn .next z) (use := some (assign (.Name y py) X.env)) (pos := pos) (pos' := firstIterPos [⟨tg, iter, ifs, 0⟩] pos) hc hN I hi ok hg ht hk hv hs h0 fun L C z m H2 J q hn f => by
    show wpAny _ _ (assign (.Name y py) X.env (.ref L)) _ _ _
    refine wpAny_assign_Name (store_ok2 (v := V.ref L) J hN hy (.inl hl) rfl (fun z2 J2 ⟨a, sb, ha⟩ => ?_) (.inr hl))
    obtain ⟨f0, f1, f2, f3, f4, f5⟩ := f
    have off : C ≠ a := ha.elim (fun e => by rw [e]; exact f1) fun e u => f4 y a e u.symm
    exact ⟨m, hn.sameBut sb off, fun h3 sb3 => ⟨_, H2, J2.turned (t' := z2.toks) (fun b o hb e => (sb3.2 b hb).trans e) f0 f1 f3 f4 f5, q⟩⟩
  exact wpAny_bind (thn last fun _ z hq => wpAny_pure (wpAny_pure hq))
end
/-! ### != by object.__ne__ over an own == -/
section
open PySem.W Builtin
theorem bound_B {M : Model} {A : Around} {E : Value → Shared → Prop} {s : Shared} {K : Frag} {x C : Addr} {ox : Obj} {od : Option Obj} {nm : Str} {id : String} {zs : List Value} {Q : Option Value → Shared → Prop}
    (Xk : K.In s.heap) (J : InstAt s.heap x ox C od) (hz : findIn K (.ref C) nm = some (some (.builtin id))) (hb : ∀ u, bindSpecial (.builtin id) u = pure (.builtin id, [u]))
    (hq : wpAny M A (call (.builtin id) (.ref x :: zs)) (fun v => Q (some v)) E s) : wpAny M A (callSpecialIfBound? (.ref x) nm zs) Q E s := by
  have last : wpAny M A (call (.builtin id) ([.ref x] ++ zs) >>= fun v => pure (some v)) Q E s :=
    wpAny_bind (wpAny_mono hq (fun _ _ y => wpAny_pure y) fun _ _ y => y)
  simp only [callSpecialIfBound?, bindSpecialIfBound?]
  refine wpAny_holding ?_
  refine wpAny_bind (wpAny_bind (wpAny_bind (J.type.here ?_)))
  refine (looks_findIn Xk hz).here ?_
  refine wpAny_bind ?_
  refine wpAny_askSetting (wpAny_ite ?_)
  split
  · refine wpAny_bind ?_
    exact (Looks.of_pure (hb _)).here (wpAny_pure last)
  · refine wpAny_tryCatch (wpAny_bind ?_)
    exact (Looks.of_pure (hb _)).here (wpAny_pure last)
/-- what the own == answers, for != -/
def NotBack (Q : Value → Shared → Prop) (v : Value) (s' : Shared) : Prop := ∃ b : Bool, v = .bool b ∧ Q (.bool (!b)) s'
theorem one_ne {prog : Program} {w : World} {A : Around} {E : Value → Shared → Prop} {s : Shared} {K : Frag} {x C f : Addr} {y : Value} {ox : Obj} {od : Option Obj} {Q : Value → Shared → Prop} (hu : A.in1.units < cLine)
    (Xk : K.In s.heap) (J : InstAt s.heap x ox C od) (hm : mroIn K C (.type "object") = some true) (he : findIn K (.ref C) "__eq__" = some (some (.ref f))) (hf : isFn K (.ref f) = true)
    (h : wpAny (model prog w) A.in1 (call (.ref f) [.ref x, y]) (NotBack Q) E s) : wpAny (model prog w) A (call (.builtin "object.__ne__") [.ref x, y]) Q E s := by
  refine wpAny_call (codeAny_call_builtin PySem.F.cmp_object.ne.plain PySem.F.cmpEntry_ne ?_)
  refine check_slot PySem.F.cmpKind_ne PySem.F.cmpSplit_ne (J.type.andThen (looks_mroIn Xk hm)) (PySem.F.cmpArgs_ne _ _) ?_
  unfold Builtin.«object.__ne__»
  refine wpAny_bind (m := slotArgs "__ne__" 1 _) (wpAny_pure ?_)
  refine wpAny_bind (m := cRoomFor _ _) (wpAny_cRoomFor hu ?_)
  refine wpAny_bind (m := callSpecialIfBound? (.ref x) (Str.ofString "__eq__") _) ?_
  refine ifBound_K Xk J he hf (wpAny_mono h (fun v s2 hv => ?_) fun _ _ y => y)
  obtain ⟨b, rfl, q⟩ := hv
  exact wpAny_bind (wpAny_truthy_bool (wpAny_pure q))
theorem cmp_ne {prog : Program} {w : World} {A : Around} {E : Value → Shared → Prop} {s : Shared} {K : Frag} {x C L f : Addr} {y : Value} {h0 : Heap} {m : Str → Option Value} {ox : Obj} {od : Option Obj} {Q : Value → Shared → Prop}
    (hu : A.units < cLine) (hu1 : A.in1.units < cLine) (F : PyProof.Rows.Fr h0 L s.heap m) (X0 : K.In h0) (J : InstAt s.heap x ox C od) (hy : Looks (model prog w) s.heap (typeOf y) (.ref C))
    (hn : findIn K (.ref C) "__ne__" = some (some (.builtin "object.__ne__"))) (hm : mroIn K C (.type "object") = some true) (he : findIn K (.ref C) "__eq__" = some (some (.ref f))) (hf : isFn K (.ref f) = true)
    (h : wpAny (model prog w) A.in1 (call (.ref f) [.ref x, y]) (NotBack fun v s' => v ≠ .notImplemented ∧ Q v s') E s) : wpAny (model prog w) A (richCompare .NotEq (.ref x) y) Q E s := by
  have Xk := X0.keeps F.keep
  have first : wpAny (model prog w) A (tryCompare (.ref x) "__ne__" y) (fun r s' => ∃ v, r = some v ∧ Q v s') E s := by
    unfold tryCompare
    refine wpAny_bind (bound_B Xk J hn PySem.F.cmp_object.ne.bind (one_ne hu1 Xk J hm he hf (wpAny_mono h (fun v s2 hv => ?_) fun _ _ z => z)))
    obtain ⟨b, rfl, _, q⟩ := hv
    exact ⟨b, rfl, wpAny_pure ⟨_, rfl, q⟩⟩
  unfold richCompare
  simp only [oneThing_ref]
  refine wpAny_holding ?_
  refine wpAny_bind (wpAny_cRoomFor hu ?_)
  refine wpAny_bind (J.type.here ?_)
  refine wpAny_bind (hy.here ?_)
  rw [if_neg (by simp)]
  refine wpAny_bind (wpAny_pure ?_)
  simp only [Bool.false_eq_true, if_false]
  refine wpAny_bind (wpAny_mono first (fun r s2 z => ?_) fun _ _ z => z)
  obtain ⟨v, rfl, q⟩ := z
  exact wpAny_pure q
end
def rOwnN (C : Addr) (sp : Sp) (E : XK) : R2 := fun x y H Q => ∃ a dx xs b dy ys, x = .ref a ∧ y = .ref b ∧ H a = some (.ins C dx xs) ∧ H b = some (.ins C dy ys) ∧ sp [x, y] H (fun v H' => ∃ k, v = .bl k ∧ Q (.bl (!k)) H') E
theorem op_ownN {X : Cx} {CX : CXT} {n : Nat} {C g : Addr} {sp : Sp} {E : XK} (hn : PySem.W.findIn X.K (.ref C) "__ne__" = some (some (.builtin "object.__ne__"))) (hm : PySem.W.mroIn X.K C (.type "object") = some true)
    (he : PySem.W.findIn X.K (.ref C) "__eq__" = some (some (.ref g))) (hf : PySem.W.isFn X.K (.ref g) = true)
    (F : FnR X.prog X.w X.K X.mg X.base CX n g sp) (hr : Room (n + 1) X.A) (hx : Passes CX X E) : OpR X (compareOp .NotEq) (rOwnN C sp E) := by
  intro pins s σ H x y v u Q I rx ry h
  obtain ⟨a, dx, xs, b, dy, ys, rfl, rfl, ha, hb, q⟩ := h
  cases (show v = Value.ref a from rx)
  cases (show u = Value.ref b from ry)
  obtain ⟨od, J⟩ := ins_at I ha
  obtain ⟨od', J'⟩ := ins_at I hb
  obtain ⟨m, hF⟩ := I.fr
  refine cmp_ne hr.units0 hr.in1.units0 hF I.ok.mod.kin J J'.type hn hm he hf ?_
  refine wpAny_mono (wpAny_call (SlX.run_at (us := [.ref a, .ref b]) (ws := [.ref a, .ref b]) F hr.in1 I.env0.in1 hx I (.cons rfl (.cons rfl .nil)) q)) (fun w s' z => ?_) fun _ _ x => x
  obtain ⟨z', H', I', rz, k, rfl, qz⟩ := z
  cases (show w = Value.bool k from rz)
  exact ⟨k, rfl, nofun, .bl (!k), H', I', rfl, qz⟩
/-- what the top has written of a class's comparisons -/
structure NE (K : PySem.W.Frag) (mg : Str → Option Value) (x : Str) : Prop where
  ne : PySem.W.findIn K (.ref (clsA mg x)) "__ne__" = some (some (.builtin "object.__ne__"))
theorem NE.mk' {K : PySem.W.Frag} [Bs K] {mg : Str → Option Value} {h : Heap} (X : K.In h) (G : h.Ns mainGlobals mg) {x : Str} {C : Addr} (a : PySem.W.nsIn K mainGlobals x = some (some (.ref C)))
    (n : PySem.W.findIn K (.ref C) "__ne__" = some (some (.builtin "object.__ne__"))) : NE K mg x := by
  have e2 := clsA_of (PySem.W.mg_of X G a)
  exact ⟨by rw [e2]; exact n⟩
/-- .. of what isinstance asks -/
structure IsK (K : PySem.W.Frag) (mg : Str → Option Value) (x : Str) : Prop where
  ca : PySem.W.findIn K (.ref (clsA mg x)) "__class__" = some (some (.builtin "object.__class__"))
  cn : PySem.W.specialIn K (.builtin "object.__class__") "__get__" = some (some (.builtin "getset_descriptor.__get__"))
  ct : PySem.W.takesIn K (.builtin "object.__class__") = some true
  ob : PySem.W.mroIn K (clsA mg x) (.type "object") = some true
theorem IsK.mk' {K : PySem.W.Frag} [Bs K] {mg : Str → Option Value} {h : Heap} (X : K.In h) (G : h.Ns mainGlobals mg) {x : Str} {C : Addr} (a : PySem.W.nsIn K mainGlobals x = some (some (.ref C)))
    (c : PySem.W.findIn K (.ref C) "__class__" = some (some (.builtin "object.__class__"))) (n : PySem.W.specialIn K (.builtin "object.__class__") "__get__" = some (some (.builtin "getset_descriptor.__get__")))
    (t : PySem.W.takesIn K (.builtin "object.__class__") = some true) (o : PySem.W.mroIn K C (.type "object") = some true) : IsK K mg x := by
  have e2 := clsA_of (PySem.W.mg_of X G a)
  exact ⟨by rw [e2]; exact c, n, t, by rw [e2]; exact o⟩
theorem pe_cls {X : Cx} {x : Str} {pos : Pos} (c : CK X.K X.mg x) (hg : Gl X x := by rfl) (hdb : (x == ("__debug__" : Str)) = false := by decide) : PE X (.Name x pos) (tC (.ref (clsA X.mg x))) := pe_glob hg c.at_ rfl hdb
theorem pe_clsK {X : Cx} {K : PySem.W.Frag} [Bs K] {mg : Str → Option Value} {x : Str} {pos : Pos} (c : CK K mg x) (h : X.K = K := by rfl) (hmg : X.mg = mg := by rfl) (hg : Gl X x := by rfl) (hdb : (x == ("__debug__" : Str)) = false := by decide) : PE X (.Name x pos) (tC (.ref (clsA mg x))) := by
  subst h
  subst hmg
  exact pe_cls c hg hdb
theorem GMt.fnR {P : Program} {w : World} {K : PySem.W.Frag} [Bs K] {mg : Str → Option Value} {base : Heap} {k : Nat} {x m : Str} {ps : List Str} {S : DS} (G : GMt P w K mg base k x m ps S) :
    ∃ f, FnR P w K mg base CX0 k f (spOf K S) ∧ PySem.W.findIn K (.ref (clsA mg x)) m = some (some (.ref f)) ∧ PySem.W.isFn K (.ref f) = true := by
  obtain ⟨f, fd, h1, h2, h3⟩ := G.ex
  refine ⟨f, (h1.raw h3 .nil).imp fun vs H Q E h => ?_, h2.at_, h2.fn⟩
  rw [List.append_nil]
  exact h
theorem k_eqC {X : Cx} {K : PySem.W.Frag} [Bs K] {mg : Str → Option Value} {k : Nat} {x : Str} {ps : List Str} {S : DS} (G : GMt X.prog X.w K mg X.base k x "__eq__" ps S) (hr : Room k X.A) (h : X.K = K := by rfl) (hmg : X.mg = mg := by rfl) : OpR X (compareOp .Eq) (rOwnC (clsA mg x) (spOf K S) E0) := by
  subst h
  subst hmg
  obtain ⟨f, h1, h2, h3⟩ := G.fnR
  exact op_ownC (fun _ _ => rfl) h2 h3 h1 hr pass0
theorem k_neC {X : Cx} {K : PySem.W.Frag} [Bs K] {mg : Str → Option Value} {k : Nat} {x : Str} {ps : List Str} {S : DS} (i : IsK K mg x) (n : NE K mg x) (G : GMt X.prog X.w K mg X.base k x "__eq__" ps S) (hr : Room (k + 1) X.A) (h : X.K = K := by rfl) (hmg : X.mg = mg := by rfl) : OpR X (compareOp .NotEq) (rOwnN (clsA mg x) (spOf K S) E0) := by
  subst h
  subst hmg
  obtain ⟨f, h1, h2, h3⟩ := G.fnR
  exact op_ownN n.ne i.ob h2 h3 h1 hr pass0
section
variable {K : PySem.W.Frag} [Bs K] {M : Mm} {R : RD}
/-- x is an instance of C -/
def IsC (C : Addr) (x : D) (M : Mm) : Prop := (∃ fs, x = .ins C fs) ∨ ∃ a fs, x = .ref a ∧ Has M a (.ins C fs)
theorem isC_f {C : Addr} {fs : List (Str × D)} : IsC C (.ins C fs) M := .inl ⟨fs, rfl⟩
theorem isC_m {C a : Addr} {fs : List (Str × D)} (h : Has M a (.ins C fs)) : IsC C (.ref a) M := .inr ⟨a, fs, rfl, h⟩
theorem IsC.at {C : Addr} {x : D} {G H : Hp} {v : V} (t : IsC C x M) (r : Rp K G v x) (w : Wd K G M H) : ∃ a dx xs, v = .ref a ∧ H a = some (.ins C dx xs) := by
  rcases t with ⟨fs, rfl⟩ | ⟨a, fs, rfl, hm⟩
  · cases r with
    | @ins a C dx xs _ hx rf => exact ⟨a, dx, xs, rfl, w.at' hx (fun z => z)⟩
  · cases r
    obtain ⟨_, dx, xs, h1, rf⟩ := w.get hm
    exact ⟨a, dx, xs, rfl, h1⟩
theorem xc_isiC {mg : Str → Option Value} {n : Str} {x : D} (c : CK K mg n) (i : IsK K mg n) (hx : IsC (clsA mg n) x M) (r : R (.bl true) M) : Xc K (rIsi K) [x, .ref (clsA mg n)] M R := by
  intro vs G H Q rs w k
  cases rs with
  | cons r1 rs =>
    cases rs with
    | cons r2 rs =>
      cases rs
      cases r2
      obtain ⟨a, dx, xs, rfl, h1⟩ := hx.at r1 w
      refine ⟨.ref a, .ref (clsA mg n), _, _, true, rfl, .own _, .base (.ins h1 c.cls i.ca i.cn i.ct i.ob), ?_, k _ _ G M H (Ex.refl G) (.bl _) w r⟩
      unfold PySem.W.kitOne
      rw [if_pos (by simp)]
theorem xe_cref {ρ : Rho} {a : Addr} (r : R (.ref a) M) : Xe K (tC (.ref a)) ρ M R := by
  intro σ G H Q s w k
  exact k _ _ G M H (Ex.refl G) (.ref a) w r
theorem eqvAll_map {α : Type} [DecidableEq α] {f : α → PyData} : ∀ {xs ys : List α}, (∀ a ∈ xs, ∀ b ∈ ys, PyData.eqv (f a) (f b) = decide (a = b)) → PyData.eqvAll (xs.map f) (ys.map f) = decide (xs = ys) := by
  intro xs
  induction xs with
  | nil =>
    intro ys _
    cases ys with
    | nil => simp [PyData.eqvAll]
    | cons y ys => simp [PyData.eqvAll]
  | cons x xs ih =>
    intro ys h
    cases ys with
    | nil => simp [PyData.eqvAll]
    | cons y ys =>
      rw [List.map_cons, List.map_cons, PyData.eqvAll, h x List.mem_cons_self y List.mem_cons_self, ih fun a ha b hb => h a (List.mem_cons_of_mem _ ha) b (List.mem_cons_of_mem _ hb)]
      by_cases e1 : x = y
      · by_cases e2 : xs = ys <;> simp [e1, e2]
      · simp [e1]
theorem xr_eqC {C : Addr} {S : DS} {X : XK} {x y : D} (hx : IsC C x M) (hy : IsC C y M) (h : S [x, y] M R) : Xr K (rOwnC C (spOf K S) X) x y M R := by
  intro vx vy G H Q r1 r2 w k
  obtain ⟨a, dx, xs, rfl, h1⟩ := hx.at r1 w
  obtain ⟨b, dy, ys, rfl, h2⟩ := hy.at r2 w
  exact ⟨a, dx, xs, b, dy, ys, rfl, rfl, h1, h2, G, M, [x, y], R, .cons r1 (.cons r2 .nil), w.toWd0, h, sp_back w.bs k (Ex.refl G)⟩
theorem xr_neC {C : Addr} {S : DS} {X : XK} {x y : D} (hx : IsC C x M) (hy : IsC C y M) (h : S [x, y] M fun d M' => ∃ b, d = .bl b ∧ R (.bl (!b)) M') : Xr K (rOwnN C (spOf K S) X) x y M R := by
  intro vx vy G H Q r1 r2 w k
  obtain ⟨a, dx, xs, rfl, h1⟩ := hx.at r1 w
  obtain ⟨b, dy, ys, rfl, h2⟩ := hy.at r2 w
  refine ⟨a, dx, xs, b, dy, ys, rfl, rfl, h1, h2, G, M, [x, y], _, .cons r1 (.cons r2 .nil), w.toWd0, h, fun v d G' M' H' e r w' q => ?_⟩
  obtain ⟨c, rfl, q⟩ := q
  cases r
  exact ⟨c, rfl, k _ _ G' M' H' e (.bl _) ⟨w', w.bs.trans e⟩ q⟩
end
end XD

/-! XE1: own exception classes over any built-in one: super().__init__(x) by the machine. -/
namespace XX
open PySem PySem.W
/-- what is known of the built-in class below -/
structure ExKind (B newId initId : String) (bmB : List Value) : Prop where
  F : ExcBaseFacts B newId initId bmB
  S : StoreFacts B bmB "object.__setattr__" "object"
  ty : typeOf (.builtin initId) = pure (.type "wrapper_descriptor")
  nac : (kfb_private% "nameAndClass") (Value.builtin initId) = (pure (("__init__" : Str), Value.type B) : Sem (Str × Value))
  qt : initId.startsWith "lifetime." = false
theorem kindVE : ExKind "ValueError" "ValueError.__new__" "ValueError.__init__" [.type "ValueError", .type "Exception", .type "BaseException", .type "object"] :=
  ⟨F.excBase_ValueError, F.store_ValueError, by show builtinType _ = _; rw [builtinType_eq_fast]; kernel_rfl, by kernel_rfl, by decide +kernel⟩
theorem kindLE : ExKind "LookupError" "LookupError.__new__" "LookupError.__init__" [.type "LookupError", .type "Exception", .type "BaseException", .type "object"] :=
  ⟨F.excBase_LookupError, F.store_LookupError, by show builtinType _ = _; rw [builtinType_eq_fast]; kernel_rfl, by kernel_rfl, by decide +kernel⟩
theorem kindIE : ExKind "IndexError" "IndexError.__new__" "IndexError.__init__" [.type "IndexError", .type "LookupError", .type "Exception", .type "BaseException", .type "object"] :=
  ⟨F.excBase_IndexError, F.store_IndexError, by show builtinType _ = _; rw [builtinType_eq_fast]; kernel_rfl, by kernel_rfl, by decide +kernel⟩

abbrev bwo (i : String) (x : Addr) : Obj := { cls := .type "method-wrapper", dict := none, data := .fields #[.builtin i, .ref x], slots := #[] }
abbrev supO (D x C : Addr) : Obj := { cls := .type "super", dict := none, data := .fields #[.ref D, .ref x, .ref C], slots := #[] }
section
variable {prog : Program} {w : World} {M : Model} {A : Around} {E : Value → Shared → Prop} {h : Heap} {g : Array GenState} {d : Drawn} {t : Nat} {os : OsState} {B newId i : String} {bmB : List Value}
theorem wd_run (kd : ExKind B newId i bmB) {x C : Addr} {P : Fin → Shared → Prop} (hin : Looks M h (isInstance (.ref x) (.type B)) true) (hq : P (.done (.ret (.ref h.objs.size))) ⟨h.push (bwo i x), g, d, t, os⟩) :
    wpAny M A (Builtin.«wrapper_descriptor.__get__» ⟨[.builtin i, .ref x, .ref C], []⟩) P E ⟨h, g, d, t, os⟩ := by
  unfold Builtin.«wrapper_descriptor.__get__»
  refine wpAny_bind ?_
  refine wpAny_of_eq (a := (.builtin i, some (.ref x), some (.ref C))) (by first | rfl | kernel_rfl) ?_
  show wpAny M A ((kfb_private% "checkInstance") (.builtin i) (.ref x) >>= fun _ => newFields "method-wrapper" [.builtin i, .ref x] >>= fun r => ret r) P E _
  refine wpAny_bind ?_
  show wpAny M A ((kfb_private% "nameAndClass") (.builtin i) >>= _) _ E _
  refine wpAny_bind ?_
  refine wpAny_of_eq kd.nac ?_
  show wpAny M A (isInstance (.ref x) (.type B) >>= _) _ E _
  refine wpAny_bind ?_
  refine hin.at ?_
  refine KFB.if_not rfl ?_
  refine wpAny_pure ?_
  refine wpAny_bind ?_
  exact wpAny_newObj_type (wpAny_pure hq)
theorem sup_ga (kd : ExKind B newId i bmB) {so D x C : Addr} {l0 l : List Value} {K : Frag} {name : Str} {tk : Tok} {Q : Fin → Shared → Prop}
    (hso : h.get? so = some (supO D x C)) (hno : Looks (model prog w) h (opaqueClassAbove (.ref C)) none) (hC : Looks (model prog w) h (mroOf (.ref C)) l0) (hl : (l0.dropWhile (· != .ref D)).drop 1 = l) (Xk : K.In h)
    (hf : alongIn K name l = some (some (.builtin i))) (hxC : x ≠ C) (hn : (name == ("__class__" : Str)) = false) (hin : Looks (model prog w) h (isInstance (.ref x) (.type B)) true)
    (hq : Q (.done (.ret (.ref h.objs.size))) ⟨h.push (bwo i x), g, d, t, os⟩) :
    wpAny (model prog w) A (Builtin.«super.__getattribute__» ⟨[.ref so, .str name tk], []⟩) Q E ⟨h, g, d, t, os⟩ := by
  have e1 := ESX.slot_wd.lookup
  have e2 : (Value.ref x == Value.ref C) = false := by simp [hxC]
  have e3 := kd.ty
  have e4 : Shared.TypeIs ⟨h, g, d, t, os⟩ (.builtin i) "wrapper_descriptor" := kd.ty
  have e5 : (supO D x C).data = .fields #[.ref D, .ref x, .ref C] := rfl
  have p0 : (#[.ref D, .ref x, .ref C] : Array Value)[0]? = some (.ref D) := rfl
  have p1 : (#[.ref D, .ref x, .ref C] : Array Value)[1]? = some (.ref x) := rfl
  have p2 : (#[.ref D, .ref x, .ref C] : Array Value)[2]? = some (.ref C) := rfl
  unfold Builtin.«super.__getattribute__»
  repeat (first
    | with_reducible refine wpAny_field hso e5 p0 ?_
    | with_reducible refine wpAny_field hso e5 p1 ?_
    | with_reducible refine wpAny_field hso e5 p2 ?_
    | with_reducible refine ks_wpAny_notOpaque hno ?_
    | (with_reducible refine Looks.at hC ?_; rw [hl])
    | refine ks_forIn_along Xk (fun _ _ => rfl) rfl ?_ hf
    | with_reducible refine wpAny_call_entry ESX.slot_wd e4 ESX.entry_wd ?_ (ESX.args_wd _ _ _)
    | with_reducible refine wd_run kd hin ?_
    | with_reducible refine ⟨_, rfl, ?_⟩
    | simp only [hn, e2, Bool.or_false, Bool.false_eq_true, if_false]
    | wp_step
    | dsimp only)
  all_goals exact hq
theorem sup_get (kd : ExKind B newId i bmB) {so D x C : Addr} {l0 l : List Value} {K : Frag} {name : Str} {pl : Sem Bool} {Q : Value × List Value → Shared → Prop}
    (hso : h.get? so = some (supO D x C)) (hno : Looks (model prog w) h (opaqueClassAbove (.ref C)) none) (hC : Looks (model prog w) h (mroOf (.ref C)) l0) (hl : (l0.dropWhile (· != .ref D)).drop 1 = l) (Xk : K.In h)
    (hf : alongIn K name l = some (some (.builtin i))) (hxC : x ≠ C) (hn : (name == ("__class__" : Str)) = false) (hin : Looks (model prog w) h (isInstance (.ref x) (.type B)) true)
    (hq : Q (.ref h.objs.size, []) ⟨h.push (bwo i x), g, d, t + 1, os⟩) : wpAny (model prog w) A (getMethod (.ref so) name pl) Q E ⟨h, g, d, t, os⟩ := by
  have look := F.ks_slot_super_ga.lookup
  have isS : ∀ t2, (⟨h, g, d, t2, os⟩ : Shared).TypeIs (.ref so) "super" := fun _ => ⟨_, hso, rfl⟩
  unfold getMethod
  refine wpAny_bind ?_
  refine wpAny_specialOf (isS _) look ?_
  show wpAny _ _ (if (Manifest.canonical "super.__getattribute__" != "object.__getattribute__") = true then _ else _) _ _ _
  rw [if_pos F.ks_canon_super_ga]
  unfold getAttr getAttrBy
  refine wpAny_bind (wpAny_bind ?_)
  refine wpAny_mkText (wpAny_holding ?_)
  refine wpAny_bind (wpAny_typeOf (isS _) ?_)
  refine wpAny_bind ?_
  refine wpAny_of_eq look ?_
  show wpAny _ _ (getAttrByItsOwn (.ref so) (.str name t) (.type "super") (.builtin "super.__getattribute__") true false) _ _ _
  unfold getAttrByItsOwn hookBefore callGetattribute boundAndCalled
  refine wpAny_bind ?_
  refine wpAny_of_eq (show (if onTheHeap (.type "super") then typeLookup (.type "super") "__getattr__" else pure none) = pure none from rfl) ?_
  refine wpAny_bind ?_
  refine wpAny_attempt (wpAny_holding ?_)
  show wpAny _ _ (bindSpecial (.builtin "super.__getattribute__") (.ref so) >>= _) _ _ _
  refine wpAny_bind ?_
  refine wpAny_of_eq (F.ks_slot_super_ga.bind _) ?_
  refine wpAny_mono (Q := fun v s2 => v = .ref h.objs.size ∧ s2 = ⟨h.push (bwo i x), g, d, t + 1, os⟩) (E := fun _ _ => False) ?_ (fun v s2 hv => ?_) fun _ _ z => z.elim
  · exact wpAny_call_entry F.ks_slot_super_ga (isS _) F.ks_entry_super_ga (sup_ga kd hso hno hC hl Xk hf hxC hn hin ⟨_, rfl, rfl, rfl⟩) (F.ks_gaArgs_super _ _)
  · obtain ⟨rfl, rfl⟩ := hv
    exact wpAny_pure (wpAny_pure hq)
end
section
open PySem.Calls PyProof.Rows
variable {prog : Program} {w : World} {M : Model} {A : Around} {E : Value → Shared → Prop} {s : Shared} {i : String}
theorem with_bwo {pos : Pos} {u x : Addr} {first : List Value} {args : List (Bool × Sem Value)} {Q : Value → Shared → Prop} (hp : args.any (·.1) = false)
    (h : wpAny M A (evalArgs (.ref u) true args []) (fun a s1 => s1.heap.get? u = some (bwo i x) ∧ wpAny M A (call (.ref u) (first ++ a.pos) a.kw) Q E s1) E s) : wpAny M A (callWith pos (.ref u) first args []) Q E s := by
  unfold callWith
  refine wpAny_bind (wpAny_holding ?_)
  refine wpAny_mono h (fun a s1 h1 => wpAny_bind (wpAny_standAt ?_)) fun _ _ x => x
  obtain ⟨ho, hc⟩ := h1
  simp only [hp, List.any_nil, Bool.or_false]
  refine wpAny_bind (m := keeperOf (.ref u)) ?_
  unfold keeperOf
  refine wpAny_bind ?_
  refine wpAny_load ho ?_
  simp only [bwo, show (Value.type "method-wrapper" != Value.type "method") = true by decide, show (Value.type "method-wrapper" == Value.type "builtin_function_or_method" || Value.type "method-wrapper" == Value.type "method-wrapper") = true by decide, if_true]
  refine wpAny_pure ?_
  refine wpAny_bind ?_
  exact wpAny_mono hc (fun r s2 hr => wpAny_bind (wpAny_holding (wpAny_point (wpAny_pure hr)))) fun _ _ x => x
theorem with_bound {pos : Pos} {u x : Addr} {first : List Value} {env : Env} {e : Expr} {rest : List Expr} {Q : Value → Shared → Prop}
    (h : wpAny M A (spliced (backTo pos (starEach (e :: rest) env))) (fun vs s1 => s1.heap.get? u = some (bwo i x) ∧ wpAny M A (call (.ref u) (first ++ vs)) Q E s1) E s)
    (he : starEach (e :: rest) env = (false, eval e env) :: starEach rest env := by rfl) (hp : (backTo pos (starEach rest env)).any (·.1) = false := by rfl) :
    wpAny M A (callWith pos (.ref u) first (backTo pos (starEach (e :: rest) env)) []) Q E s := by
  rw [he] at h ⊢
  refine with_bwo (i := i) (x := x) ?_ (evalArgs_plain h)
  show (false || (backTo pos (starEach rest env)).any (·.1)) = false
  rw [hp]
  rfl
end
section
variable {prog : Program} {w : World} {A : Around} {E : Value → Shared → Prop} {h : Heap} {g : Array GenState} {d : Drawn} {t : Nat} {os : OsState}
variable {nm q : Str} {C N : Addr} {bs bm : List Value} {hdct : Bool} {sn : List Str} {sub : List Value} {ab : Bool} {col : Option Bool} {dd : Option Addr} {k0 k1 k2 k3 k5 : Option Value} {B newId i : String} {bmB : List Value}
theorem bwo_call (kd : ExKind B newId i bmB) {u e t0 : Addr} {rest : List Value} {Q : Value → Shared → Prop}
    (hC : h.get? C = some (excClassObj nm q C N bs bm hdct sn sub ab col dd k0 k1 k2 k3 k5 newId)) (he : h.get? e = some (HandSPX.excO C t0)) (hu : h.get? u = some (bwo i e)) (hrest : rest.length ≤ sizeLine)
    (hq : ∀ h2 t1, (∀ b o, b ≠ e → h.get? b = some o → h2.get? b = some o) → h2.get? e = some (HandSPX.excO C t1) → Q .none ⟨h2, g, d, t, os⟩) :
    wpAny (model prog w) A (call (.ref u) rest) Q E ⟨h, g, d, t, os⟩ := by
  refine wpAny_call (codeAny_of_tree ?_)
  show wpAny _ A.in1 (callAny (.ref u) ⟨rest, []⟩) _ _ _
  simp only [callAny]
  refine wpAny_bind ?_
  refine wpAny_load hu ?_
  simp only [bwo, show (Value.type "method-wrapper" == Value.type "method" || Value.type "method-wrapper" == Value.type "builtin_function_or_method" || Value.type "method-wrapper" == Value.type "method-wrapper") = true by decide, if_true]
  refine KFB.if_so (by decide) ?_
  refine wpAny_bind ?_
  refine ESX.check_bound kd.F hC he rfl ?_
  refine wpAny_bind (wpAny_pure ?_)
  refine wpAny_pure ?_
  refine ⟨Code.quiet_builtin _ kd.qt, codeAny_builtin kd.F.initEntry ?_⟩
  rw [Around.under_plainId kd.F.init.plain _]
  wp_walk
  refine hq _ h.objs.size (fun b o hb ho => ?_) ?_
  · rw [Heap.get?_update_other _ _ (Ne.symm hb)]
    exact Heap.get?_push_of_some _ ho
  · rw [Heap.get?_update_self _ (Heap.get?_push_of_some _ he) rfl]
    rfl
end
end XX

/-! XE2: own exceptions over any built-in base: what they store, how they are made. -/
namespace XX
open PySem PySem.Spec PyProof.Rows L2
/-- what the written part says of the class -/
structure OexK (K : PySem.W.Frag) (C : Addr) (newId : String) (bmB : List Value) : Prop where
  cls : PySem.W.excInitIn K C bmB newId = true
  over : PySem.W.excOver K C bmB = true
  hd : PySem.W.hasDictIn K C = true
  sa : PySem.W.findIn K (.ref C) "__setattr__" = some (some (.builtin "object.__setattr__"))
  exC : PySem.W.subIn K (.ref C) (.type "BaseException") = some true
  tyC : PySem.W.typeIn K (.ref C) = some (.type "type")
  kC : PySem.W.keepIn K (.ref C) = true
theorem taker_none {K : PySem.W.Frag} {C : Addr} {f : Str} (h : PySem.W.findIn K (.ref C) f = some none) : PySem.W.takerIn K C f = some none := by
  unfold PySem.W.takerIn
  rw [h]
  rfl
theorem upd_self {H : Hp} {a : Addr} {o : HO} (e : H a = some o) : upd H a o = H := by
  funext b
  by_cases hb : b = a
  · rw [hb, upd_same, e]
  · rw [upd_ne hb]
section
variable {X : Cx} {pins : List (Addr × Obj)} {σ : L2.St} {H : Hp} {s : Shared} {a C dx : Addr} {f : Str} {y : V} {u : Value} {fs : List (Str × V)} {Q : Unit → Shared → Prop} {E : Value → Shared → Prop} {A : Around} {B newId i : String} {bmB : List Value}
theorem st_first (kd : ExKind B newId i bmB) (T : OexK X.K C newId bmB) (I : Inv X pins σ H s) (e : H a = some (exo a C none)) (hno : PySem.W.findIn X.K (.ref C) f = some none) (ry : RelV y u)
    (h : ∀ dx s2, H dx = none → dx ≠ a → Inv X pins σ (upd (upd H dx (exd dx [(f, y)])) a (exo a C (some dx))) s2 → Q () s2) : wpAny (model X.prog X.w) A (setAttr (.ref a) f u) Q E s := by
  obtain ⟨t1, ho⟩ := exo_at I.hok e
  have kin := I.kIn
  obtain ⟨hp, g, d, t, os⟩ := s
  obtain ⟨cd, hc, hdd⟩ := PySem.W.any_some T.hd
  refine PySem.W.set_plain kin (ox := { cls := .ref C, dict := none, data := .fields #[.ref t1, .none, .none, .none, .bool false, .none] }) (od := none) ⟨ho, rfl, rfl, trivial⟩ T.sa ?_
  refine PySem.W.osa_openX (od := none) kd.S kin ⟨ho, rfl, rfl, trivial⟩ T.over (taker_none hno) fun b => ?_
  refine wpAny_bind (wpAny_pure (wpAny_bind ?_))
  refine PySem.W.instanceDict_exc (t := t1) (c2 := .none) ho (PySem.W.looks_clsIn kin hc) hdd ?_
  have ne : a ≠ hp.objs.size := Nat.ne_of_lt (Heap.lt_size ho)
  have hx1 : (hp.push (PySem.W.dictOf [] 0)).get? a = some { cls := .ref C, dict := none, data := .fields #[.ref t1, .none, .none, .none, .bool false, .none] } := Heap.get?_push_of_some _ ho
  refine PySem.HandSPX.store_in_new ?_ fun h2 tk2 hn hs => ?_
  · exact ⟨_, #[], _, (Heap.get?_update_ne _ _ _ _ ne.symm).trans (Heap.get?_push_at rfl rfl), rfl, fun e he => absurd he (by simp), fun _ => rfl⟩
  have hx2 : h2.get? a = some { cls := .ref C, dict := some hp.objs.size, data := .fields #[.ref t1, .none, .none, .none, .bool false, .none] } :=
    (hs.2 a ne).trans (Heap.get?_update_self _ hx1 rfl)
  have k : ∀ b o, b ≠ a → hp.get? b = some o → h2.get? b = some o := fun b o hb q =>
    (hs.2 b (Nat.ne_of_lt (Heap.lt_size q))).trans ((Heap.get?_update_ne _ _ _ _ hb).trans (Heap.get?_push_of_some _ q))
  generalize hD : hp.objs.size = D at *
  have dn : hp.objs.size ≤ D := Nat.le_of_eq hD
  have fr : H D = none := I.hok.fresh dn
  have nd : ∀ {b : Addr} {o : Obj}, hp.get? b = some o → b ≠ D := fun {b o} q => Nat.ne_of_lt (Nat.lt_of_lt_of_le (Heap.lt_size q) dn)
  have na : ∀ {b : Addr}, H b = none → b ≠ a := fun {b} n z => by
    subst z
    rw [e] at n
    cases n
  have un : Un X.fs [] H (upd (upd H D (exd D [(f, y)])) a (exo a C (some D))) hp h2 := by
    refine ⟨fun b o q n _ _ => k b o (na n) q, fun b o q n _ _ => ⟨o.slots, k b o (na n) q⟩, fun b o q n _ => ?_, fun b o q _ => ?_, fun b xs q => ?_, fun b o v q => ?_, fun b ps q => ⟨#[], ?_⟩⟩
    · rw [upd_ne (na n), upd_ne (nd q)]
      exact n
    · by_cases hb : b = a
      · exact ⟨_, hb ▸ hx2⟩
      · exact ⟨o, k b o hb q⟩
    · rw [upd_ne (at_ne e q exo_tup), upd_ne (ne_of_none q fr)]
      exact q
    · rw [upd_ne (at_ne e q exo_frz), upd_ne (ne_of_none q fr)]
      exact q
    · rw [upd_ne (at_ne e q exo_tbl), upd_ne (ne_of_none q fr), q]
      simp
  refine h D _ fr (Ne.symm ne) (I.un (t' := tk2) un fun b o q => ?_)
  by_cases hb : b = a
  · subst hb
    rw [upd_same] at q
    cases q
    exact exo_ok hx2
  rw [upd_ne hb] at q
  by_cases hd : b = D
  · subst hd
    rw [upd_same] at q
    cases q
    exact exd_ok hn (relO_put (fs := []) ry fun g => True.intro)
  rw [upd_ne hd] at q
  refine (I.hok b o q).stay (fun c v hc z => k c v ?_ z) (fun c hc => ?_) fun c xs hc => ?_
  · rcases hc with hc | hc
    · rw [hc]
      exact hb
    · exact at_ne e hc exo_own
  · rw [upd_ne (at_ne e hc exo_own), upd_ne (ne_of_none hc fr)]
    exact hc
  · rw [upd_ne (at_ne e hc exo_tup), upd_ne (ne_of_none hc fr)]
    exact hc
theorem st_more (kd : ExKind B newId i bmB) (T : OexK X.K C newId bmB) (I : Inv X pins σ H s) (e : H a = some (exo a C (some dx))) (ed : H dx = some (exd dx fs)) (hl : fs.length ≤ 900) (hno : PySem.W.findIn X.K (.ref C) f = some none) (ry : RelV y u)
    (h : ∀ s2, Inv X pins σ (upd H dx (exd dx ((f, y) :: fs))) s2 → Q () s2) : wpAny (model X.prog X.w) A (setAttr (.ref a) f u) Q E s := by
  obtain ⟨t1, ho⟩ := exo_at I.hok e
  obtain ⟨mA, hns, rel⟩ := exd_at I.hok ed
  have hw := within_of rel
  have kin := I.kIn
  obtain ⟨hp, g, d, t, os⟩ := s
  obtain ⟨oD, _, _, hoD, _, _⟩ := hns.count hw
  obtain ⟨cd, hc, hdd⟩ := PySem.W.any_some T.hd
  refine PySem.W.set_plain kin (ox := { cls := .ref C, dict := some dx, data := .fields #[.ref t1, .none, .none, .none, .bool false, .none] }) (od := some oD) ⟨ho, rfl, rfl, hoD⟩ T.sa ?_
  refine PySem.W.osa_openX (od := some oD) kd.S kin ⟨ho, rfl, rfl, hoD⟩ T.over (taker_none hno) fun b => ?_
  refine wpAny_bind (wpAny_pure (wpAny_bind (wpAny_bind ?_)))
  refine wpAny_loadPart ho (wpAny_bind ?_)
  refine (PySem.W.looks_clsIn kin hc).at ?_
  rw [hdd]
  refine wpAny_pure (a := some dx) ?_
  refine PySem.OEX.store_in_old hns hw (by rw [List.length_map]; omega) fun h2 tk2 hn hs => ?_
  have hd : ∃ o, h2.get? dx = some o := by
    obtain ⟨o, _, _, e2, _⟩ := hn
    exact ⟨o, e2⟩
  refine h _ (I.write (t' := tk2) (x := dx) (e := dx) (o := exd dx ((f, y) :: fs)) (by rw [ed]; exact True.intro) (.inl rfl) (fun b o hb ho => (hs.2 b hb).trans ho) hd (exd_ok hn (relO_put ry rel)))
end
/-- self.f = e, self an exception that is being made -/
def tStx (K : PySem.W.Frag) (newId : String) (bmB : List Value) (f : Str) (to te : TE) : TS := fun D σ H => te σ H fun y H1 => to σ H1 fun x H2 => ∃ a C : Addr, x = .ref a ∧ OexK K C newId bmB ∧ PySem.W.findIn K (.ref C) f = some none ∧
  ((H2 a = some (exo a C none) ∧ ∀ dx, H2 dx = none → dx ≠ a → D.nx σ (upd (upd H2 dx (exd dx [(f, y)])) a (exo a C (some dx)))) ∨
    ∃ (dx : Addr) (fs : List (Str × V)), H2 a = some (exo a C (some dx)) ∧ H2 dx = some (exd dx fs) ∧ fs.length ≤ 900 ∧ D.nx σ (upd H2 dx (exd dx ((f, y) :: fs))))
theorem ps_stx {X : Cx} {B newId i : String} {bmB : List Value} {o e : Expr} {to te : TE} {f : Str} {p p2 : Pos} (kd : ExKind B newId i bmB) (ho : PE X o to) (he : PE X e te)
    (hs : swapsWith e (some (.Attribute o f p2)) p.line X.env = pure false := by rfl) : PS X (.Assign [.Attribute o f p2] e p) (tStx X.K newId bmB f to te) := by
  refine ⟨fun pins s σ H D I h => ?_⟩
  refine plainObj_wpAny_Assign_Attribute ?_ hs
  refine thn (he.run pins s σ H _ I h) fun v s1 hv => ?_
  obtain ⟨y, H1, I1, r1, q1⟩ := hv
  refine thn (ho.run pins s1 σ H1 _ I1 q1) fun u s2 hu => ?_
  obtain ⟨x, H2, I2, r2, a, C, rfl, T, hno, q⟩ := hu
  cases (show u = Value.ref a from r2)
  rcases q with ⟨ea, q⟩ | ⟨dx, fs, ea, ed, hl, q⟩
  · exact st_first kd T I2 ea hno r1 fun dx s3 n ne J => ⟨σ, _, J, q dx n ne⟩
  · exact st_more kd T I2 ea ed hl hno r1 fun s3 J => ⟨σ, _, J, q⟩
end XX

/-! XE3: an __init__ that begins with super().__init__(x), as a def that keeps its promise. -/
namespace XX
open PySem PySem.Spec PyProof.Rows L2 NdefX
/-- what the written part says of a class and its __init__ -/
structure SupK (K : PySem.W.Frag) (P : Program) (B i : String) (q : Str) (C c cc : Addr) : Prop where
  cell : ∃ cl cld csl, K.lookup cc = some ⟨cl, cld, .cell (some (.ref C)), csl⟩
  code : PySem.W.codeIn K (.ref c) q = true
  file : ∃ ccl cdd vs ccs fl tf, K.lookup c = some ⟨ccl, cdd, .fields vs, ccs⟩ ∧ vs[2]? = some (.str fl tf) ∧ ((P.main.file : Str) == fl) = true
  top : (P.main.scope.names.lookup ("super" : Str)).isSome = false
  own : PySem.W.mroIn K C (.ref C) = some true
  base : PySem.W.mroIn K C (.type B) = some true
  along : PySem.W.ks_superIn K C C "__init__" = some (some (.builtin i))
  opq : PySem.W.nsIn K cStatics "thirdparty.any" = some none
section
variable {CX : CXT} {P : Program} {w : World} {K : PySem.W.Frag} {mg : Str → Option Value} {base : Heap} {N ps : List Str} {m q : Str} {params : Arguments} {scope : Scope} {f C c cc : Addr} {k : Nat} {sp : Sp} {B newId i : String} {bmB : List Value}
abbrev supFd (m q : Str) (params : Arguments) (body : List Stmt) (scope : Scope) (cc : Addr) (dV kV doc pm : Value) (an : Option Addr) (c : Addr) (ct : Value) : FuncData := PySem.W.fnX m q params body scope [(("__class__" : Str), cc)] dV kV doc pm an (.ref c) ct
abbrev supNF (m q : Str) (params : Arguments) (body : List Stmt) (scope : Scope) (cc c : Addr) : NF := ⟨m, q, params, body, scope, [(("__class__" : Str), cc)], c⟩
theorem sup_fn {dV kV doc pm ct oc : Value} {an od : Option Addr} {osl : Array (Option Value)} {e : Expr} {es : List Expr} {rest : List Stmt} {p0 p1 p2 p3 p4 : Pos} {ar : Arg} {ta : TA}
    (kd : ExKind B newId i bmB) (T : OexK K C newId bmB) (U : SupK K P B i q C c cc)
    (lk : K.lookup f = some ⟨oc, od, .func (supFd m q params (.Expr (.Call (.Attribute (.Call (.Name "super" p0) [] [] p1) "__init__" p2) (e :: es) [] p3) p4 :: rest) scope cc dV kV doc pm an c ct), osl⟩)
    (S : NScope N ps ["__class__"] scope) (hks : scope.names.lookup ("super" : Str) = some .globalImplicit) (hpar : (params.posonlyargs ++ params.args).head? = some ar) (hp0 : ps[0]? = some ar.arg) (hsup : mg "super" = none)
    (len : ∀ vs H Q E, sp vs H Q E → vs.length = ps.length) (hself : ∀ vs H Q E, sp vs H Q E → ∃ a r, vs = .ref a :: r ∧ H a = some (exo a C none))
    (hbody : ∀ (A : Around) (outer : List Env) (s : Shared) (H : Hp) (vs : List V) (Q : VK) (E : XK), Room k (A.deeper (envF (supNF m q params (.Expr (.Call (.Attribute (.Call (.Name "super" p0) [] [] p1) "__init__" p2) (e :: es) [] p3) p4 :: rest) scope cc c) f s.heap.objs.size)) → sp vs H Q E →
      PA (ncx CX P w K mg base N (supNF m q params (.Expr (.Call (.Attribute (.Call (.Name "super" p0) [] [] p1) "__init__" p2) (e :: es) [] p3) p4 :: rest) scope cc c) f A outer s H E) (e :: es) ta ∧ (∀ R : List V → Hp → Prop, (∀ xs, xs.length ≤ 1000 → R xs H) → ta (startF N vs [none]) H R) ∧
      starEach (e :: es) (ncx CX P w K mg base N (supNF m q params (.Expr (.Call (.Attribute (.Call (.Name "super" p0) [] [] p1) "__init__" p2) (e :: es) [] p3) p4 :: rest) scope cc c) f A outer s H E).env = (false, eval e (ncx CX P w K mg base N (supNF m q params (.Expr (.Call (.Attribute (.Call (.Name "super" p0) [] [] p1) "__init__" p2) (e :: es) [] p3) p4 :: rest) scope cc c) f A outer s H E).env) :: starEach es (ncx CX P w K mg base N (supNF m q params (.Expr (.Call (.Attribute (.Call (.Name "super" p0) [] [] p1) "__init__" p2) (e :: es) [] p3) p4 :: rest) scope cc c) f A outer s H E).env ∧
      (backTo p3 (starEach es (ncx CX P w K mg base N (supNF m q params (.Expr (.Call (.Attribute (.Call (.Name "super" p0) [] [] p1) "__init__" p2) (e :: es) [] p3) p4 :: rest) scope cc c) f A outer s H E).env)).any (·.1) = false ∧
      (∃ pl : Sem Bool, eval (.Call (.Attribute (.Call (.Name "super" p0) [] [] p1) "__init__" p2) (e :: es) [] p3) (ncx CX P w K mg base N (supNF m q params (.Expr (.Call (.Attribute (.Call (.Name "super" p0) [] [] p1) "__init__" p2) (e :: es) [] p3) p4 :: rest) scope cc c) f A outer s H E).env = (do
        let ov ← attributeBase (.Call (.Name "super" p0) [] [] p1) "__init__" (ncx CX P w K mg base N (supNF m q params (.Expr (.Call (.Attribute (.Call (.Name "super" p0) [] [] p1) "__init__" p2) (e :: es) [] p3) p4 :: rest) scope cc c) f A outer s H E).env (eval (.Call (.Name "super" p0) [] [] p1) (ncx CX P w K mg base N (supNF m q params (.Expr (.Call (.Attribute (.Call (.Name "super" p0) [] [] p1) "__init__" p2) (e :: es) [] p3) p4 :: rest) scope cc c) f A outer s H E).env)
        standAt p2.atName
        let (fx, first) ← holding [ov] (getMethod ov "__init__" pl)
        callWith p3 fx first (backTo p3 (starEach (e :: es) (ncx CX P w K mg base N (supNF m q params (.Expr (.Call (.Attribute (.Call (.Name "super" p0) [] [] p1) "__init__" p2) (e :: es) [] p3) p4 :: rest) scope cc c) f A outer s H E).env)) [])) ∧
      ∃ t, PSs (ncx CX P w K mg base N (supNF m q params (.Expr (.Call (.Attribute (.Call (.Name "super" p0) [] [] p1) "__init__" p2) (e :: es) [] p3) p4 :: rest) scope cc c) f A outer s H E) rest t ∧ t { nx := fun _ H' => Q .non H', rt := Q } (startF N vs [none]) H) :
    FnOk P w K mg base CX (k + 1) f (supFd m q params (.Expr (.Call (.Attribute (.Call (.Name "super" p0) [] [] p1) "__init__" p2) (e :: es) [] p3) p4 :: rest) scope cc dV kV doc pm an c ct) ps sp := by
  refine ⟨len, fun A outer s H args us vs Q E hr e0 hb r hsp => ?_⟩
  have hl := len _ _ _ _ hsp
  obtain ⟨a, vr, rfl, hexo⟩ := hself _ _ _ _ hsp
  have kp0 : ∀ b o, base.get? b = some o → s.heap.get? b = some o := fun b o e => (e0.bs b o e).1
  have KX : K.In s.heap := e0.mod.kin.keeps kp0
  have lim : s.heap.NoLimit := e0.mod.nolimit.keeps kp0
  obtain ⟨cl, cld, csl, hcell⟩ := U.cell
  obtain ⟨ccl, cdd, fvs, ccs, fl, tf, hcode, hvs, hfile⟩ := U.file
  let F : NF := supNF m q params (.Expr (.Call (.Attribute (.Call (.Name "super" p0) [] [] p1) "__init__" p2) (e :: es) [] p3) p4 :: rest) scope cc c
  have hcc : H cc = none := (e0.bs cc _ (e0.mod.kin _ _ hcell)).2
  have CA : CellsAt F.cl ["__class__"] [none] s.heap H := by
    have one : ∀ {y : Str} {c2 : Addr}, F.cl.lookup y = some c2 → y = "__class__" ∧ c2 = cc := fun {y c2} z => by
      have z : ([(("__class__" : Str), cc)] : List (Str × Addr)).lookup y = some c2 := z
      unfold List.lookup at z
      split at z
      · rename_i h
        cases z
        exact ⟨by simpa using h, rfl⟩
      · cases z
    refine ⟨rfl, fun y c2 z => ?_, fun x y c2 z1 z2 => by rw [(one z1).1, (one z2).1], fun j y hj => ?_⟩
    · rw [(one z).2]
      exact ⟨hcc, some (.ref C), _, KX _ _ hcell, rfl⟩
    · cases j with
      | zero =>
        cases hj
        exact ⟨cc, rfl, fun v hv => by simp at hv⟩
      | succ j => simp at hj
  obtain ⟨hA, hta, hst, hpl, ⟨pl, hcall⟩, t, ht, hq⟩ := hbody A outer s H (V.ref a :: vr) Q E (hr.deeper _) hsp
  refine PySem.ks_codeAny_call_defAt (binds := ps.zip us) hr.depth (KX _ _ lk) rfl lim (PySem.W.codeRec_of KX U.code) rfl hb S.nocell (fun y hy => S.par y.1 (List.of_mem_zip hy).1) (fun h1 hns hk1 => ?_) S.co S.gen S.kind
  have I : Inv (ncx CX P w K mg base N F f A outer s H E) [] (startF N (V.ref a :: vr) [none]) H { s with heap := h1, toks := s.toks + (ps.zip us).length } := inv_startN S hr.hd e0 hl r CA hns hk1
  have X1 : K.In h1 := fun b o z => hk1 b o (KX b o z)
  obtain ⟨hp, g, d, tk, os⟩ := s
  have e0h : ∀ {b : Addr} {o : Obj}, base.get? b = some o → h1.get? b = some o := fun z => hk1 _ _ (kp0 _ _ z)
  obtain ⟨nm, Nn, qn, bs, bm, hdct, sn, sub, ab, col, dd, k0, k1, k2, k3, k5, hC, hT⟩ := PySem.W.excInit_of X1 T.cls
  obtain ⟨t1, hx⟩ := exo_at I.hok hexo
  obtain ⟨cd, hcd, _⟩ := PySem.W.any_some T.hd
  have hxC : a ≠ C := fun z => by
    subst z
    have hx' : h1.get? a = _ := hx
    rw [hC] at hx'
    have := congrArg Obj.data (Option.some.inj hx')
    cases this
  have halong := U.along
  unfold PySem.W.ks_superIn at halong
  rw [hcd] at halong
  refine PySem.ks_wpAt_execs_cons ?_
  have hint : interactive (ncx CX P w K mg base N F f A outer ⟨hp, g, d, tk, os⟩ H E).env = false := by
    unfold interactive
    rw [show (ncx CX P w K mg base N F f A outer ⟨hp, g, d, tk, os⟩ H E).env.scope.kind = .function from S.kind]
    rfl
  refine PySem.ks_wpAt_Expr_any ?_ hint
  refine PySem.ks_wpAt_MethodCall (pl := pl) ?_ hcall
  refine PySem.ks_wpAt_super_base (ar := ar) hks (S.frk _ (by simp)) rfl rfl (X1 _ _ lk) rfl hpar rfl (X1 _ _ hcode) rfl hvs hfile U.top ?_
  obtain ⟨mb, hb1, hb2⟩ := e0.mod.blt
  refine PySem.W.ks_loadName_global S.kind hks ?_
  refine Calls.loadGlobal_builtin (e0.mod.glob.keeps fun b o z => e0h z) hsup (hb1.keeps fun b o z => e0h z) ((hb2 _ (by decide +kernel)).trans PyProof.Rows.Boot.«super») ⟨rfl, ?_⟩
  refine wpAny_loadName_free S.kind (S.frk _ (by simp)) rfl ⟨_, X1 _ _ hcell, rfl⟩ ?_
  have hp1 : ps.Nodup := (List.nodup_append.mp (S.pre ▸ S.nd.sublist (List.take_sublist _ N))).1
  cases r with
  | @cons _ u0 _ ur ra rr =>
    cases (show u0 = Value.ref a from ra)
    refine wpAny_loadName_local S.kind (S.par _ (List.mem_of_getElem? hp0)) hns (zip_look (i := 0) hp1 hp0 rfl) ?_
    refine PySem.ks_wpAny_isType_cls hC rfl ⟨rfl, ?_⟩
    refine PySem.ks_wpAny_call_super hC rfl hx rfl (fun c => nofun) (PySem.W.looks_mroIn X1 U.own) fun h2 e2 k2 => ?_
    have X2 : K.In h2 := fun b o z => k2 b o (X1 b o z)
    have hx2 := k2 _ _ hx
    have I2 : Inv (ncx CX P w K mg base N F f A outer ⟨hp, g, d, tk, os⟩ H E) [] (startF N (V.ref a :: vr) [none]) H ⟨h2, g, d, tk + (ps.zip (Value.ref a :: ur)).length, os⟩ := I.kept k2
    have J2 : PySem.W.InstAt h2 a { cls := .ref C, dict := none, data := .fields #[.ref t1, .none, .none, .none, .bool false, .none] } C none := ⟨hx2, rfl, rfl, trivial⟩
    refine sup_get kd e2 (PySem.W.looks_opaque X2 U.opq) ((PySem.W.looks_clsIn X2 hcd).andThen .now) rfl X2 halong hxC rfl (J2.type.andThen (PySem.W.looks_mroIn X2 U.base)) ?_
    have I3 : Inv (ncx CX P w K mg base N F f A outer ⟨hp, g, d, tk, os⟩ H E) [] (startF N (V.ref a :: vr) [none]) H ⟨h2.push (bwo i a), g, d, tk + (ps.zip (Value.ref a :: ur)).length + 1, os⟩ :=
      I2.kept (t' := tk + (ps.zip (Value.ref a :: ur)).length + 1) fun b o z => Heap.get?_push_of_some _ z
    have nf : ∀ {b : Addr} {o : Obj}, h2.get? b = some o → h2.objs.size ≠ b := fun z => Nat.ne_of_gt (Heap.lt_size z)
    have I3p : Inv (ncx CX P w K mg base N F f A outer ⟨hp, g, d, tk, os⟩ H E) [(h2.objs.size, bwo i a)] (startF N (V.ref a :: vr) [none]) H ⟨h2.push (bwo i a), g, d, tk + (ps.zip (Value.ref a :: ur)).length + 1, os⟩ := by
      refine I3.pins_of fun p hpm => ?_
      rw [List.mem_singleton.mp hpm]
      refine ⟨Heap.get?_push_at rfl rfl, I2.hok.fresh (Nat.le_refl _), ?_, ?_, nofun⟩
      · obtain ⟨m0, ⟨oL, _, _, hL, _⟩, _⟩ := I2.loc
        exact nf hL
      · intro z
        obtain ⟨_, oz, hz, _⟩ := e0.funs.mem z
        exact nf (k2 _ _ (hk1 _ _ hz)) rfl
    refine with_bound (i := i) (x := a) (thn (hA.run p3 [(h2.objs.size, bwo i a)] _ _ H _ I3p (hta (fun xs H1 => H1 = H ∧ xs.length ≤ 1000) fun xs hxs => ⟨rfl, hxs⟩)) fun us2 s3 hz => ?_) hst hpl
    obtain ⟨xs, H1, I4, r4, rfl, hxl⟩ := hz
    have hpin := (I4.pin (h2.objs.size, bwo i a) (List.mem_append_right _ (by simp))).1
    refine ⟨hpin, ?_⟩
    obtain ⟨t4, hx4⟩ := exo_at I4.hok hexo
    obtain ⟨nm4, Nn4, qn4, bs4, bm4, hd4, sn4, sub4, ab4, col4, dd4, j0, j1, j2, j3, j5, hC4, _⟩ := PySem.W.excInit_of I4.kIn T.cls
    obtain ⟨h3, g3, d3, t3, os3⟩ := s3
    have hlen : us2.length ≤ sizeLine := by
      rw [← r4.length, sizeLine_eq]
      omega
    refine bwo_call kd hC4 hx4 hpin hlen fun h5 t5 k5' hx5 => ?_
    have J := (I4.pins_of (pins' := []) fun p hpm => nomatch hpm).write (t' := t3) (x := a) (e := a) (o := exo a C none) (by rw [hexo]; exact True.intro) (.inl rfl) k5' ⟨_, hx5⟩ (exo_ok hx5)
    rw [upd_self hexo] at J
    refine wpAt_of_wpAny (wpAny_mono (ht.run [] _ _ H1 _ J hq) (fun fl s6 hs => ?_) fun e6 s6 hs => hs)
    have fin : ∀ {σ' : L2.St} {H' : Hp} {v : V} {u : Value}, Inv (ncx CX P w K mg base N F f A outer ⟨hp, g, d, tk, os⟩ H1 E) [] σ' H' s6 → RelV v u → Q v H' → CE outer P w H1 ⟨hp, g, d, tk, os⟩ Q u s6 :=
      fun {σ' H' v u} Z rv qz => ⟨v, H', Z.os, Z.bare, Z.base, Z.hok, rv, qz⟩
    cases fl with
    | ret u =>
      obtain ⟨v, σ', H', Z, rv, qz⟩ := hs
      exact fin Z rv qz
    | next =>
      obtain ⟨σ', H', Z, qz⟩ := hs
      exact fin (v := V.non) (u := Value.none) Z rfl qz
    | brk =>
      obtain ⟨_, _, _, qz⟩ := hs
      exact qz.elim
    | cont =>
      obtain ⟨_, _, _, qz⟩ := hs
      exact qz.elim
end
end XX

/-! XE4: C(e, ..) of an own exception class, as what a raise makes. -/
namespace XX
open PySem PySem.Spec PyProof.Rows L2 NdefX
section
variable {X : Cx} {e : Expr} {es : List Expr} {ta : TA} {p pos : Pos} {B newId i : String} {bmB : List Value}
theorem pmk_exk {CX : CXT} {x : Str} {C fI : Addr} {k : Nat} {fd : FuncData} {ps : List Str} {sp : Sp} (kd : ExKind B newId i bmB) (T : OexK X.K C newId bmB) (iC : PySem.W.findIn X.K (.ref C) "__init__" = some (some (.ref fI))) (tI : PySem.W.typeIn X.K (.ref fI) = some (.type "function"))
    (F1 : FnOk X.prog X.w X.K X.mg X.base CX k fI fd ps sp) (hr : Room (k + 1) X.A) (hb : Binds X.K fd ps []) (hx : Passes CX X (fun _ _ _ => False)) (hg : Gl X x) (hm : X.mg x = some (.ref C)) (ha : PA X (e :: es) ta)
    (hdb : (x == ("__debug__" : Str)) = false := by decide) (he : starEach (e :: es) X.env = (false, eval e X.env) :: starEach es X.env := by rfl) (hpl : (backTo pos (starEach es X.env)).any (·.1) = false := by rfl) :
    PMk X (.Call (.Name x p) (e :: es) [] pos) (tMkO C sp [] ta) := by
  intro pins s σ H Q I h
  refine wpAny_Call_Name_kw (ld_glob I hg hm ?_ hdb)
  refine PySem.W.callWith_K (h₀ := X.base) I.ok.mod.kin T.kC (thn (ha.run pos pins s σ H _ I h) fun us s1 hz => ?_) he hpl
  obtain ⟨vs, H1, I1, r1, hl1, q1⟩ := hz
  refine ⟨I1.kIn, ?_⟩
  show wpAny _ _ (call (.ref C) us) _ _ _
  have kin := I1.kIn
  obtain ⟨hp, g, dr, tk, os⟩ := s1
  obtain ⟨nm, N, q, bs, bm, hdct, sn, sub, ab, col, dd, k0, k1, k2, k3, k5, hC, hT⟩ := PySem.W.excInit_of kin T.cls
  have le1 : hp.objs.size ≤ hp.objs.size + 1 := Nat.le_succ _
  have hq := q1 (hp.objs.size + 1) (I1.hok.fresh le1)
  have keep : ∀ b o, hp.get? b = some o → ((hp.push (PySem.W.kdv_tup us)).push (PySem.HandSPX.excO C hp.objs.size)).get? b = some o := fun b o z => Heap.get?_push_of_some _ (Heap.get?_push_of_some _ z)
  have mine : ((hp.push (PySem.W.kdv_tup us)).push (PySem.HandSPX.excO C hp.objs.size)).get? (hp.objs.size + 1) = some (PySem.HandSPX.excO C hp.objs.size) := by heap_get
  have I2 : Inv X pins σ (upd H1 (hp.objs.size + 1) (exo (hp.objs.size + 1) C none)) ⟨(hp.push (PySem.W.kdv_tup us)).push (PySem.HandSPX.excO C hp.objs.size), g, dr, tk, os⟩ :=
    I1.laid (t' := tk) keep le1 (exo_ok mine)
  have r2 : Vals (V.ref (hp.objs.size + 1) :: (vs ++ [])) (Value.ref (hp.objs.size + 1) :: us) := .cons rfl (by rw [List.append_nil]; exact r1)
  have hl : (Value.ref (hp.objs.size + 1) :: us).length = ps.length := by
    have z := r2.length
    rw [F1.len _ _ _ _ hq] at z
    exact z.symm
  have hus : us.length ≤ sizeLine := by
    rw [← Paired.length r1, sizeLine_eq]
    omega
  have hbb := hb ⟨(hp.push (PySem.W.kdv_tup us)).push (PySem.HandSPX.excO C hp.objs.size), g, dr, tk, os⟩ (Value.ref (hp.objs.size + 1) :: us) I2.kIn (by simpa using hl)
  rw [List.append_nil] at hbb
  refine wpAny_call (PySem.HandSPX.call_own kd.F hT hC (PySem.W.looks_findIn kin iC) (fun self => PySem.W.bind_fn kin self tI) hus ?_)
  refine codeAny_mono (F1.run _ X.stack _ _ ⟨Value.ref (hp.objs.size + 1) :: us, []⟩ (Value.ref (hp.objs.size + 1) :: us) _ _ (fun _ _ _ => False) (hr.make C us []) (I2.env0.make C us []) hbb r2 hq) fun r s2 hq2 => ?_
  cases r with
  | error er => exact hx pins σ _ _ er s2 I2 hq2
  | ok fl =>
    cases fl with
    | ret u =>
      obtain ⟨v, H2, os2, bare2, un2, hok2, rv, rfl, d, fs, ea, ed, hd1, q2⟩ := hq2
      obtain ⟨h2, g2, d2, t2, os3⟩ := s2
      exact ⟨rv, mk_end (raises_own T.exC T.tyC) I1 le1 keep un2 hok2 os2 bare2 ea ed hd1 q2⟩
    | next => exact hq2.elim
    | brk => exact hq2.elim
    | cont => exact hq2.elim
end
/-- C(v): the attributes tag and f -/
def initSp (C : Addr) (f tag : Str) : Sp := fun vs H Q _ => ∃ a v, vs = [V.ref a, v] ∧ H a = some (exo a C none) ∧
  ∀ d, H d = none → d ≠ a → Q .non (upd (upd (upd H d (exd d [("tag", .str tag)])) a (exo a C (some d))) d (exd d [(f, v), ("tag", .str tag)]))
def tMkE (C : Addr) (f tag : Str) (ta : TA) : L2.St → Hp → XK → Prop := fun σ H Q => ta σ H fun vs H1 => ∃ v, vs = [v] ∧ ∀ d, H1 d = none → Q (.ref C) (some d) (upd H1 d (.xd [(f, v), ("tag", .str tag)]))
theorem mkE_of {C : Addr} {f tag : Str} {ta : TA} (hta : ∀ σ H (R R' : List V → Hp → Prop), ta σ H R → (∀ vs H', R vs H' → R' vs H') → ta σ H R') {σ : L2.St} {H : Hp} {Q : XK} (h : tMkE C f tag ta σ H Q) : tMkO C (initSp C f tag) [] ta σ H Q := by
  refine hta σ H _ _ h fun vs H1 hv => ?_
  obtain ⟨v, rfl, hq⟩ := hv
  refine ⟨by simp, fun a ha => ⟨a, v, rfl, upd_same, fun d hd hne => ?_⟩⟩
  have hd1 : H1 d = none := by rwa [upd_ne hne] at hd
  refine ⟨rfl, d, _, by rw [upd_ne (Ne.symm hne), upd_same], upd_same, hd1, ?_⟩
  have e : upd (del (upd (upd (upd (upd H1 a (exo a C none)) d (exd d [("tag", .str tag)])) a (exo a C (some d))) d (exd d [(f, v), ("tag", .str tag)])) a) d (.xd [(f, v), ("tag", .str tag)]) = upd H1 d (.xd [(f, v), ("tag", .str tag)]) := by
    funext b
    by_cases hb : b = d
    · subst hb
      rw [upd_same, upd_same]
    · rw [upd_ne hb, upd_ne hb]
      by_cases hb2 : b = a
      · subst hb2
        rw [del_same]
        exact ha.symm
      · rw [del_ne hb2, upd_ne hb, upd_ne hb2, upd_ne hb, upd_ne hb2]
  rw [e]
  exact hq d hd1
end XX

/-! XE5: promises of defs that may raise; raise; calls that may raise. -/
namespace XD
open PySem L2 XX
/-- what is let out: its class, its attributes -/
abbrev RX := Value → List (Str × D) → Mm → Prop
abbrev DX := List D → Mm → RD → RX → Prop
def spX (K : PySem.W.Frag) (S : DX) : Sp := fun vs H Q E => ∃ G M ds R Z, RpA K G vs ds ∧ Wd0 K G M H ∧ S ds M R Z ∧ (∀ v d G' M' H', Ex G G' → Rp K G' v d → Wd0 K G' M' H' → R d M' → Q v H') ∧
  ∀ cls dd xs fs G' M' H', Ex G G' → H' dd = some (.xd xs) → RpF K G' xs fs → Wd0 K G' M' H' → Z cls fs M' → E cls (some dd) H'
/-- E holds of all that Z tells -/
def EKo (K : PySem.W.Frag) [Bs K] (E : XK) (Z : RX) : Prop := ∀ cls dd xs fs G' M' H', Ex (Bs.G0 K) G' → H' dd = some (.xd xs) → RpF K G' xs fs → Wd0 K G' M' H' → Z cls fs M' → E cls (some dd) H'
theorem EKo.imp {K : PySem.W.Frag} [Bs K] {E : XK} {Z Z' : RX} (h : EKo K E Z) (k : ∀ c fs M, Z' c fs M → Z c fs M) : EKo K E Z' := fun c dd xs fs G' M' H' e hx r w z => h c dd xs fs G' M' H' e hx r w (k _ _ _ z)
theorem wd0_few {K : PySem.W.Frag} {G H : Hp} {M M' : Mm} (w : Wd0 K G M H) (h : Few M' M) : Wd0 K G M' H := (w.wd.sub h).toWd0
theorem EKo.few {K : PySem.W.Frag} [Bs K] {E : XK} {Z : RX} (h : EKo K E Z) : EKo K E fun c fs M => ∃ M', Few M' M ∧ Z c fs M' := fun c dd xs fs G' M' H' e hx r w z => by
  obtain ⟨M2, hf, z⟩ := z
  exact h c dd xs fs G' M2 H' e hx r (wd0_few w hf) z
section
variable {K : PySem.W.Frag} [Bs K] {ρ : Rho} {M : Mm} {R : RD} {Z : RX} {E : XK} {nx bk ct : Rho → Mm → Prop} {rt : RD}
theorem sp_xback {G G1 : Hp} (b : Ex (Bs.G0 K) G1) (hE : EKo K E Z) : ∀ cls dd xs fs G' M' H', Ex G1 G' → H' dd = some (.xd xs) → RpF K G' xs fs → Wd0 K G' M' H' → Z cls fs M' → E cls (some dd) H' :=
  fun c dd xs fs G' M' H' e => hE c dd xs fs G' M' H' (b.trans e)
theorem xe_callX {S : DX} {t : TA} (hE : EKo K E Z) (h : Xa K t ρ M fun ds M1 => S ds M1 R Z) : Xe K (tCall (spX K S) [] E t) ρ M R := by
  intro σ G H Q s w k
  refine h σ G H _ s w fun vs ds G1 M1 H1 e1 r w1 q => ?_
  rw [List.append_nil]
  exact ⟨G1, M1, ds, R, Z, r, w1.toWd0, q, sp_back w1.bs k e1, sp_xback (G := G) w1.bs hE⟩
theorem xe_methX {C : Addr} {m : Str} {S : DX} {ta : TE} {t : TA} (hE : EKo K E Z) (h : Xe K ta ρ M fun x M1 => Mcl C x m M1 ∧ Xa K t ρ M1 fun ds M2 => S (x :: ds) M2 R Z) : Xe K (tMeth C m (spX K S) [] E ta t) ρ M R := by
  intro σ G H Q s w k
  refine h σ G H _ s w fun v x G1 M1 H1 e1 r w1 q => ?_
  obtain ⟨a, dx, xs, rfl, h1, h2⟩ := q.1.at r w1
  refine ⟨a, dx, xs, rfl, h1, h2, ?_⟩
  refine q.2 σ G1 H1 _ (s.up e1) w1 fun vs ds G2 M2 H2 e2 rs w2 q2 => ?_
  rw [List.append_nil]
  exact ⟨G2, M2, x :: ds, R, Z, .cons (r.up e2) rs, w2.toWd0, q2, sp_back w2.bs k (e1.trans e2), sp_xback (G := G) w2.bs hE⟩
theorem xe_methRX {C : Addr} {m : Str} {S : DX} {ta : TE} {t : TA} (hE : EKo K E Z) (h : Xe K ta ρ M fun x M1 => Mcl C x m M1 ∧ Xa K t ρ M1 fun ds M2 => S (x :: ds) M2 R Z) : Xe K (tMethR C m (spX K S) E ta t) ρ M R := by
  intro σ G H Q s w k
  refine h σ G H _ s w fun v x G1 M1 H1 e1 r w1 q => ?_
  obtain ⟨a, dx, xs, rfl, h1, h2⟩ := q.1.at r w1
  refine ⟨a, dx, xs, rfl, h1, h2, ?_⟩
  refine q.2 σ G1 H1 _ (s.up e1) w1 fun vs ds G2 M2 H2 e2 rs w2 q2 => ?_
  exact ⟨G2, M2, x :: ds, R, Z, .cons (r.up e2) rs, w2.toWd0, q2, sp_back w2.bs k (e1.trans e2), sp_xback (G := G) w2.bs hE⟩
/-- raise C(e): the attributes f and tag -/
def tRaiseE (C : Addr) (f tag : Str) (E : XK) (ta : TA) : TS := fun _ σ H => tMkO C (initSp C f tag) [] ta σ H E
theorem ys_raiseE {C : Addr} {f tag : Str} {ta : TA} (hE : EKo K E Z) (h : Xa K ta ρ M fun ds M1 => ∃ v, ds = [v] ∧ Z (.ref C) [(f, v), ("tag", .str tag)] M1) : Xs K (tRaiseE C f tag E ta) ⟨nx, rt, bk, ct⟩ ρ M := by
  intro σ G H Dn s w k
  refine h σ G H _ s w fun vs ds G1 M1 H1 e1 rs w1 q => ?_
  obtain ⟨d0, rfl, q⟩ := q
  cases rs with
  | @cons v _ _ _ r1 rs =>
    cases rs
    refine ⟨by simp, fun a ha => ⟨a, v, rfl, upd_same, fun d hd hne => ?_⟩⟩
    have hd1 : H1 d = none := by rwa [upd_ne hne] at hd
    refine ⟨rfl, d, _, by rw [upd_ne (Ne.symm hne), upd_same], upd_same, hd1, ?_⟩
    have e : upd (del (upd (upd (upd (upd H1 a (exo a C none)) d (exd d [("tag", .str tag)])) a (exo a C (some d))) d (exd d [(f, v), ("tag", .str tag)])) a) d (.xd [(f, v), ("tag", .str tag)]) = upd H1 d (.xd [(f, v), ("tag", .str tag)]) := by
      funext b
      by_cases hb : b = d
      · subst hb
        rw [upd_same, upd_same]
      · rw [upd_ne hb, upd_ne hb]
        by_cases hb2 : b = a
        · subst hb2
          rw [del_same]
          exact ha.symm
        · rw [del_ne hb2, upd_ne hb, upd_ne hb2, upd_ne hb, upd_ne hb2]
    rw [e]
    exact hE (.ref C) d _ _ G1 M1 _ w1.bs upd_same (.cons r1 (.cons (.str tag) .nil)) (w1.junk hd1).toWd0 q
end
/-! ### defs -/
section
variable {P : Program} {w : World} {K : PySem.W.Frag} {mg : Str → Option Value} {base : Heap}
theorem rt_ok {G G0 : Hp} {R : RD} {Q : VK} (kk : ∀ v d G' M' H', Ex G G' → Rp K G' v d → Wd0 K G' M' H' → R d M' → Q v H') : @EnOk K ⟨G⟩ G { nx := fun _ M' => R .non M', rt := R } { nx := fun _ H' => Q .non H', rt := Q } := by
  letI : Bs K := ⟨G⟩
  refine ⟨?_, ?_, ?_, ?_⟩
  · exact fun σ' G' H' ρ' M' e _ w' q => kk .non .non G' M' H' e .non w'.toWd0 q
  · exact fun v d G' M' H' e r' w' q => kk v d G' M' H' e r' w'.toWd0 q
  · exact fun σ' G' H' ρ' M' e _ w' q => q
  · exact fun σ' G' H' ρ' M' e _ w' q => q
/-- what a body is asked for -/
abbrev BodyX (K : PySem.W.Frag) (S : DX) (N : List Str) (E : XK) (t : TS) : Prop := ∀ (b : Bs K) ds M R Z, S ds M R Z → @EKo K b E Z → @Xs K b t { nx := fun _ M' => R .non M', rt := R } (startD N ds) M
theorem fnx_ok {x qual : Str} {st : Stmt} {f : Addr} {fd : FuncData} {N ps : List Str} {k : Nat} {S : DX} (F : Fun K x qual st f fd) (Sc : FnScope N ps (defScope st)) (len : ∀ ds M R Z, S ds M R Z → ds.length = ps.length)
    (hbody : ∀ (cdv : Value) (A : Around) (outer : List Env) (s : Shared) (H : Hp) (E : XK), Room k (A.deeper (PyProof.Rows.envOfC qual (defScope st) s.heap.objs.size f cdv)) →
      ∃ t, PSs (cxOf (L2.CX P w) P w K mg base N qual (defScope st) f cdv A outer s H E) (defBody st) t ∧ BodyX K S N E t) : FnOk P w K mg base (L2.CX P w) (k + 1) f fd ps (spX K S) := by
  refine F.okX Sc (fun vs H Q E h => ?_) (fun cdv A outer s H vs Q E hr h => ?_)
  · obtain ⟨G, M, ds, R, Z, r, _, hs, _⟩ := h
    rw [r.length]
    exact len ds M R Z hs
  · obtain ⟨G, M, ds, R, Z, r, w0, hs, kk, kx⟩ := h
    obtain ⟨t, h1, h2⟩ := hbody cdv A outer s H E hr
    exact ⟨t, h1, h2 ⟨G⟩ ds M R Z hs kx _ G H _ (rps_start r) (@Wd.mk K ⟨G⟩ G M H w0 (Ex.refl G)) (rt_ok (G0 := G) kk)⟩
structure GFx (P : Program) (w : World) (K : PySem.W.Frag) (mg : Str → Option Value) (base : Heap) (k : Nat) (x : Str) (ps : List Str) (S : DX) : Prop where
  ex : ∃ f fd, FnOk P w K mg base (L2.CX P w) k f fd ps (spX K S) ∧ mg x = some (.ref f) ∧ PySem.W.keepIn K (.ref f) = true ∧ Binds K fd ps []
theorem GFx.mono {j k : Nat} {x : Str} {ps : List Str} {S : DX} (h : GFx P w K mg base j x ps S) (hk : j ≤ k) : GFx P w K mg base k x ps S := by
  obtain ⟨f, fd, h1, h2⟩ := h.ex
  exact ⟨f, fd, h1.mono hk, h2⟩
theorem gx_ok {x qual : Str} {st : Stmt} {N ps : List Str} {k : Nat} {S : DX} (T : FT K mg x qual st ps) (Sc : FnScope N ps (defScope st)) (len : ∀ ds M R Z, S ds M R Z → ds.length = ps.length)
    (hbody : ∀ (f : Addr) (cdv : Value) (A : Around) (outer : List Env) (s : Shared) (H : Hp) (E : XK), Room k (A.deeper (PyProof.Rows.envOfC qual (defScope st) s.heap.objs.size f cdv)) →
      ∃ t, PSs (cxOf (L2.CX P w) P w K mg base N qual (defScope st) f cdv A outer s H E) (defBody st) t ∧ BodyX K S N E t) : GFx P w K mg base (k + 1) x ps S := by
  obtain ⟨f, fd, F, h1, h2⟩ := T.ex
  exact ⟨f, fd, fnx_ok F Sc len (hbody f), h1, F.kp, h2⟩
end
/-- what a call lets out is let out -/
theorem pe_gX {X : Cx} {K : PySem.W.Frag} {k : Nat} {x : Str} {ps : List Str} {S : DX} {E : XK} {e : Expr} {es : List Expr} {t : TA} {p pos : Pos} (G : GFx X.prog X.w K X.mg X.base k x ps S) (hr : Room k X.A) (ha : PA X (e :: es) t) (hx : Passes (L2.CX X.prog X.w) X E := by exact passes_call (takes_of rfl rfl rfl rfl) fun _ _ _ _ h => h) (h : X.K = K := by rfl)
    (hg : Gl X x := by rfl) (hdb : (x == ("__debug__" : Str)) = false := by decide) (he : starEach (e :: es) X.env = (false, eval e X.env) :: starEach es X.env := by rfl) (hpl : (backTo pos (starEach es X.env)).any (·.1) = false := by rfl) :
    PE X (.Call (.Name x p) (e :: es) [] pos) (tCall (spX K S) [] E t) := by
  subst h
  obtain ⟨f, fd, h1, h2, h3, h4⟩ := G.ex
  exact pe_call h1 hr hg h2 h3 h4 .nil hx ha hdb he hpl
/-! ### exception classes -/
structure GEx (P : Program) (w : World) (K : PySem.W.Frag) (mg : Str → Option Value) (base : Heap) (x f tag : Str) : Prop where
  ex : ∃ fI fd B newId i bmB ps, ExKind B newId i bmB ∧ OexK K (clsA mg x) newId bmB ∧ PySem.W.findIn K (.ref (clsA mg x)) "__init__" = some (some (.ref fI)) ∧ PySem.W.typeIn K (.ref fI) = some (.type "function") ∧
    FnOk P w K mg base CX0 1 fI fd ps (initSp (clsA mg x) f tag) ∧ Binds K fd ps [] ∧ mg x = some (.ref (clsA mg x))
theorem ps_raiseE {X : Cx} {K : PySem.W.Frag} {mg : Str → Option Value} {x f tag : Str} {E : XK} {e : Expr} {ta : TA} {p pos pos2 : Pos} (G : GEx X.prog X.w K mg X.base x f tag) (hr : Room 2 X.A) (ha : PA X [e] ta) (hc : X.calm = true := by rfl)
    (tk : Takes X (fun cls d _ H => E cls d H) := by exact takes_of rfl rfl rfl rfl) (h : X.K = K := by rfl) (hmg : X.mg = mg := by rfl) (hg : Gl X x := by rfl)
    (hdb : (x == ("__debug__" : Str)) = false := by decide) (he : starEach [e] X.env = (false, eval e X.env) :: starEach [] X.env := by rfl) (hpl : (backTo pos (starEach [] X.env)).any (·.1) = false := by rfl) :
    PS X (.Raise (some (.Call (.Name x p) [e] [] pos)) none pos2) (tRaiseE (clsA mg x) f tag E ta) := by
  subst h
  subst hmg
  obtain ⟨fI, fd, B, newId, i, bmB, ps, kd, T, h1, h2, h3, h4, h5⟩ := G.ex
  exact ps_raise hc tk (pmk_exk kd T h1 h2 h3 hr h4 pass0 hg h5 ha hdb he hpl)
end XD

/-! XE6: own exceptions of the form: super().__init__(x); self.tag = ..; self.f = x. -/
namespace XD
open PySem L2 XX NdefX
/-- the context of such an __init__ -/
abbrev supCx (P : Program) (w : World) (K : PySem.W.Frag) (mg : Str → Option Value) (base : Heap) (N : List Str) (q : Str) (st : Stmt) (body : List Stmt) (fI c cc : Addr) (A : Around) (outer : List Env) (s : Shared) (H : Hp) (E : XK) : Cx :=
  ncx CX0 P w K mg base N (supNF "__init__" q (defArgs st) body (defScope st) cc c) fI A outer s H E
/-- what the top has written of the class -/
structure XCls (P : Program) (K : PySem.W.Frag) (mg : Str → Option Value) (x q : Str) (st : Stmt) (B newId i : String) (bmB : List Value) (f : Str) (ps : List Str) : Prop where
  at_ : mg x = some (.ref (clsA mg x))
  oex : OexK K (clsA mg x) newId bmB
  ntag : PySem.W.findIn K (.ref (clsA mg x)) "tag" = some none
  nf : PySem.W.findIn K (.ref (clsA mg x)) f = some none
  ex : ∃ (fI c cc : Addr) (oc dV kV doc pm ct : Value) (od an : Option Addr) (osl : Array (Option Value)), K.lookup fI = some ⟨oc, od, .func (supFd "__init__" q (defArgs st) (defBody st) (defScope st) cc dV kV doc pm an c ct), osl⟩ ∧ SupK K P B i q (clsA mg x) c cc ∧
    PySem.W.findIn K (.ref (clsA mg x)) "__init__" = some (some (.ref fI)) ∧ PySem.W.typeIn K (.ref fI) = some (.type "function") ∧ Binds K (supFd "__init__" q (defArgs st) (defBody st) (defScope st) cc dV kV doc pm an c ct) ps []
section
variable {P : Program} {w : World} {K : PySem.W.Frag} {mg : Str → Option Value} {base : Heap}
theorem exc_ok {x q : Str} {st : Stmt} {B newId i : String} {bmB : List Value} {f tag : Str} {N ps : List Str} {e : Expr} {rest : List Stmt} {p0 p1 p2 p3 p4 : Pos} {ar : Arg} (T : XCls P K mg x q st B newId i bmB f ps) (kd : ExKind B newId i bmB)
    (S : NScope N ps ["__class__"] (defScope st)) (hlen : ps.length = 2) (hN : N.length = 3) (hb : defBody st = .Expr (.Call (.Attribute (.Call (.Name "super" p0) [] [] p1) "__init__" p2) [e] [] p3) p4 :: rest)
    (hks : (defScope st).names.lookup ("super" : Str) = some .globalImplicit) (hpar : ((defArgs st).posonlyargs ++ (defArgs st).args).head? = some ar) (hp0 : ps[0]? = some ar.arg) (hsup : mg "super" = none)
    (hps : ∀ (fI c cc : Addr) (A : Around) (outer : List Env) (s : Shared) (H : Hp) (E : XK),
      PA (supCx P w K mg base N q st (.Expr (.Call (.Attribute (.Call (.Name "super" p0) [] [] p1) "__init__" p2) [e] [] p3) p4 :: rest) fI c cc A outer s H E) [e] (tCons (tVar 1) tNil) ∧
      starEach [e] (supCx P w K mg base N q st (.Expr (.Call (.Attribute (.Call (.Name "super" p0) [] [] p1) "__init__" p2) [e] [] p3) p4 :: rest) fI c cc A outer s H E).env = (false, eval e (supCx P w K mg base N q st (.Expr (.Call (.Attribute (.Call (.Name "super" p0) [] [] p1) "__init__" p2) [e] [] p3) p4 :: rest) fI c cc A outer s H E).env) :: starEach [] (supCx P w K mg base N q st (.Expr (.Call (.Attribute (.Call (.Name "super" p0) [] [] p1) "__init__" p2) [e] [] p3) p4 :: rest) fI c cc A outer s H E).env ∧
      (backTo p3 (starEach [] (supCx P w K mg base N q st (.Expr (.Call (.Attribute (.Call (.Name "super" p0) [] [] p1) "__init__" p2) [e] [] p3) p4 :: rest) fI c cc A outer s H E).env)).any (·.1) = false ∧
      (∃ pl : Sem Bool, eval (.Call (.Attribute (.Call (.Name "super" p0) [] [] p1) "__init__" p2) [e] [] p3) (supCx P w K mg base N q st (.Expr (.Call (.Attribute (.Call (.Name "super" p0) [] [] p1) "__init__" p2) [e] [] p3) p4 :: rest) fI c cc A outer s H E).env = (do
        let ov ← attributeBase (.Call (.Name "super" p0) [] [] p1) "__init__" (supCx P w K mg base N q st (.Expr (.Call (.Attribute (.Call (.Name "super" p0) [] [] p1) "__init__" p2) [e] [] p3) p4 :: rest) fI c cc A outer s H E).env (eval (.Call (.Name "super" p0) [] [] p1) (supCx P w K mg base N q st (.Expr (.Call (.Attribute (.Call (.Name "super" p0) [] [] p1) "__init__" p2) [e] [] p3) p4 :: rest) fI c cc A outer s H E).env)
        standAt p2.atName
        let (fx, first) ← holding [ov] (getMethod ov "__init__" pl)
        callWith p3 fx first (backTo p3 (starEach [e] (supCx P w K mg base N q st (.Expr (.Call (.Attribute (.Call (.Name "super" p0) [] [] p1) "__init__" p2) [e] [] p3) p4 :: rest) fI c cc A outer s H E).env)) [])) ∧
      PSs (supCx P w K mg base N q st (.Expr (.Call (.Attribute (.Call (.Name "super" p0) [] [] p1) "__init__" p2) [e] [] p3) p4 :: rest) fI c cc A outer s H E) rest (tSeq (tStx K newId bmB "tag" (tVar 0) (tC (.str tag))) (tStx K newId bmB f (tVar 0) (tVar 1)))) : GEx P w K mg base x f tag := by
  obtain ⟨fI, c, cc, oc, dV, kV, doc, pm, ct, od, an, osl, lk, U, h1, h2, h3⟩ := T.ex
  rw [hb] at lk h3
  refine ⟨fI, _, B, newId, i, bmB, ps, kd, T.oex, h1, h2, ?_, h3, T.at_⟩
  refine sup_fn (ta := tCons (tVar 1) tNil) kd T.oex U lk S hks hpar hp0 hsup (fun vs H Q E hz => ?_) (fun vs H Q E hz => ?_) fun A outer s H vs Q E hr hz => ?_
  · obtain ⟨a, v, rfl, _⟩ := hz
    exact hlen.symm
  · obtain ⟨a, v, rfl, he, _⟩ := hz
    exact ⟨a, _, rfl, he⟩
  · obtain ⟨q1, q2, q3, q4, q5⟩ := hps fI c cc A outer s H E
    obtain ⟨a, v, rfl, he, hq⟩ := hz
    have e0 : (startF N [V.ref a, v] [none])[0]? = some (some (.ref a)) := rfl
    have e1 : (startF N [V.ref a, v] [none])[1]? = some (some v) := rfl
    refine ⟨q1, fun R hR => ⟨v, e1, hR [v] (by simp)⟩, q2, q3, q4, _, q5, ?_⟩
    refine ⟨_, e0, a, _, rfl, T.oex, T.ntag, .inl ⟨he, fun d hd hne => ?_⟩⟩
    refine ⟨v, e1, _, e0, a, _, rfl, T.oex, T.nf, .inr ⟨d, _, upd_same, ?_, by simp, hq d hd hne⟩⟩
    rw [upd_ne hne, upd_same]
end
end XD

/-! XE7: try with several clauses, tuples of classes, as. -/
namespace XX
open PySem PySem.W
section
variable {M : Model} {K : Frag}
theorem exm_all {cls : Value} : ∀ {cs : List Value} {b : Bool}, exmAny K cls cs = some b → ∀ c ∈ cs, ∃ b1, exmOne K cls c = some b1
  | [], _, _ => fun _ h => nomatch h
  | c :: r, b, h => by
    obtain ⟨b1, d1, x1, y1, z1⟩ := exmAny_cons h
    intro c2 hc
    rcases List.mem_cons.mp hc with e | hc
    · exact e ▸ ⟨b1, x1⟩
    · exact exm_all y1 c2 hc
theorem exm_tups {cs : List Value} {cls : Value} {tp e : Addr} {b : Bool} {h : Heap} (X : K.In h) (LT : Looks M h (typeOf (.ref e)) cls) (hp : h.get? tp = some { cls := .type "tuple", data := .seq cs.toArray }) (hx : exmAny K cls cs = some b) :
    Looks M h (excMatches (.ref e) (.ref tp)) b := by
  intro A Q E s k0 q
  obtain ⟨hh, g, d, tk, os⟩ := s
  have k : ∀ b o, h.get? b = some o → hh.get? b = some o := k0
  have L0 : Looks M h (isInstance (.ref tp) (.type "tuple")) true := ((Looks.ld hp).andThen .now).andThen (Looks.of_pure isSubtype_tuple_tuple)
  have hp2 := k _ _ hp
  have LTk := LT.keeps k
  unfold excMatches
  refine wpAny_bind ((L0.keeps k).at ?_)
  dsimp only
  rw [if_pos rfl]
  first
    | refine wpAny_bind (wpAny_seqItems hp2 rfl ?_)
    | refine wpAny_bind (wpAny_bind (wpAny_seqItems hp2 rfl (wpAny_pure ?_)))
  dsimp only [Option.getD_some, Option.getD]
  have KX : K.In hh := fun b o z => k b o (X b o z)
  refine wpAny_bind (wpAny_pure ?_)
  have all := exm_all hx
  refine wpAny_bind ?_
  refine wpAny_forIn_list _ (fun rest _ s2 => (∀ c ∈ rest, c ∈ cs) ∧ s2 = ⟨hh, g, d, tk, os⟩) _ (fun x rest u s2 hI => ?_) (fun u s2 hI => ?_) cs PUnit.unit ⟨fun _ z => z, rfl⟩
  · obtain ⟨hs, rfl⟩ := hI
    obtain ⟨b1, x1⟩ := all x (hs x List.mem_cons_self)
    refine wpAny_bind ((exm_cls (M := M) KX x1).1.at ?_)
    rw [if_neg (by decide)]
    exact wpAny_pure ⟨fun c hc => hs c (List.mem_cons_of_mem _ hc), rfl⟩
  · obtain ⟨_, rfl⟩ := hI
    refine wpAny_bind (LTk.at ?_)
    refine wpAny_bind ?_
    refine wpAny_forIn_list _ (fun rest acc s2 => acc = (none, ()) ∧ exmAny K cls rest = some b ∧ s2 = ⟨hh, g, d, tk, os⟩) _ (fun x rest acc s2 hI => ?_) (fun acc s2 hI => ?_) cs (none, ()) ⟨rfl, hx, rfl⟩
    · obtain ⟨rfl, hr, rfl⟩ := hI
      obtain ⟨b1, d1, x1, y1, z1⟩ := exmAny_cons hr
      refine wpAny_bind ((exm_cls (M := M) KX x1).2.at ?_)
      cases b1 with
      | true =>
        rw [if_pos rfl]
        refine wpAny_pure ?_
        have e : b = true := by rw [z1]; rfl
        subst e
        exact wpAny_pure q
      | false =>
        rw [if_neg Bool.false_ne_true]
        refine wpAny_pure ⟨rfl, ?_, rfl⟩
        rw [y1, z1]
        rfl
    · obtain ⟨rfl, hr, rfl⟩ := hI
      cases hr
      exact wpAny_pure q
end
end XX

/-! XE8: try: body / except (A, B) as e: .. / except C as e: .. -/
namespace XX
open PySem PySem.Spec PyProof.Rows L2
/-- names of classes -/
inductive NamesOf (X : Cx) : List Expr → List Value → Prop
  | nil : NamesOf X [] []
  | cons {x : Str} {c : Value} {np : Pos} {es : List Expr} {cs : List Value} (hc : Names X x c) (r : NamesOf X es cs) : NamesOf X (.Name x np :: es) (c :: cs)
section
variable {X : Cx} {σ : L2.St} {H : Hp} {s : Shared} {a : Addr} {oe : Obj} {pn : List (Addr × Obj)} {E : Value → Shared → Prop}
theorem name_at {x : Str} {c : Value} {np : Pos} {Q : Value → Shared → Prop} (I : Inv (X.suite a ((a, oe) :: pn)) [] σ H s) (hc : Names X x c) (q : Q c s) : wpAny (model X.prog X.w) (X.A.mark (some (.ref a))) (eval (.Name x np) X.env) Q E s := by
  obtain ⟨hg, hdb, hm | ⟨hm, hv, hn⟩⟩ := hc
  · exact ld_glob (X := X.suite a ((a, oe) :: pn)) I hg hm q hdb
  · exact ld_blt (X := X.suite a ((a, oe) :: pn)) I hg hm hv q hn hdb
theorem names_at {pos : Pos} : ∀ {es : List Expr} {cs : List Value} {Q : List Value → Shared → Prop}, NamesOf X es cs → Inv (X.suite a ((a, oe) :: pn)) [] σ H s → Q cs s →
    wpAny (model X.prog X.w) (X.A.mark (some (.ref a))) (spliced (backTo pos (starEach es X.env))) Q E s := by
  intro es cs Q h
  induction h generalizing Q with
  | nil => exact fun _ q => spliced_none q
  | cons hc r ih => exact fun I q => spliced_more (name_at I hc (ih (Q := fun vs s2 => Q (_ :: vs) s2) I q))
/-- what a clause's class expression tests -/
structure HdE (X : Cx) (te : Expr) (cs : List Value) : Prop where
  run : ∀ {a : Addr} {oe : Obj} {pn : List (Addr × Obj)} {σ : L2.St} {H : Hp} {s : Shared} {cls : Value} {b : Bool} {Q : Bool → Shared → Prop} {E : Value → Shared → Prop}, Inv (X.suite a ((a, oe) :: pn)) [] σ H s →
    PySem.W.Looks (model X.prog X.w) s.heap (typeOf (.ref a)) cls → PySem.W.exmAny X.K cls cs = some b → (∀ h2, (∀ b o, s.heap.get? b = some o → h2.get? b = some o) → Q b { s with heap := h2 }) →
    wpAny (model X.prog X.w) (X.A.mark (some (.ref a))) (eval te X.env) (fun c s1 => wpAny (model X.prog X.w) (X.A.mark (some (.ref a))) (excMatches (.ref a) c) Q E s1) E s
theorem hd_one {x : Str} {c : Value} {np : Pos} (hc : Names X x c) : HdE X (.Name x np) [c] := by
  refine ⟨fun {a oe pn σ H s cls b Q E} I L hb q => name_at I hc ?_⟩
  obtain ⟨b1, d1, x1, y1, z1⟩ := PySem.W.exmAny_cons hb
  cases (show some false = some d1 from y1)
  rw [Bool.or_false] at z1
  subst z1
  exact (PySem.W.exm_one (M := model X.prog X.w) I.kIn L x1).here (q s.heap fun _ _ z => z)
theorem hd_tup {es : List Expr} {cs : List Value} {k : Nat} {pos : Pos} (hc : NamesOf X es cs) (sz : sizeOk (.seq cs.toArray)) : HdE X (.Tuple es k pos) cs := by
  refine ⟨fun {a oe pn σ H s cls b Q E} I L hb q => Tuple_ (names_at hc I ?_)⟩
  refine wpAny_newObj_type ?_ sz
  have up : ∀ b o, s.heap.get? b = some o → (s.heap.push { cls := .type "tuple", dict := none, data := .seq cs.toArray }).get? b = some o := fun b o z => Heap.get?_push_of_some _ z
  have KX : X.K.In (s.heap.push { cls := .type "tuple", dict := none, data := .seq cs.toArray }) := fun b o z => up b o (I.kIn b o z)
  exact (exm_tups (M := model X.prog X.w) KX (L.keeps up) (Heap.get?_push_at rfl rfl) hb).here (q _ up)
end
/-- what the clauses wish of an exception, one behind the other; slot i is the name's -/
def wHs (K : PySem.W.Frag) (Wout : WX) (i : Nat) (D : Ends) : List (List Value × (Addr → Value → Option Addr → TS)) → WX
  | [] => Wout
  | (cs, ts) :: r => fun cls d σ H => ∃ b, PySem.W.exmAny K cls cs = some b ∧
      (b = true → ∀ a, H a = none → ts a cls d { nx := fun σ' H' => D.nx (σ'.set i none) H', rt := D.rt, bk := fun σ' H' => D.bk (σ'.set i none) H', ct := fun σ' H' => D.ct (σ'.set i none) H' } (σ.set i (some (.ref a))) H) ∧
      (b = false → wHs K Wout i D r cls d σ H)
inductive HdsA (X : Cx) (n : Str) : List ExceptHandler → List (List Value × (Addr → Value → Option Addr → TS)) → Prop
  | nil : HdsA X n [] []
  | cons {te : Expr} {cs : List Value} {ts : Addr → Value → Option Addr → TS} {b0 : Stmt} {suite : List Stmt} {hp : Pos} {hds : List ExceptHandler} {l : List (List Value × (Addr → Value → Option Addr → TS))} (hc : HdE X te cs)
      (hsu : ∀ (a : Addr) (oe : Obj) (cls : Value) (d : Option Addr) (pn : List (Addr × Obj)), Zc cls d oe → (∃ vs, oe.data = .fields vs) → PSs (X.suite a ((a, oe) :: pn)) (b0 :: suite) (ts a cls d)) (r : HdsA X n hds l) :
      HdsA X n (.ExceptHandler (some te) (some n) (b0 :: suite) hp :: hds) ((cs, ts) :: l)
theorem flying_up {base h h2 : Heap} {l : List Env} {e : Addr} {Z : Obj → Prop} (f : PySem.HandSPX.FlyingZ base l e Z h) (k : ∀ b o, h.get? b = some o → h2.get? b = some o) : PySem.HandSPX.FlyingZ base l e Z h2 := by
  obtain ⟨f1, f2, f3, oe, vs, T, oT, ts, t1, t2, t3, t4, t5, t6, t7, t8, t9⟩ := f
  exact ⟨fun b o z => k b o (f1 b o z), f2, f3.of_keeps fun b o z _ => ⟨o, k b o z, rfl⟩, oe, vs, T, oT, ts, k _ _ t1, t2, t3, t4, t5, t6, k _ _ t7, t8, t9⟩
section
variable {X : Cx} {body : List Stmt} {n : Str} {i : Nat} {h0 : ExceptHandler} {hds : List ExceptHandler} {l : List (List Value × (Addr → Value → Option Addr → TS))} {pos : Pos} {tb : WX → TS} {Wout : WX}
theorem ps_try_hs (hs : X.stack = X.env :: X.outer) (hf : X.env.frame = some X.env.locals) (hN : X.N.Nodup) (hi : X.N[i]? = some n) (hln : X.env.kindOf n = some .local) (tk : Takes X Wout)
    (hb : ∀ (W : WX) (pn : List (Addr × Obj)) (xe : Value → Shared → Prop), Takes (X.tr pn xe) W → PassesOwn (model X.prog X.w) X.A X.env xe → PSs (X.tr pn xe) body (tb W))
    (hh : HdsA X n (h0 :: hds) l) : PS X (.Try body (h0 :: hds) [] [] pos) (fun D σ H => tb (wHs X.K Wout i D l) D σ H) := by
  refine ⟨fun pins s σ H D I h => ?_⟩
  have ok := I.ok
  have frames : X.A.frames = some (X.env :: X.outer) := ok.frames.trans (congrArg some hs)
  refine wpAny_Try_except ?_
  have run := (hb (wHs X.K Wout i D l) (X.pn ++ pins) (fun e s1 => wpAny (model X.prog X.w) X.A (noteFrame e X.env) (fun _ s2 => wpAny (model X.prog X.w) X.A (setFlight e none) (fun _ s3 =>
    wpAny (model X.prog X.w) X.A (handleBy e X.env (h0 :: hds)) (SP X pins D) X.xe s3) X.xe s2) X.xe s1) (fun u s2 xx => ?_) PassesOwn.looking).run [] s σ H D (I.toTry _) h
  · refine wpAny_mono run (fun f s1 hsp => ?_) fun e s1 he => he
    cases f with
    | next =>
      obtain ⟨σ2, H2, J, q⟩ := hsp
      exact wpAny_execs_nil ⟨σ2, H2, J.ofTry ok, q⟩
    | brk =>
      obtain ⟨σ2, H2, J, q⟩ := hsp
      exact ⟨σ2, H2, J.ofTry ok, q⟩
    | cont =>
      obtain ⟨σ2, H2, J, q⟩ := hsp
      exact ⟨σ2, H2, J.ofTry ok, q⟩
    | ret u =>
      obtain ⟨v, σ2, H2, J, r, q⟩ := hsp
      exact ⟨v, σ2, H2, J.ofTry ok, r, q⟩
  obtain ⟨a, B, sI, pins2, σ2, H2, cls, d, rfl, J0, nb, up, sky, na, os, ag, w⟩ := xx
  have J : Inv X pins σ2 H2 sI := J0.ofTry ok
  rw [hs] at sky
  show wpAny (model X.prog X.w) X.A (noteFrame (.ref a) X.env) _ _ _
  refine Sky.land Zc.steady frames hf sky fun h3 fl3 up3 => ?_
  have off : ∀ {h : Heap} {o : Obj} {vs : Array Value}, h.FunFrames B (X.env :: X.outer) → h.get? a = some o → o.data = .fields vs → a ∉ frs (X.env :: X.outer) := fun {h o vs} ff z dd hm => by
    obtain ⟨_, o2, z2, hnf⟩ := ff.mem hm
    cases z.symm.trans z2
    exact hnf _ dd
  have go : ∀ {hd2 : List ExceptHandler} {l2 : List (List Value × (Addr → Value → Option Addr → TS))}, HdsA X n hd2 l2 → ∀ h4 : Heap, PySem.HandSPX.FlyingZ B (X.env :: X.outer) a (Zc cls d) h4 → s2.heap.UpToSlots h4 → wHs X.K Wout i D l2 cls d σ2 H2 →
      wpAny (model X.prog X.w) X.A (handleBy (.ref a) X.env hd2) (SP X pins D) X.xe { s2 with heap := h4 } := by
    intro hd2 l2 hk
    induction hk with
    | nil =>
      intro h4 fl4 up4 w
      refine wpAny_handleBy_nil ?_
      obtain ⟨_, _, _, oe, vs, T, oT, ts, he, hz, hd, h1, hr⟩ := id fl4
      unfold PySem.passOn
      refine wpAny_bind ?_
      refine wpAny_field he hd h1 ?_
      rw [if_neg (show ¬ ((Value.ref T == Value.none) = true) from by simp)]
      have last : wpAny (model X.prog X.w) X.A (setFlight (.ref a) X.env.frame) (fun _ s5 => wpAny (model X.prog X.w) X.A (throw (.ref a) : Sem Flow) (SP X pins D) X.xe s5) X.xe { s2 with heap := h4 } := by
        rw [hf]
        refine PySem.HandSPX.setFlight_upZ fl4 fun h5 hh5 up5 => wpAny_throw (tk _ _ ?_)
        exact ⟨a, B, sI, pins, σ2, H2, cls, d, rfl, J, nb, (up.trans up4).trans up5, .inr (.inr (hs ▸ hh5)), na, os, ag, w⟩
      first
        | exact wpAny_bind (wpAny_pure (wpAny_bind last))
        | exact wpAny_bind last
    | @cons te cs ts b0 suite hp hds3 l3 hc hsu r ih =>
      intro h4 fl4 up4 w
      obtain ⟨b, hb1, yes, no⟩ := w
      have J4 : Inv X pins σ2 H2 { s2 with heap := h4 } := J.landed nb fl4.1 (up.trans up4) os ag
      obtain ⟨oe4, vs4, he4, hz4, hd4⟩ := fl4.there
      have nfr := off fl4.2.2.1 he4 hd4
      have nL : a ≠ X.env.locals := fun z => nfr (List.mem_filterMap.mpr ⟨X.env, List.mem_cons_self, hf.trans (congrArg some z.symm)⟩)
      have nF : a ∉ X.fs := fun hm => by
        obtain ⟨z, hz, q⟩ := List.mem_filterMap.mp hm
        exact nfr (List.mem_filterMap.mpr ⟨z, List.mem_cons_of_mem _ hz, q⟩)
      have S4 := J4.suite he4 hd4 na nL nF
      have LT : PySem.W.Looks (model X.prog X.w) h4 (typeOf (.ref a)) cls := fun A Q E s k q => wpAny_typeOf_ref (k _ _ he4) (by rw [hz4.1]; exact q)
      refine wpAny_handleBy_cons (codeAny_handlers_test ?_) (fun q => nomatch q)
      refine hc.run S4 LT hb1 fun h5 k5 => ?_
      have fl5 := flying_up fl4 k5
      have up5 : s2.heap.UpToSlots h5 := up4.trans fun b o z _ => ⟨o.slots, k5 b o z⟩
      cases b with
      | false =>
        show wpAny _ X.A (handleBy (.ref a) X.env hds3) _ _ _
        exact ih h5 fl5 up5 (no rfl)
      | true =>
        refine codeAny_handlers_suite_as ?_
        refine PySem.HandSPX.lands_againZ fl5 fun h6 fl6 up6 => ?_
        have J6 : Inv X pins σ2 H2 { s2 with heap := h6 } := J.landed nb fl6.1 ((up.trans up5).trans up6) os ag
        obtain ⟨oe6, vs6, he6, hz6, hd6⟩ := fl6.there
        have S6 := J6.suite he6 hd6 na nL nF
        refine store_ok (X := X.suite a ((a, oe6) :: (X.pn ++ pins))) (v := .ref a) S6 hN hi (.inl hln) rfl (fun s7 S7 => ?_) (.inr hln)
        refine wpAny_mono ((hsu a oe6 cls d (X.pn ++ pins) hz6 ⟨_, hd6⟩).run [] s7 _ H2 _ S7 (yes rfl a na)) (fun f s8 hsp => ?_) fun _ _ z => z.elim
        have gone : ∀ {σ8 : L2.St} {H8 : Hp} {Q : Shared → Prop}, Inv (X.suite a ((a, oe6) :: (X.pn ++ pins))) [] σ8 H8 s8 → (∀ s9, Inv X pins (σ8.set i none) H8 s9 → Q s9) →
            wpAny (model X.prog X.w) X.A (do bindName X.env n .none; unbindBehindTheSuite X.env n hp) (fun _ s9 => Q s9) X.xe s8 := fun {σ8 H8 Q} S8 hq => gone_ok (S8.unsuite ok) hN hi hln hq
        cases f with
        | next =>
          obtain ⟨σ8, H8, S8, q8⟩ := hsp
          exact gone S8 fun s9 J9 => ⟨_, _, J9, q8⟩
        | brk =>
          obtain ⟨σ8, H8, S8, q8⟩ := hsp
          exact gone S8 fun s9 J9 => ⟨_, _, J9, q8⟩
        | cont =>
          obtain ⟨σ8, H8, S8, q8⟩ := hsp
          exact gone S8 fun s9 J9 => ⟨_, _, J9, q8⟩
        | ret u =>
          obtain ⟨v8, σ8, H8, S8, r8, q8⟩ := hsp
          exact gone S8 fun s9 J9 => ⟨_, _, _, J9, r8, q8⟩
  exact go hh h3 fl3 up3 w
end
end XX

/-! XE9: _law_why(lambda: ..): what the tag and the field of an exception are. -/
namespace XX
open PySem PySem.Spec PyProof.Rows L2
/-- e.f of the exception in hand, whatever its class: the class's facts are told by the reading -/
def tXfA (K : PySem.W.Frag) (a : Addr) (cls : Value) (d : Option Addr) (f : Str) (te : TE) : TE := fun σ H Q => te σ H fun x H1 => x = .ref a ∧ ∃ (C dd : Addr) (fs : List (Str × V)) (v : V), cls = .ref C ∧ XfC K C ∧ PySem.W.findIn K (.ref C) f = some none ∧ d = some dd ∧ H1 dd = some (.xd fs) ∧ fs.lookup f = some v ∧ Q v H1
theorem pe_xfA {X : Cx} {a : Addr} {oe : Obj} {cls : Value} {d : Option Addr} {pn : List (Addr × Obj)} {e : Expr} {te : TE} {pos : Pos} {n : Str}
    (hz : Zc cls d oe) (hf : ∃ vs, oe.data = .fields vs) (he : PE (X.suite a ((a, oe) :: pn)) e te) (hb : attributeBase e n X.env (eval e X.env) = eval e X.env := by rfl) :
    PE (X.suite a ((a, oe) :: pn)) (.Attribute e n pos) (tXfA X.K a cls d n te) := by
  refine ⟨fun pins s σ H Q I h => attr_of hb (thn (he.run pins s σ H _ I h) ?_)⟩
  rintro u s1 ⟨x, H1, I1, rx, ex, C, dd, fs, v, ec, T, hno, ed, ea, l, q⟩
  subst ex
  obtain rfl : u = Value.ref a := rx
  subst ec ed
  have J1 := (I1.pin (a, oe) (List.mem_append_left _ List.mem_cons_self)).1
  obtain ⟨vs, hd⟩ := hf
  obtain ⟨mA, hns, hr⟩ : ObjOk X.prog X.w H1 s1.heap dd (.xd fs) := I1.hok dd _ ea
  obtain ⟨od, ho, hl⟩ := lookIn_ns hns
  obtain ⟨u, hu, ru⟩ := RelO.some_of (v := v) (o := mA n) (l ▸ hr n)
  have nc : PySem.W.notCls oe := by
    unfold PySem.W.notCls
    rw [hd] <;> rfl
  exact PySem.HandSPX.exc_get I1.kIn ⟨J1, hz.1, nc, by rw [hz.2]; exact ho⟩ T.ga T.gg T.exC (PySem.W.findObj_own T.hdC hno rfl ((hl _).trans (congrArg _ hu))) (handed_of ru) ⟨v, H1, I1.tok _, ru, q⟩
/-- a clause: told = (e.tag, e.f), or told = (e.tag, None) -/
def whyTs (K : PySem.W.Frag) : Option Str → Addr → Value → Option Addr → TS
  | some f, a, cls, d => tAsg (tTup (tCons (tXfA K a cls d "tag" (tVar 2)) (tCons (tXfA K a cls d f (tVar 2)) tNil))) (gName 1)
  | none, a, cls, d => tAsg (tTup (tCons (tXfA K a cls d "tag" (tVar 2)) (tCons (tC .non) tNil))) (gName 1)
abbrev Clauses := List (List Value × Option Str)
def clTs (K : PySem.W.Frag) (cl : Clauses) : List (List Value × (Addr → Value → Option Addr → TS)) := cl.map fun c => (c.1, whyTs K c.2)
/-- the clause for cls names the field fo -/
def Pick (K : PySem.W.Frag) (cls : Value) : Clauses → Option Str → Prop
  | [], _ => False
  | (cs, f) :: r, fo => (PySem.W.exmAny K cls cs = some true ∧ f = fo) ∨ (PySem.W.exmAny K cls cs = some false ∧ Pick K cls r fo)
def fieldIs (K : PySem.W.Frag) (C : Addr) (fs : List (Str × V)) : Option Str → V → Prop
  | some f, v => PySem.W.findIn K (.ref C) f = some none ∧ fs.lookup f = some v
  | none, v => v = .non
/-- what is told of an exception -/
def WhyE (K : PySem.W.Frag) (cl : Clauses) (Q : VK) : XK := fun cls d H => ∃ (C dd : Addr) (fs : List (Str × V)) (tg v : V) (fo : Option Str), cls = .ref C ∧ d = some dd ∧ H dd = some (.xd fs) ∧ XfC K C ∧ Pick K (.ref C) cl fo ∧
  PySem.W.findIn K (.ref C) "tag" = some none ∧ fs.lookup ("tag" : Str) = some tg ∧ fieldIs K C fs fo v ∧ ∀ b, H b = none → Q (.ref b) (upd H b (.tup [tg, v]))
def TTwhy (K : PySem.W.Frag) (cl : Clauses) : (XK → Hp → VK → Prop) → Hp → VK → Prop := fun tl H Q => ∀ b, H b = none → tl (WhyE K cl Q) (upd H b (.tup [.str "", .non])) fun _ H' => Q (.ref b) H'
theorem sz2 {x y : V} : [x, y].length ≤ sizeLine := by
  show 2 ≤ sizeLine
  decide
theorem takes_len {X : Cx} {W : WX} (tk : Takes X W) : Takes X fun cls d σ H => σ.length = X.N.length → W cls d σ H := fun u s' ⟨a, B, sI, pins, σ, H, cls, d, e, I, nb, up, sky, na, os, ag, w⟩ => tk u s' ⟨a, B, sI, pins, σ, H, cls, d, e, I, nb, up, sky, na, os, ag, w I.len⟩
theorem pick_hs {K : PySem.W.Frag} {C dd : Addr} {fs : List (Str × V)} {tg v : V} {fo : Option Str} {Dn : Ends} {σ : L2.St} {H : Hp} {Q : VK} (hl : σ.length = 3) (hd : H dd = some (.xd fs)) (T : XfC K C) (nt : PySem.W.findIn K (.ref C) "tag" = some none) (ht : fs.lookup ("tag" : Str) = some tg) (hf : fieldIs K C fs fo v)
    (hq : ∀ b, H b = none → Q (.ref b) (upd H b (.tup [tg, v]))) (hn : ∀ (σ' : L2.St) (H' : Hp) b, σ'[1]? = some (some (V.ref b)) → Q (.ref b) H' → Dn.nx σ' H') : ∀ {cl : Clauses}, Pick K (.ref C) cl fo → wHs K (fun _ _ _ _ => False) 2 Dn (clTs K cl) (.ref C) (some dd) σ H
  | [], h => False.elim h
  | (cs, f) :: r, .inr h => ⟨false, h.1, (fun z => nomatch z), fun _ => pick_hs hl hd T nt ht hf hq hn h.2⟩
  | (cs, f) :: r, .inl h => by
    obtain ⟨h1, rfl⟩ := h
    refine ⟨true, h1, fun _ a ha => ?_, (fun z => nomatch z)⟩
    have at2 : (σ.set 2 (some (V.ref a)))[2]? = some (some (V.ref a)) := by
      rw [List.getElem?_set_self]
      omega
    have at1 : ∀ b : Addr, ((((σ.set 2 (some (V.ref a))).set 1 (some (V.ref b))).set 2 none))[1]? = some (some (V.ref b)) := fun b => by
      rw [List.getElem?_set_ne (by decide), List.getElem?_set_self]
      rw [List.length_set]
      omega
    cases f with
    | some f => exact ⟨_, at2, rfl, C, dd, fs, tg, rfl, T, nt, rfl, hd, ht, _, at2, rfl, C, dd, fs, v, rfl, T, hf.1, rfl, hd, hf.2, sz2, fun b hb => hn _ _ b (at1 b) (hq b hb)⟩
    | none =>
      have hf : v = .non := hf
      subst hf
      exact ⟨_, at2, rfl, C, dd, fs, tg, rfl, T, nt, rfl, hd, ht, sz2, fun b hb => hn _ _ b (at1 b) (hq b hb)⟩
/-- told = ("", None); try: a() / except .. as e: .. ; return told -/
theorem why_gives {X : Cx} {Ng : List Str} {x a q vT vE : Str} {sg : Scope} {g : Addr} {cdg : Value} {j1 j2 n1 : Nat} {p1 p2 p3 p4 p5 p6 p7 p8 p9 p10 p11 : Pos} {h0 : ExceptHandler} {hds : List ExceptHandler} {cl : Clauses}
    (hNg : Ng = [a, vT, vE]) (nd : Ng.Nodup) (hlT : sg.names.lookup vT = some .local) (hlE : sg.names.lookup vE = some .local) (hdT : (vT == ("__debug__" : Str)) = false) (hcT : (vT == ("__classdict__" : Str)) = false)
    (hh : ∀ (s : Shared) (H : Hp), HdsA (cxOf C8.CX0 X.prog X.w X.K X.mg X.base Ng x sg g cdg X.A X.stack s H C8.E0).nox vE (h0 :: hds) (clTs X.K cl)) :
    LamX.GivesTo X Ng x sg g cdg [.Assign [.Name vT p1] (.Tuple [.Constant (.str "") j1 p2, .Constant .none j2 p3] n1 p4) p5, .Try [.Expr (.Call (.Name a p6) [] [] p7) p8] (h0 :: hds) [] [] p9, .Return (some (.Name vT p10)) p11] a q (TTwhy X.K cl) := by
  intro f c' s H Q tl act hc h
  subst hNg
  have N1 : (cxOf C8.CX0 X.prog X.w X.K X.mg X.base [a, vT, vE] x sg g cdg X.A X.stack s H C8.E0).nox.N = [a, vT, vE] := rfl
  refine ⟨_, pss_cons (ps_asg (pe_tup (pa_cons pe_str (pa_cons pe_non pa_nil))) (pg_name (i := 1) nd rfl (.inl hlT))) (pss_cons (ps_try_hs (X := (cxOf C8.CX0 X.prog X.w X.K X.mg X.base [a, vT, vE] x sg g cdg X.A X.stack s H C8.E0).nox) (i := 2) (Wout := fun _ _ _ _ => False)
      (tb := fun W D σ H => ∃ Ech : XK, (∀ cls d σ' H', Ech cls d H' → σ'.length = 3 → W cls d σ' H') ∧ σ[0]? = some (some (.ref f)) ∧ H c' = some (LamX.CodeO c' q) ∧ tl Ech H fun _ H' => D.nx σ H')
      rfl rfl nd rfl hlE LamX.takes0 (fun W pn xe tk _ => ?_) (hh s H)) (pss_one (ps_ret (pe_var (i := 1) rfl (.inl hlT) hdT hcT)))), ?_⟩
  · refine ⟨fun pins s' σ H' D I h' => ?_⟩
    obtain ⟨Ech, hW, h1, h2, h3⟩ := h'
    have hp := act (fun cls d σ' H' => σ'.length = 3 → W cls d σ' H') pn xe Ech p6 p7 (takes_len tk) hW
    exact (pss_one (ps_expr (pos := p8) hp)).run pins s' σ H' D I ⟨h1, h2, h3⟩
  · refine ⟨sz2, fun b hb => ?_⟩
    have nb : c' ≠ b := fun z => by rw [z, hb] at hc; cases hc
    refine ⟨WhyE X.K cl Q, fun cls d σ' H' hx hl => ?_, rfl, by rw [upd_ne nb]; exact hc, ?_⟩
    · obtain ⟨C, dd, fs, tg, v, fo, rfl, rfl, hd, T, pk, nt, ht, hf, hq⟩ := hx
      refine pick_hs hl hd T nt ht hf hq ?_ pk
      intro σ2 H2 b2 e q2
      exact ⟨_, e, q2⟩
    · have e : (fun (_ : V) (H' : Hp) => ∃ v, ((L2.start [a, vT, vE] [V.ref f]).set 1 (some (V.ref b)))[1]? = some (some v) ∧ Q v H') = fun _ H' => Q (.ref b) H' := by
        funext _ H'
        exact propext ⟨fun ⟨v, e, q⟩ => by cases e; exact q, fun q => ⟨_, rfl, q⟩⟩
      show tl (WhyE X.K cl Q) _ _
      exact e ▸ h b hb
end XX

/-! XE10: _law_why(lambda: ..) over the layer; the facts of the classes that are raised. -/
namespace XD
open PySem L2 XX
/-- the lambda is made: its table may have grown, all else stands -/
theorem wd_lamC {K : PySem.W.Frag} [Bs K] {G H H1 : Hp} {M : Mm} {P : Addr} {q : Str} (w : Wd K G M H) (ho : ∀ p ∈ M, ∀ q', p.2 = .tab q' → p = (P, .tab q)) (eN : LamX.ExtN H H1) (T1 : LamX.Tabs [(P, q)] H1) : ∃ G1, Ex G G1 ∧ Wd K G1 M H1 ∧ ∀ a q, H1 a = some (LamX.CodeO a q) → G1 a = some (LamX.CodeO a q) := by
  classical
  let G1 : Hp := fun a => if (∃ q, H1 a = some (LamX.CodeO a q)) then H1 a else G a
  have yes : ∀ {a : Addr} {q : Str}, H1 a = some (LamX.CodeO a q) → G1 a = some (LamX.CodeO a q) := fun {a q} h => (if_pos ⟨q, h⟩).trans h
  have cases1 : ∀ a, (∃ q, H1 a = some (LamX.CodeO a q) ∧ G1 a = some (LamX.CodeO a q)) ∨ G1 a = G a := fun a => by
    by_cases h : ∃ q, H1 a = some (LamX.CodeO a q)
    · obtain ⟨q, h⟩ := h
      exact .inl ⟨q, h, yes h⟩
    · exact .inr (if_neg h)
  have eG : Ex G G1 := fun a o hg => by
    rcases cases1 a with ⟨q, h1, h2⟩ | h2
    · rcases w.ex a o hg with e | ⟨_, od, e, _⟩
      · have e2 := eN a o e fun ps z => w.nt a ps (z ▸ hg)
        rw [h1] at e2
        rw [h2, e2]
      · have e2 := eN a _ e fun ps z => by cases z
        rw [h1] at e2
        exact absurd (Option.some.inj e2) fun z => by
          unfold LamX.CodeO at z
          cases z
    · rw [h2, hg]
  refine ⟨G1, eG, ⟨⟨fun a o hg => ?_, fun p hp => ?_, w.nd, fun a ps hg => ?_⟩, w.bs.trans eG⟩, fun a q h => yes h⟩
  · rcases cases1 a with ⟨q, h1, h2⟩ | h2
    · rw [h2] at hg
      exact .inl (h1.trans hg)
    · rw [h2] at hg
      rcases w.ex a o hg with e | ⟨hd, od, e, hm⟩
      · exact .inl (eN a o e fun ps z => w.nt a ps (z ▸ hg))
      · exact .inr ⟨hd, od, eN a _ e (fun ps z => by cases z), hm⟩
  · have q2 := w.mo p hp
    by_cases ht : ∃ q', p.2 = .tab q'
    · obtain ⟨q', ht⟩ := ht
      rw [ho p hp q' ht]
      obtain ⟨ps, h1, h2, h3⟩ := T1 (P, q) List.mem_cons_self
      refine ⟨ps, h1, h2, fun pos cv z => ?_⟩
      obtain ⟨c, e1, e2⟩ := h3 pos cv z
      exact ⟨c, e1, yes e2⟩
    · have key : ∀ o, H p.1 = some o → (∀ ps, o ≠ .tbl ps) := fun o e ps z => by
        obtain ⟨a, m⟩ := p
        cases m with
        | tab q' => exact ht ⟨q', rfl⟩
        | lst ds => obtain ⟨_, xs, h1, _⟩ := q2; rw [e] at h1; cases h1; cases z
        | dk ds => obtain ⟨_, xs, h1, _⟩ := q2; rw [e] at h1; cases h1; cases z
        | dt ds => obtain ⟨_, xs, h1, _⟩ := q2; rw [e] at h1; cases h1; cases z
        | ins C fs => obtain ⟨_, dx, xs, h1, _⟩ := q2; rw [e] at h1; cases h1; cases z
        | feed => obtain ⟨_, c, i, b, s, ns, h1, _⟩ := q2; rw [e] at h1; cases h1; cases z
        | lck od => obtain ⟨o', _, _, h3⟩ := q2; rw [e] at h3; cases h3; cases z
      obtain ⟨o, e⟩ := q2.some
      have e1 := eN _ _ e (key o e)
      refine q2.up eG (e1.trans e.symm) fun l => ?_
      rcases cases1 p.1 with ⟨q3, h1, _⟩ | h2
      · rw [e1] at h1
        obtain ⟨a, m⟩ := p
        have h1 := Option.some.inj h1
        unfold LamX.CodeO at h1
        cases m with
        | tab q' => cases l
        | lck od => cases l
        | lst ds => obtain ⟨_, xs, h3, _⟩ := q2; rw [e] at h3; cases h3; cases h1
        | dk ds => obtain ⟨_, xs, h3, _⟩ := q2; rw [e] at h3; cases h3; cases h1
        | dt ds => obtain ⟨_, xs, h3, _⟩ := q2; rw [e] at h3; cases h3; cases h1
        | ins C fs => obtain ⟨_, dx, xs, h3, _⟩ := q2; rw [e] at h3; cases h3; cases h1
        | feed => obtain ⟨_, c, i, b, s, ns, h3, _⟩ := q2; rw [e] at h3; cases h3; cases h1
      · rw [h2]
        exact q2.gnone l
  · rcases cases1 a with ⟨q, h1, h2⟩ | h2
    · rw [h2] at hg
      exact LamX.codeO_ne ps (Option.some.inj hg)
    · rw [h2] at hg
      exact w.nt a ps hg
theorem wd_lam {K : PySem.W.Frag} [Bs K] {G H H1 : Hp} {M : Mm} {P : Addr} {q : Str} (w : Wd K G M H) (ho : ∀ p ∈ M, ∀ q', p.2 = .tab q' → p = (P, .tab q)) (eN : LamX.ExtN H H1) (T1 : LamX.Tabs [(P, q)] H1) : ∃ G1, Ex G G1 ∧ Wd K G1 M H1 :=
  let ⟨G1, e, w1, _⟩ := wd_lamC w ho eN T1
  ⟨G1, e, w1⟩
def fieldD (K : PySem.W.Frag) (C : Addr) (fs : List (Str × D)) : Option Str → D → Prop
  | some f, v => PySem.W.findIn K (.ref C) f = some none ∧ fs.lookup f = some v
  | none, v => v = .non
/-- what _law_why tells of the exception -/
def WhyD (K : PySem.W.Frag) (cl : Clauses) (R : RD) : RX := fun cls fs M => ∃ (C : Addr) (tg v : D) (fo : Option Str), cls = .ref C ∧ XfC K C ∧ Pick K (.ref C) cl fo ∧ PySem.W.findIn K (.ref C) "tag" = some none ∧ fs.lookup ("tag" : Str) = some tg ∧ fieldD K C fs fo v ∧ R (.tup [tg, v]) M
section
variable {K : PySem.W.Frag} [Bs K] {ρ : Rho} {M : Mm} {R : RD}
theorem xe_why {P : Addr} {q : Str} {cl : Clauses} {t : XK → TE} (hm : Has M P (.tab q)) (ho : ∀ p ∈ M, ∀ q', p.2 = .tab q' → p = (P, .tab q))
    (h : ∀ (b : Bs K) (E : XK), @EKo K b E (WhyD K cl R) → @Xe K b (t E) ρ M fun _ M1 => R (.tup [.str "", .non]) M1) : Xe K (LamX.tLam [(P, q)] (TTwhy K cl) t) ρ M R := by
  intro σ G H Q s w k
  refine ⟨fun p hp => ?_, fun H1 eN T1 b hb => ?_⟩
  · cases List.mem_singleton.mp hp
    obtain ⟨ps, h1, h2, h3⟩ := w.get hm
    refine ⟨ps, h1, h2, fun pos cv z => ?_⟩
    obtain ⟨c, e1, e2⟩ := h3 pos cv z
    exact ⟨c, e1, w.at' e2 fun z => by
      unfold LamX.CodeO at z
      exact z⟩
  · obtain ⟨G1, e1, w1⟩ := wd_lam w ho eN T1
    have w2 := w1.new (o := .tup [.str "", .non]) hb
    have e2 : Ex G (upd G1 b (.tup [.str "", .non])) := e1.trans (Ex.new (w1.gfree hb))
    have w20 := w2.toWd0
    have s2 := s.up e2
    refine @h ⟨upd G1 b (.tup [.str "", .non])⟩ (WhyE K cl Q) ?_ σ _ _ _ s2 (@Wd.mk K ⟨_⟩ _ M _ w20 (Ex.refl _)) ?_
    rotate_left
    · intro v d G' M' H' e r w' hq
      obtain ⟨w5, _⟩ := w'
      have e3 := e2.trans e
      exact k (.ref b) (.tup [.str "", .non]) G' M' H' e3 (.tup (e _ _ upd_same) (.cons (.str _) (.cons .non .nil))) ⟨w5, w.bs.trans e3⟩ hq
    · rintro cls dd xs fs G' M' H' e hx r w' ⟨C, tg, v, fo, rfl, T, pk, nt, ht, hf, hq⟩
      have e3 := e2.trans e
      obtain ⟨tv, l1, r1⟩ := r.lookup ht
      have fin : ∀ vv, Rp K G' vv v → ∀ b2, H' b2 = none → Q (.ref b2) (upd H' b2 (.tup [tv, vv])) := fun vv rv b2 hb2 => by
        have w3 : Wd K G' M' H' := ⟨w', w.bs.trans e3⟩
        have e4 := Ex.new (o := .tup [tv, vv]) (w3.gfree hb2)
        exact k _ (.tup [tg, v]) _ M' _ (e3.trans e4) (.tup upd_same (.cons (r1.up e4) (.cons (rv.up e4) .nil))) (w3.new hb2) hq
      cases fo with
      | none =>
        have hf : v = .non := hf
        subst hf
        exact ⟨C, dd, xs, tv, .non, none, rfl, rfl, hx, T, pk, nt, l1, rfl, fin _ .non⟩
      | some f =>
        obtain ⟨vv, l2, r2⟩ := r.lookup hf.2
        exact ⟨C, dd, xs, tv, vv, some f, rfl, rfl, hx, T, pk, nt, l1, ⟨hf.1, l2⟩, fin _ r2⟩
end
/-- what is known of a class that is raised -/
structure ExW (K : PySem.W.Frag) (mg : Str → Option Value) (x : Str) (cl : Clauses) (fo : Option Str) : Prop where
  xf : XfC K (clsA mg x)
  pick : Pick K (.ref (clsA mg x)) cl fo
  tag : PySem.W.findIn K (.ref (clsA mg x)) "tag" = some none
  fld : ∀ f, fo = some f → PySem.W.findIn K (.ref (clsA mg x)) f = some none
theorem ExW.told {K : PySem.W.Frag} {mg : Str → Option Value} {x f : Str} {cl : Clauses} {R : RD} {M : Mm} {tg v : D} (W : ExW K mg x cl (some f)) (h : R (.tup [tg, v]) M) (hf : (f == "tag") = false := by decide) (hf2 : (("tag" : Str) == f) = false := by decide) : WhyD K cl R (.ref (clsA mg x)) [(f, v), ("tag", tg)] M := by
  refine ⟨_, tg, v, _, rfl, W.xf, W.pick, W.tag, ?_, ⟨W.fld f rfl, ?_⟩, h⟩
  · unfold List.lookup
    rw [hf2]
    rfl
  · unfold List.lookup
    rw [beq_self_eq_true]
def pickB (K : PySem.W.Frag) (cls : Value) : Clauses → Option Str → Bool
  | [], _ => false
  | (cs, f) :: r, fo => match PySem.W.exmAny K cls cs with
    | some true => decide (f = fo)
    | some false => pickB K cls r fo
    | none => false
theorem pick_of {K : PySem.W.Frag} {cls : Value} {fo : Option Str} : ∀ {cl : Clauses}, pickB K cls cl fo = true → Pick K cls cl fo
  | [], h => by
    unfold pickB at h
    cases h
  | (cs, f) :: r, h => by
    unfold pickB at h
    split at h
    · rename_i e
      exact .inl ⟨e, of_decide_eq_true h⟩
    · rename_i e
      exact .inr ⟨e, pick_of h⟩
    · cases h
/-- the clauses of _law_why by the classes' names -/
def whyC (mg : Str → Option Value) (cl : List (List Str × Option Str)) : Clauses := cl.map fun c => (c.1.map fun x => .ref (clsA mg x), c.2)
theorem ExW.mk' {K : PySem.W.Frag} {mg : Str → Option Value} {h : Heap} (X : K.In h) (G : h.Ns mainGlobals mg) {x : Str} {C : Addr} {cl cl2 : Clauses} {fo : Option Str} (a : PySem.W.nsIn K mainGlobals x = some (some (.ref C)))
    (e : cl = cl2) (xf : xfB K C = true) (p : pickB K (.ref C) cl2 fo = true) (nt : PySem.W.findIn K (.ref C) "tag" = some none) (nf : ∀ f, fo = some f → PySem.W.findIn K (.ref C) f = some none) : ExW K mg x cl fo := by
  subst e
  have e2 := clsA_of (PySem.W.mg_of X G a)
  exact ⟨by rw [e2]; exact xfB_ok xf, by rw [e2]; exact pick_of p, by rw [e2]; exact nt, by rw [e2]; exact nf⟩
theorem XCls.mk' {P : Program} {K : PySem.W.Frag} {mg : Str → Option Value} {h : Heap} (X : K.In h) (G : h.Ns mainGlobals mg) {x q f : Str} {st : Stmt} {B newId i : String} {bmB : List Value} {ps : List Str} {C fI c cc : Addr} {oc kV doc pm ct cl ccl : Value} {od an cld cdd : Option Addr}
    {osl csl ccs : Array (Option Value)} {vs : Array Value} {fl : Str} {tf : Tok} (a : PySem.W.nsIn K mainGlobals x = some (some (.ref C))) (o1 : PySem.W.excInitIn K C bmB newId = true) (o2 : PySem.W.excOver K C bmB = true) (hd : PySem.W.hasDictIn K C = true)
    (sa : PySem.W.findIn K (.ref C) "__setattr__" = some (some (.builtin "object.__setattr__"))) (exC : PySem.W.subIn K (.ref C) (.type "BaseException") = some true) (ty : PySem.W.typeIn K (.ref C) = some (.type "type")) (kc : PySem.W.keepIn K (.ref C) = true)
    (nt : PySem.W.findIn K (.ref C) "tag" = some none) (nf : PySem.W.findIn K (.ref C) f = some none) (fi : PySem.W.findIn K (.ref C) "__init__" = some (some (.ref fI))) (tI : PySem.W.typeIn K (.ref fI) = some (.type "function"))
    (l : K.lookup fI = some ⟨oc, od, .func (supFd "__init__" q (defArgs st) (defBody st) (defScope st) cc .none kV doc pm an c ct), osl⟩) (cell : K.lookup cc = some ⟨cl, cld, .cell (some (.ref C)), csl⟩) (code : PySem.W.codeIn K (.ref c) q = true)
    (cod : K.lookup c = some ⟨ccl, cdd, .fields vs, ccs⟩) (v2 : vs[2]? = some (.str fl tf)) (hf : ((P.main.file : Str) == fl) = true) (top : (P.main.scope.names.lookup ("super" : Str)).isSome = false) (own : PySem.W.mroIn K C (.ref C) = some true)
    (base : PySem.W.mroIn K C (.type B) = some true) (along : PySem.W.ks_superIn K C C "__init__" = some (some (.builtin i))) (opq : PySem.W.nsIn K cStatics "thirdparty.any" = some none)
    (hb : ∀ (kV doc pm : Value) (an : Option Addr) (c : Addr) (ct : Value) (us : List Value), us.length = ps.length → bindArgs (supFd "__init__" q (defArgs st) (defBody st) (defScope st) cc .none kV doc pm an c ct) ⟨us, []⟩ = pure (ps.zip us)) : XCls P K mg x q st B newId i bmB f ps := by
  have e := PySem.W.mg_of X G a
  have e2 := clsA_of e
  refine ⟨by rw [e2]; exact e, by rw [e2]; exact ⟨o1, o2, hd, sa, exC, ty, kc⟩, by rw [e2]; exact nt, by rw [e2]; exact nf, fI, c, cc, oc, .none, kV, doc, pm, ct, od, an, osl, l, by rw [e2]; exact ⟨⟨_, _, _, cell⟩, code, ⟨_, _, _, _, _, _, cod, v2, hf⟩, top, own, base, along, opq⟩, by rw [e2]; exact fi, tI, ?_⟩
  intro s us X2 hl
  exact .of_eq (by
    have z := hb kV doc pm an c ct us (by simpa using hl)
    simpa using z)
end XD

/-! XE11: _law_why(lambda: ..) as an expression; a def whose code object is known. -/
namespace XD
open PySem L2 XX
/-- the def at f of the text st, its code object at c -/
structure FunC (K : PySem.W.Frag) (x qual : Str) (st : Stmt) (f c : Addr) (fd : FuncData) : Prop where
  ex : ∃ (oc : Value) (od : Option Addr) (kV doc pm : Value) (an : Option Addr) (ct : Value) (osl : Array (Option Value)),
    fd = PySem.W.fnOf x qual (defArgs st) (defBody st) (defScope st) .none kV doc pm an (.ref c) ct ∧ K.lookup f = some ⟨oc, od, .func fd, osl⟩ ∧ PySem.W.codeIn K (.ref c) qual = true
section
variable {P : Program} {w : World} {K : PySem.W.Frag} {mg : Str → Option Value} {base : Heap}
theorem fnc_ok {x qual : Str} {st : Stmt} {f c : Addr} {fd : FuncData} {N ps : List Str} {k : Nat} {S : DS} (F : FunC K x qual st f c fd) (Sc : FnScope N ps (defScope st)) (len : ∀ ds M R, S ds M R → ds.length = ps.length)
    (hbody : ∀ (A : Around) (outer : List Env) (s : Shared) (H : Hp) (E : XK), Room k (A.deeper (PyProof.Rows.envOfC qual (defScope st) s.heap.objs.size f (.ref c))) →
      ∃ t, PSs (cxOf CX0 P w K mg base N qual (defScope st) f (.ref c) A outer s H E).nox (defBody st) t ∧ ∀ ds M R, S ds M R → Xs0 K t { nx := fun _ M' => R .non M', rt := R } (startD N ds) M) : FnOk P w K mg base CX0 (k + 1) f fd ps (spOf K S) := by
  obtain ⟨oc, od, kV, doc, pm, an, ct, osl, rfl, lk, hcd⟩ := F.ex
  refine fn_of lk hcd Sc (fun vs H Q E h => ?_) fun A outer s H vs Q E hr h => ?_
  · obtain ⟨G, M, ds, R, r, _, hs, _⟩ := h
    rw [r.length]
    exact len ds M R hs
  · obtain ⟨G, M, ds, R, r, w0, hs, kk⟩ := h
    obtain ⟨t, h1, h2⟩ := hbody A outer s H E hr
    refine ⟨t, h1.nox, h2 ds M R hs _ G H _ (rps_start r) w0.wd ⟨?_, ?_, ?_, ?_⟩⟩
    · exact fun σ' G' H' ρ' M' e _ w' q => kk .non .non G' M' H' e .non w'.toWd0 q
    · exact fun v d G' M' H' e r' w' q => kk v d G' M' H' e r' w'.toWd0 q
    · exact fun σ' G' H' ρ' M' e _ w' q => q
    · exact fun σ' G' H' ρ' M' e _ w' q => q
end
theorem cls_at {K : PySem.W.Frag} {mg : Str → Option Value} {h : Heap} (X : K.In h) (G : h.Ns mainGlobals mg) {x : Str} {C : Addr} (a : PySem.W.nsIn K mainGlobals x = some (some (.ref C))) : mg x = some (.ref (clsA mg x)) := by
  have e := PySem.W.mg_of X G a
  rw [clsA_of e]
  exact e
theorem ekF {K : PySem.W.Frag} [Bs K] : EKo K E0 fun _ _ _ => False := fun _ _ _ _ _ _ _ _ _ _ _ z => z
theorem passF {X : Cx} : Passes (L2.CX X.prog X.w) X E0 := fun _ _ _ _ _ _ _ c => by
  obtain ⟨_, _, _, _, _, _, _, _, _, _, _, _, z⟩ := c
  exact z.elim
/-- a def that may let exceptions out, called where none may come -/
theorem pe_gX0 {X : Cx} {K : PySem.W.Frag} {k : Nat} {x : Str} {ps : List Str} {S : DX} {e : Expr} {es : List Expr} {t : TA} {p pos : Pos} (G : GFx X.prog X.w K X.mg X.base k x ps S) (hr : Room k X.A) (ha : PA X (e :: es) t) (h : X.K = K := by rfl)
    (hg : Gl X x := by rfl) (hdb : (x == ("__debug__" : Str)) = false := by decide) (he : starEach (e :: es) X.env = (false, eval e X.env) :: starEach es X.env := by rfl) (hpl : (backTo pos (starEach es X.env)).any (·.1) = false := by rfl) :
    PE X (.Call (.Name x p) (e :: es) [] pos) (tCall (spX K S) [] E0 t) := pe_gX G hr ha passF h hg hdb he hpl
/-- a list times a number: a new list that stays -/
theorem xr_mulL {K : PySem.W.Frag} [Bs K] {M : Mm} {R : RD} {ds : List D} {k : Int} (h1 : -(2 ^ 63) ≤ k) (h2 : k < 2 ^ 63) (h : ds.length * k.toNat ≤ 16000000) (r : R (.lst (List.replicate k.toNat ds).flatten) M) : Xr K rRep (.lst ds) (.int k) M R := by
  intro vx vy G H Q rx ry w kk
  cases ry
  cases rx with
  | @lst a xs _ hx ra =>
    refine ⟨a, k, xs, rfl, rfl, w.lst hx, h1, h2, by rw [ra.length]; exact Nat.le_trans h (by decide), fun p hp => ?_⟩
    have rr : RpA K G (List.replicate k.toNat xs).flatten (List.replicate k.toNat ds).flatten := by
      generalize k.toNat = n
      induction n with
      | zero => exact .nil
      | succ n ih =>
        rw [List.replicate_succ, List.replicate_succ, List.flatten_cons, List.flatten_cons]
        exact ra.append ih
    obtain ⟨G', e, r', w'⟩ := w.newL hp rr
    exact kk _ _ G' M _ e r' w' r
theorem ndf {P : Prop} [Decidable P] (h : P) : (!decide P) = false := by rw [decide_eq_true h]; rfl
theorem ndt {P : Prop} [Decidable P] (h : ¬ P) : (!decide P) = true := by rw [decide_eq_false h]; rfl
/-- the name of the law's lambdas -/
abbrev lamQ : Str := (("law" : Str) ++ ".<locals>.") ++ "<lambda>"
section
variable {X : Cx}
theorem pe_why {K : PySem.W.Frag} {mg : Str → Option Value} {a : Str} {c Pt : Addr} {k : Nat} {st : Stmt} {Ng : List Str} {params : Arguments} {body : Expr} {scope : Scope} {t : XK → TE} {cl : Clauses} {p lpos pos : Pos} (T : FT K mg "_law_why" "_law_why" st [a]) (Sg : FnScope Ng [a] (defScope st)) (hNg : Ng[0]? = some a)
    (hG : ∀ (X : Cx) (g : Addr) (cdg : Value), X.K = K → X.mg = mg → LamX.GivesTo X Ng "_law_why" (defScope st) g cdg (defBody st) a lamQ (TTwhy K cl)) (TB : LamX.TabB X.base mg c Pt) (hr : Room (k + 2) X.A)
    (hbody : ∀ (A : Around) (outer : List Env) (s : Shared) (H : Hp) (E : XK) (f c' : Addr), Room k (A.deeper (LamX.lamEnv X scope s.heap.objs.size f c')) → PE (LamX.lamCx X A outer s H E scope f c') body (t E))
    (hcode : X.env.code = .ref c := by rfl) (hq : X.env.qual = ("law" : Str) ++ ".<locals>." := by rfl) (L : LamX.lamSB X.env.scope scope = true := by kernel_rfl) (hdef : defaultsOf params X.env = ([], []) := by rfl)
    (hbind : ∀ (q : Str) (cl : List (Str × Addr)) (pm cv ctv : Value), bindArgs (PySem.W.kla_fn "<lambda>" q params body scope cl pm cv ctv) ⟨[], []⟩ = pure [] := by intro _ _ _ _ _; rfl)
    (h : X.K = K := by rfl) (hmg : X.mg = mg := by rfl) (hg : Gl X "_law_why" := by rfl) (hd : (a == ("__debug__" : Str)) = false := by decide) (hcd : (a == ("__classdict__" : Str)) = false := by decide) :
    PE X (.Call (.Name "_law_why" p) [.Lambda params body scope lpos] [] pos) (LamX.tLam [(Pt, lamQ)] (TTwhy K cl) t) := by
  obtain ⟨g, fd, F, h1, h2⟩ := T.ex
  obtain ⟨oc, od, kV, doc, pm, an, cdv, ct, osl, rfl, lk, hcg⟩ := F.ex
  have G0 := hG X g cdv h hmg
  subst h
  subst hmg
  have hQ : X.env.qual ++ "<lambda>" = lamQ := by rw [hq]
  have hva : Vis (defScope st) a := (Sg.par a (by simp)).imp id .inl
  exact LamX.pe_lamcall hg h1 F.kp lk hcg h2 Sg hNg hva (hQ ▸ G0) TB hcode (by rw [hQ]; simp) (fun p hp _ => by
    rw [hQ]
    cases List.mem_singleton.mp hp
    rfl) hr (LamX.lamS_by L) hdef hbind hbody (by decide) hd hcd
end
end XD

/-! XE12: methods that may raise; making where __init__ may raise. -/
namespace XD
open PySem L2 XX
def starX (n : Nat) (S : DX) : DX := fun ds M R Z => ∃ ws rest, ds = ws ++ rest ∧ ws.length = n ∧ rest.length ≤ 16000000 ∧ S (ws ++ [.tup rest]) M R Z
section
variable {P : Program} {w : World} {K : PySem.W.Frag} {mg : Str → Option Value} {base : Heap}
theorem star_spX {n : Nat} {S : DX} {vs : List V} {H : Hp} {Q : VK} {E : XK} (h : spX K (starX n S) vs H Q E) :
    ∃ ws rest, vs = ws ++ rest ∧ ws.length = n ∧ rest.length ≤ sizeLine ∧ ∀ p, H p = Option.none → spX K S (ws ++ [V.ref p]) (upd H p (.tup rest)) Q E := by
  obtain ⟨G, M, ds, R, Z, r, w0, ⟨ws, rest, rfl, hl, hz, hs⟩, kk, kx⟩ := h
  obtain ⟨v1, v2, rfl, r1, r2⟩ := r.split
  refine ⟨v1, v2, rfl, by rw [r1.length, hl], by rw [r2.length]; exact strLe _ hz, fun p hp => ?_⟩
  obtain ⟨G', e, r', w'⟩ := w0.wd.newT hp r2
  exact ⟨G', M, _, R, Z, (r1.up e).append (.cons r' .nil), w'.toWd0, hs, fun v d G2 M' H' e2 => kk v d G2 M' H' (e.trans e2), fun c dd xs fs G2 M' H' e2 => kx c dd xs fs G2 M' H' (e.trans e2)⟩
structure GMx (P : Program) (w : World) (K : PySem.W.Frag) (mg : Str → Option Value) (base : Heap) (k : Nat) (x m : Str) (ps : List Str) (S : DX) : Prop where
  ex : ∃ f fd, FnOk P w K mg base (L2.CX P w) k f fd ps (spX K S) ∧ Meth K (clsA mg x) m f ∧ Binds K fd ps []
theorem GMx.mono {j k : Nat} {x m : Str} {ps : List Str} {S : DX} (h : GMx P w K mg base j x m ps S) (hk : j ≤ k) : GMx P w K mg base k x m ps S := by
  obtain ⟨f, fd, h1, h2⟩ := h.ex
  exact ⟨f, fd, h1.mono hk, h2⟩
theorem mx_ok {x m qual : Str} {st : Stmt} {N ps : List Str} {k : Nat} {S : DX} (T : MT K mg x m qual st ps) (Sc : FnScope N ps (defScope st)) (len : ∀ ds M R Z, S ds M R Z → ds.length = ps.length)
    (hbody : ∀ (f : Addr) (cdv : Value) (A : Around) (outer : List Env) (s : Shared) (H : Hp) (E : XK), Room k (A.deeper (PyProof.Rows.envOfC qual (defScope st) s.heap.objs.size f cdv)) →
      ∃ t, PSs (cxOf (L2.CX P w) P w K mg base N qual (defScope st) f cdv A outer s H E) (defBody st) t ∧ BodyX K S N E t) : GMx P w K mg base (k + 1) x m ps S := by
  obtain ⟨f, fd, F, h1, h2⟩ := T.ex
  exact ⟨f, fd, fnx_ok F Sc len (hbody f), h1, h2⟩
structure GMxs (P : Program) (w : World) (K : PySem.W.Frag) (mg : Str → Option Value) (base : Heap) (k : Nat) (x m : Str) (S : DX) : Prop where
  ex : ∃ f, FnR P w K mg base (L2.CX P w) k f (spX K (starX 1 S)) ∧ Meth K (clsA mg x) m f
theorem GMxs.mono {j k : Nat} {x m : Str} {S : DX} (h : GMxs P w K mg base j x m S) (hk : j ≤ k) : GMxs P w K mg base k x m S := by
  obtain ⟨f, h1, h2⟩ := h.ex
  exact ⟨f, h1.mono hk, h2⟩
theorem msx_ok {x m qual pv : Str} {st : Stmt} {N : List Str} {k : Nat} {S : DX} (T : MTs K mg x m qual st pv) (Sc : FnScope N ([("self" : Str)] ++ [pv]) (defScope st))
    (hbody : ∀ (f : Addr) (cdv : Value) (A : Around) (outer : List Env) (s : Shared) (H : Hp) (E : XK), Room k (A.deeper (PyProof.Rows.envOfC qual (defScope st) s.heap.objs.size f cdv)) →
      ∃ t, PSs (cxOf (L2.CX P w) P w K mg base N qual (defScope st) f cdv A outer s H E) (defBody st) t ∧ BodyX K S N E t) : GMxs P w K mg base (k + 1) x m S := by
  obtain ⟨f, fd, F, h1, hb⟩ := T.ex
  obtain ⟨oc, od, kV, doc, pm, an, cdv, ct, osl, rfl, lk, hcd⟩ := F.ex
  refine ⟨f, ?_, h1⟩
  refine FnR.imp (StX.fn_star (pv := pv) (ps := ["self"]) lk hcd Sc StX.cxUp (fun us rest hl => hb kV doc pm an cdv ct us rest hl) (sp := spX K S) (N := N) fun A outer s H vs Q E hr h => ?_) fun vs H Q E h => star_spX h
  obtain ⟨G, M, ds, R, Z, r, w0, hs, kk, kx⟩ := h
  obtain ⟨t, h1, h2⟩ := hbody f cdv A outer s H E hr
  exact ⟨t, h1, h2 ⟨G⟩ ds M R Z hs kx _ G H _ (rps_start r) (@Wd.mk K ⟨G⟩ G M H w0 (Ex.refl G)) (rt_ok (G0 := G) kk)⟩
end
section
variable {X : Cx} {K : PySem.W.Frag} {mg : Str → Option Value} {k : Nat} {x m : Str}
theorem pe_mX {ps : List Str} {S : DX} {E : XK} {o e : Expr} {es : List Expr} {ta : TE} {t : TA} {apos pos : Pos} {pl : Sem Bool} (c : CK K mg x) (Gm : GMx X.prog X.w K mg X.base k x m ps S) (hr : Room k X.A) (he : PE X o ta) (ha : PA X (e :: es) t)
    (hx : Passes (L2.CX X.prog X.w) X E := by exact passes_call (takes_of rfl rfl rfl rfl) fun _ _ _ _ h => h) (h : X.K = K := by rfl) (hmg : X.mg = mg := by rfl)
    (hst : starEach (e :: es) X.env = (false, eval e X.env) :: starEach es X.env := by rfl) (hpl : (backTo pos (starEach es X.env)).any (·.1) = false := by rfl)
    (ht : eval (.Call (.Attribute o m apos) (e :: es) [] pos) X.env = (do let ov ← eval o X.env; standAt apos.atName; let (f, first) ← holding [ov] (getMethod ov m pl); callWith pos f first (backTo pos (starEach (e :: es) X.env)) (backToKw pos (keywordEach [] X.env))) := by rfl) :
    PE X (.Call (.Attribute o m apos) (e :: es) [] pos) (tMeth (clsA mg x) m (spX K S) [] E ta t) := by
  subst h
  subst hmg
  obtain ⟨f, fd, h1, h2, h3⟩ := Gm.ex
  exact pe_meth he c.cls h2 h1 hr h3 .nil hx ha hst hpl ht
theorem pe_mX0 {ps : List Str} {S : DX} {E : XK} {o : Expr} {ta : TE} {apos pos : Pos} {pl : Sem Bool} (c : CK K mg x) (Gm : GMx X.prog X.w K mg X.base k x m ps S) (hr : Room k X.A) (he : PE X o ta)
    (hx : Passes (L2.CX X.prog X.w) X E := by exact passes_call (takes_of rfl rfl rfl rfl) fun _ _ _ _ h => h) (h : X.K = K := by rfl) (hmg : X.mg = mg := by rfl)
    (ht : eval (.Call (.Attribute o m apos) [] [] pos) X.env = (do let ov ← eval o X.env; standAt apos.atName; let (f, first) ← holding [ov] (getMethod ov m pl); callWith pos f first (backTo pos (starEach [] X.env)) (backToKw pos (keywordEach [] X.env))) := by rfl) :
    PE X (.Call (.Attribute o m apos) [] [] pos) (tMeth (clsA mg x) m (spX K S) [] E ta tNil) := by
  subst h
  subst hmg
  obtain ⟨f, fd, h1, h2, h3⟩ := Gm.ex
  exact pe_meth0 he c.cls h2 h1 hr h3 .nil hx ht
theorem pe_msX {S : DX} {E : XK} {o e : Expr} {es : List Expr} {ta : TE} {t : TA} {apos pos : Pos} {pl : Sem Bool} (c : CK K mg x) (Gm : GMxs X.prog X.w K mg X.base k x m S) (hr : Room k X.A) (he : PE X o ta) (ha : PA X (e :: es) t)
    (hx : Passes (L2.CX X.prog X.w) X E := by exact passes_call (takes_of rfl rfl rfl rfl) fun _ _ _ _ h => h) (h : X.K = K := by rfl) (hmg : X.mg = mg := by rfl)
    (hst : starEach (e :: es) X.env = (false, eval e X.env) :: starEach es X.env := by rfl) (hpl : (backTo pos (starEach es X.env)).any (·.1) = false := by rfl)
    (ht : eval (.Call (.Attribute o m apos) (e :: es) [] pos) X.env = (do let ov ← eval o X.env; standAt apos.atName; let (f, first) ← holding [ov] (getMethod ov m pl); callWith pos f first (backTo pos (starEach (e :: es) X.env)) (backToKw pos (keywordEach [] X.env))) := by rfl) :
    PE X (.Call (.Attribute o m apos) (e :: es) [] pos) (tMethR (clsA mg x) m (spX K (starX 1 S)) E ta t) := by
  subst h
  subst hmg
  obtain ⟨f, h1, h2⟩ := Gm.ex
  exact pe_methR he c.cls h2 h1 hr hx ha hst hpl ht
theorem pe_mkXR {S : DX} {E : XK} {e : Expr} {es : List Expr} {t : TA} {p pos : Pos} (c : CK K mg x) (Gm : GMxs X.prog X.w K mg X.base k x "__init__" S) (hr : Room (k + 1) X.A) (ha : PA X (e :: es) t)
    (hx : Passes (L2.CX X.prog X.w) X E := by exact passes_call (takes_of rfl rfl rfl rfl) fun _ _ _ _ h => h) (h : X.K = K := by rfl) (hmg : X.mg = mg := by rfl) (hg : Gl X x := by rfl)
    (hdb : (x == ("__debug__" : Str)) = false := by decide) (he : starEach (e :: es) X.env = (false, eval e X.env) :: starEach es X.env := by rfl) (hpl : (backTo pos (starEach es X.env)).any (·.1) = false := by rfl) :
    PE X (.Call (.Name x p) (e :: es) [] pos) (StX.tMakeR (clsA mg x) (spX K (starX 1 S)) E t) := by
  subst h
  subst hmg
  obtain ⟨f, h1, h2⟩ := Gm.ex
  exact StX.pe_makeR ⟨c.mks, h2.at_, h2.fn, c.kp⟩ h1 hr hg c.at_ hx ha hdb he hpl
theorem pe_mkXR0 {S : DX} {E : XK} {p pos : Pos} (c : CK K mg x) (Gm : GMxs X.prog X.w K mg X.base k x "__init__" S) (hr : Room (k + 1) X.A)
    (hx : Passes (L2.CX X.prog X.w) X E := by exact passes_call (takes_of rfl rfl rfl rfl) fun _ _ _ _ h => h) (h : X.K = K := by rfl) (hmg : X.mg = mg := by rfl) (hg : Gl X x := by rfl)
    (hdb : (x == ("__debug__" : Str)) = false := by decide) : PE X (.Call (.Name x p) [] [] pos) (StX.tMakeR (clsA mg x) (spX K (starX 1 S)) E tNil) := by
  subst h
  subst hmg
  obtain ⟨f, h1, h2⟩ := Gm.ex
  refine ⟨fun pins s σ H Q I q => ?_⟩
  refine wpAny_Call_Name_kw (ld_glob I hg c.at_ ?_ hdb)
  exact PySem.W.callWith_K0 I.kIn c.kp (StX.run_makeR ⟨c.mks, h2.at_, h2.fn, c.kp⟩ h1 hr hx I .nil q)
theorem pe_mkXS {S : DX} {E : XK} {e : Expr} {te : TE} {p sq pos : Pos} (c : CK K mg x) (Gm : GMxs X.prog X.w K mg X.base k x "__init__" S) (hr : Room (k + 1) X.A) (he : PE X e te)
    (hx : Passes (L2.CX X.prog X.w) X E := by exact passes_call (takes_of rfl rfl rfl rfl) fun _ _ _ _ h => h) (h : X.K = K := by rfl) (hmg : X.mg = mg := by rfl) (hg : Gl X x := by rfl)
    (hdb : (x == ("__debug__" : Str)) = false := by decide) (hst : starEach [.Starred e sq] X.env = [(true, eval e X.env)] := by rfl) :
    PE X (.Call (.Name x p) [.Starred e sq] [] pos) (tMakeS K (clsA mg x) (spX K (starX 1 S)) E te) := by
  subst h
  subst hmg
  obtain ⟨f, h1, h2⟩ := Gm.ex
  refine ⟨fun pins s σ H Q I q => ?_⟩
  refine wpAny_Call_Name_kw (ld_glob I hg c.at_ ?_ hdb)
  refine PySem.W.callWith_S (h₀ := X.base) I.ok.mod.kin c.kp (thn (he.run pins s σ H _ I q) fun v s1 hq => ?_) hst
  obtain ⟨y, H1, I1, ry, b, xs, ey, hxs, q⟩ := hq
  subst ey
  cases (show v = Value.ref b from ry)
  exact StX.star_any I1 hxs fun us s2 I2 rv => ⟨I2.kIn, StX.run_makeR ⟨c.mks, h2.at_, h2.fn, c.kp⟩ h1 hr hx I2 rv q⟩
theorem pe_methSAX {S : DX} {E : XK} {o e : Expr} {ta te : TE} {p apos pos : Pos} (c : CK K mg x) (Gm : GMxs X.prog X.w K mg X.base k x m S) (bm : BM K mg x m) (hr : Room k X.A) (he : PE X o ta) (ha : PE X e te)
    (hx : Passes (L2.CX X.prog X.w) X E := by exact passes_call (takes_of rfl rfl rfl rfl) fun _ _ _ _ h => h) (h : X.K = K := by rfl) (hmg : X.mg = mg := by rfl) (hbase : attributeBase o m X.env (eval o X.env) = eval o X.env := by rfl) :
    PE X (.Call (.Attribute o m apos) [.Starred e p] [] pos) (tMethSA K (clsA mg x) m (methA K mg x m) (spX K (starX 1 S)) E ta te) := by
  subst h
  subst hmg
  obtain ⟨f, h1, h2⟩ := Gm.ex
  have e1 : methA X.K X.mg x m = f := by unfold methA; rw [h2.at_]
  rw [e1]
  exact pe_methSA he c.cls (bm.ex f h2) h1 hr hx ha hbase
end
section
variable {K : PySem.W.Frag} [Bs K] {ρ : Rho} {M : Mm} {R : RD} {Z : RX} {E : XK}
theorem mk_wd {C : Addr} {G1 H1 : Hp} {M1 : Mm} (w1 : Wd K G1 M1 H1) {a dx : Addr} (ha : H1 a = none) (hdx : H1 dx = none) (hne : dx ≠ a) : Wd K G1 ((a, .ins C []) :: M1) (upd (upd H1 dx (.own a)) a (.ins C dx [])) := by
  have w3 := w1.junk (o := .own a) hdx
  have ha' : upd H1 dx (.own a) a = none := by rw [upd_ne (Ne.symm hne)]; exact ha
  exact w3.newM ha' ⟨w1.gfree ha, dx, [], upd_same, .nil⟩
theorem xe_makeRX {C : Addr} {S : DX} {t : TA} (hE : EKo K E Z) (h : Xa K t ρ M fun ds M1 => ∀ a, S (.ref a :: ds) ((a, .ins C []) :: M1) (fun d M2 => d = .non ∧ R (.ref a) M2) Z) : Xe K (StX.tMakeR C (spX K S) E t) ρ M R := by
  intro σ G H Q s w k
  refine h σ G H _ s w fun vs ds G1 M1 H1 e1 rs w1 q => ?_
  intro a dx ha hdx hne
  have w2 := mk_wd (C := C) w1 ha hdx hne
  refine ⟨G1, _, _, _, Z, .cons (.ref a) rs, w2.toWd0, q a, fun v d G' M' H' e r w' hd => ?_, sp_xback (G := G) w1.bs hE⟩
  obtain ⟨rfl, hq⟩ := hd
  cases r
  exact ⟨rfl, k _ _ G' M' H' (e1.trans e) (.ref a) ⟨w', w2.bs.trans e⟩ hq⟩
theorem xe_makeSX {C : Addr} {S : DX} {te : TE} (hE : EKo K E Z) (h : Xe K te ρ M fun d M1 => ∃ ds, (d = .lst ds ∨ d = .tup ds ∨ ∃ p, d = .ref p ∧ Has M1 p (.lst ds)) ∧ ∀ a, S (.ref a :: ds) ((a, .ins C []) :: M1) (fun d M2 => d = .non ∧ R (.ref a) M2) Z) : Xe K (tMakeS K C (spX K S) E te) ρ M R := by
  intro σ G H Q s w k
  refine h σ G H _ s w fun v d G1 M1 H1 e1 r1 w1 q => ?_
  obtain ⟨ds, hd, q⟩ := q
  have fin : ∀ xs, RpA K G1 xs ds → ∀ x dx, H1 x = Option.none → H1 dx = Option.none → dx ≠ x → spX K S (V.ref x :: xs) (upd (upd H1 dx (.own x)) x (.ins C dx [])) (fun v H2 => v = .non ∧ Q (.ref x) H2) E := by
    intro xs rs a dx ha hdx hne
    have w2 := mk_wd (C := C) w1 ha hdx hne
    refine ⟨G1, _, _, _, Z, .cons (.ref a) rs, w2.toWd0, q a, fun v d G' M' H' e r w' hd => ?_, sp_xback (G := G) w1.bs hE⟩
    obtain ⟨rfl, hq⟩ := hd
    cases r
    exact ⟨rfl, k _ _ G' M' H' (e1.trans e) (.ref a) ⟨w', w2.bs.trans e⟩ hq⟩
  rcases hd with rfl | rfl | ⟨p, rfl, hm⟩
  · cases r1 with
    | @lst b xs _ hb rb => exact ⟨b, xs, rfl, .inr (.inl (.inl (w1.lst hb))), fin xs rb⟩
  · cases r1 with
    | @tup b xs _ hb rb => exact ⟨b, xs, rfl, .inl (.inl (.inl (w1.tup hb))), fin xs rb⟩
  · cases r1
    obtain ⟨_, xs, h1, rb⟩ := w1.get hm
    exact ⟨p, xs, rfl, .inr (.inl (.inl h1)), fin xs rb⟩
theorem xe_methSAX {C g : Addr} {m : Str} {S : DX} {ta : TE} {i : Nat} (hE : EKo K E Z) (h : Xe K ta ρ M fun x M1 => Mcl C x m M1 ∧ ∃ y ds, ρ[i]? = some (some y) ∧ (y = .lst ds ∨ y = .tup ds) ∧ S (x :: ds) M1 R Z) : Xe K (tMethSA K C m g (spX K S) E ta (tVar i)) ρ M R := by
  intro σ G H Q s w k
  refine h σ G H _ s w fun v x G1 M1 H1 e1 r w1 q => ?_
  obtain ⟨hm, y, ds, hy, hd, q⟩ := q
  obtain ⟨a, dx, xs, rfl, h1, h2⟩ := hm.at r w1
  refine ⟨a, dx, xs, rfl, h1, h2, fun p hp => ?_⟩
  obtain ⟨u, hu, ru⟩ := (s.up e1).at_ i _ hy
  have w2 := w1.junk (o := .met g a) hp
  have fin : ∀ vs, RpA K G1 vs ds → spX K S (.ref a :: vs) (upd H1 p (.met g a)) Q E := fun vs rs =>
    ⟨G1, M1, x :: ds, R, Z, .cons r rs, w2.toWd0, q, sp_back w2.bs k e1, sp_xback (G := G) w2.bs hE⟩
  refine ⟨u, hu, ?_⟩
  rcases hd with rfl | rfl
  · cases ru with
    | @lst b vs _ hb rb => exact ⟨b, vs, rfl, .inr (.inl (.inl (w2.lst hb))), upd_same, fin vs rb⟩
  · cases ru with
    | @tup b vs _ hb rb => exact ⟨b, vs, rfl, .inl (.inl (.inl (w2.tup hb))), upd_same, fin vs rb⟩
end
end XD

/-! XE13: what comes later is kept out of sight while a statement is walked. -/
namespace XD
open PySem L2 XX
section
variable {K : PySem.W.Frag} [Bs K] {ρ ρ2 : Rho} {M : Mm} {nx bk ct : RS} {rt : RD} {t u : TS}
def Cont (K : PySem.W.Frag) [Bs K] (C : Rho → Mm → Prop) (t : TS) (E : En) : Prop := ∀ ρ M, Xs K t E ρ M → C ρ M
theorem ys_seqC (h : ∀ C : Rho → Mm → Prop, Cont K C u ⟨nx, rt, bk, ct⟩ → Xs K t ⟨C, rt, bk, ct⟩ ρ M) : Xs K (tSeq t u) ⟨nx, rt, bk, ct⟩ ρ M := ys_seq (h _ fun _ _ x => x)
theorem cont_go {C : Rho → Mm → Prop} {E : En} (h : Cont K C t E) (e : ρ = ρ2) (x : Xs K t E ρ2 M) : C ρ M := h _ _ (e ▸ x)
def Imp2 (A B : Rho → Mm → Prop) : Prop := ∀ ρ M, A ρ M → B ρ M
def ImpR (A B : RD) : Prop := ∀ d M, A d M → B d M
theorem ys_abs (h : ∀ nx' rt' bk' ct', Imp2 nx nx' → ImpR rt rt' → Imp2 bk bk' → Imp2 ct ct' → Xs K t ⟨nx', rt', bk', ct'⟩ ρ M) : Xs K t ⟨nx, rt, bk, ct⟩ ρ M := h _ _ _ _ (fun _ _ x => x) (fun _ _ x => x) (fun _ _ x => x) (fun _ _ x => x)
end
end XD

/-! XE14: an exception that leaves a loop over a dict: the dict, which nothing else names, is forgotten with its lock. -/
namespace XD
open PySem L2 XX
section
variable {K : PySem.W.Frag} {G1 G : Hp} {p : Addr} {o : HO}
theorem del_keep {a : Addr} {u : HO} (hp : G p = some o) (ho : DictO o) (h : G a = some u) (hu : ¬ DictO u) : del G p a = some u := by
  have hne : a ≠ p := fun z => by
    rw [z, hp] at h
    cases h
    exact hu ho
  rw [del_ne hne]
  exact h
theorem sqL_del {a : Addr} {xs : List V} (hp : G p = some o) (ho : DictO o) (h : SqL K G a xs) : SqL K (del G p) a xs := by
  rcases h with (h | ⟨o2, h⟩) | h
  · exact .inl (.inl (del_keep hp ho h fun z => z))
  · exact .inl (.inr ⟨o2, del_keep hp ho h fun z => z⟩)
  · exact .inr h
mutual
theorem Rp.wane (n1 : G1 p = none) (hp : G p = some o) (ho : DictO o) {v1 v : V} {d : D} (w : Rp K G1 v1 d) (h : Rp K G v d) : Rp K (del G p) v d := by
  cases w with
  | non => cases h; exact .non
  | bl b => cases h; exact .bl b
  | int i => cases h; exact .int i
  | str s => cases h; exact .str s
  | ref a => cases h; exact .ref a
  | ty n => cases h; exact .ty n
  | lst _ r1 => cases h with | lst h r => exact .lst (del_keep hp ho h fun z => z) (RpA.wane n1 hp ho r1 r)
  | tup _ r1 => cases h with | tup h r => exact .tup (del_keep hp ho h fun z => z) (RpA.wane n1 hp ho r1 r)
  | scr _ => cases h with | scr h => exact .scr (sqL_del hp ho h)
  | fn _ => cases h with | fn h => exact .fn fun p hp' => ⟨del_keep hp ho (h p hp').1 (h p hp').2, (h p hp').2⟩
  | ins _ r1 => cases h with | ins h r => exact .ins (del_keep hp ho h fun z => z) (RpF.wane n1 hp ho r1 r)
  | @dk a _ _ h1 r1 =>
    cases h with
    | dk h r =>
      have hne : a ≠ p := fun z => by rw [z, n1] at h1; cases h1
      exact .dk (by rw [del_ne hne]; exact h) (RpK.wane n1 hp ho r1 r)
  | @dt a _ _ h1 r1 =>
    cases h with
    | dt h r =>
      have hne : a ≠ p := fun z => by rw [z, n1] at h1; cases h1
      exact .dt (by rw [del_ne hne]; exact h) (RpT.wane n1 hp ho r1 r)
theorem RpA.wane (n1 : G1 p = none) (hp : G p = some o) (ho : DictO o) {v1 v : List V} {d : List D} (w : RpA K G1 v1 d) (h : RpA K G v d) : RpA K (del G p) v d := by
  cases w with
  | nil => cases h; exact .nil
  | cons w1 w2 => cases h with | cons h1 h2 => exact .cons (Rp.wane n1 hp ho w1 h1) (RpA.wane n1 hp ho w2 h2)
theorem RpK.wane (n1 : G1 p = none) (hp : G p = some o) (ho : DictO o) {v1 v : List (Key × V)} {d : List (Key × D)} (w : RpK K G1 v1 d) (h : RpK K G v d) : RpK K (del G p) v d := by
  cases w with
  | nil => cases h; exact .nil
  | cons w1 w2 => cases h with | cons h1 h2 => exact .cons (Rp.wane n1 hp ho w1 h1) (RpK.wane n1 hp ho w2 h2)
theorem RpT.wane (n1 : G1 p = none) (hp : G p = some o) (ho : DictO o) {v1 v : List (List Key × V)} {d : List (List Key × D)} (w : RpT K G1 v1 d) (h : RpT K G v d) : RpT K (del G p) v d := by
  cases w with
  | nil => cases h; exact .nil
  | cons w1 w2 => cases h with | cons h1 h2 => exact .cons (Rp.wane n1 hp ho w1 h1) (RpT.wane n1 hp ho w2 h2)
theorem RpF.wane (n1 : G1 p = none) (hp : G p = some o) (ho : DictO o) {v1 v : List (Str × V)} {d : List (Str × D)} (w : RpF K G1 v1 d) (h : RpF K G v d) : RpF K (del G p) v d := by
  cases w with
  | nil => cases h; exact .nil
  | cons w1 w2 => cases h with | cons h1 h2 => exact .cons (Rp.wane n1 hp ho w1 h1) (RpF.wane n1 hp ho w2 h2)
end
theorem del_none {a : Addr} (h : G a = none) : del G p a = none := by
  by_cases z : a = p
  · rw [z, del_same]
  · rw [del_ne z]
    exact h
theorem moOk_wane {H1 H : Hp} {a : Addr} {m : MO} (n1 : G1 p = none) (hp : G p = some o) (ho : DictO o) (w : MoOk K G1 H1 a m) (h : MoOk K G H a m) : MoOk K (del G p) H a m := by
  cases m with
  | lst ds =>
    obtain ⟨_, _, _, w2⟩ := w
    obtain ⟨h0, xs, h1, h2⟩ := h
    exact ⟨del_none h0, xs, h1, w2.wane n1 hp ho h2⟩
  | dk ds =>
    obtain ⟨_, _, _, w2⟩ := w
    obtain ⟨h0, xs, h1, h2⟩ := h
    exact ⟨del_none h0, xs, h1, w2.wane n1 hp ho h2⟩
  | dt ds =>
    obtain ⟨_, _, _, w2⟩ := w
    obtain ⟨h0, xs, h1, h2⟩ := h
    exact ⟨del_none h0, xs, h1, w2.wane n1 hp ho h2⟩
  | ins C fs =>
    obtain ⟨_, _, _, _, w2⟩ := w
    obtain ⟨h0, dx, xs, h1, h2⟩ := h
    exact ⟨del_none h0, dx, xs, h1, w2.wane n1 hp ho h2⟩
  | feed =>
    obtain ⟨h0, c, i, b, s, ns, h1, h2, h3⟩ := h
    exact ⟨del_none h0, c, i, b, s, ns, h1, del_keep hp ho h2 fun z => z, h3⟩
  | lck od =>
    obtain ⟨_, _, w2, _⟩ := w
    obtain ⟨u, h1, h2, h3⟩ := h
    have hne : a ≠ p := fun z => by rw [z, n1] at w2; cases w2
    exact ⟨u, h1, by rw [del_ne hne]; exact h2, h3⟩
  | tab q =>
    obtain ⟨ps, h1, h2, h3⟩ := h
    refine ⟨ps, h1, h2, fun pos cv z => ?_⟩
    obtain ⟨c, e1, e2⟩ := h3 pos cv z
    exact ⟨c, e1, del_keep hp ho e2 fun z => by unfold LamX.CodeO at z; exact z⟩
end
/-- nothing of M0 names p -/
def Fresh0 (K : PySem.W.Frag) [Bs K] (p : Addr) (M0 : Mm) : Prop := ∃ G1 H1, G1 p = none ∧ (Bs.G0 K) p = none ∧ ∀ q ∈ M0, MoOk K G1 H1 q.1 q.2
def Plain1 : D → Prop
  | .str _ => True
  | .int _ => True
  | .non => True
  | _ => False
theorem rpf_plain {K : PySem.W.Frag} {G G2 : Hp} : ∀ {xs : List (Str × V)} {fs : List (Str × D)}, (∀ q ∈ fs, Plain1 q.2) → RpF K G xs fs → RpF K G2 xs fs
  | _, [], _, h => by cases h; exact .nil
  | _, (k, d) :: fs, hp, h => by
    cases h with
    | cons h r =>
      refine .cons ?_ (rpf_plain (fun q hq => hp q (List.mem_cons_of_mem _ hq)) r)
      have := hp (k, d) List.mem_cons_self
      cases h with
      | non => exact .non
      | int i => exact .int i
      | str z => exact .str z
      | _ => exact this.elim
section
variable {K : PySem.W.Frag} [Bs K] {ρ : Rho} {M M0 : Mm} {E : XK} {Z : RX} {t : TS} {p : Addr}
theorem ys_fresh {E1 : En} {kvs : List (Key × XD.D)} (hm : Has M p (.dk kvs)) (h : (∀ M0 : Mm, M0.Sublist M → Fresh0 K p M0) → Xs K t E1 ρ M) : Xs K t E1 ρ M := by
  intro σ G H Dn s w k
  obtain ⟨h1, _⟩ := w.mo _ hm.mem
  refine h (fun M0 hs => ⟨G, H, h1, ?_, fun q hq => w.mo q (hs.subset hq)⟩) σ G H Dn s w k
  cases e : (Bs.G0 K) p with
  | none => rfl
  | some o =>
    have := w.bs _ _ e
    rw [h1] at this
    cases this
/-- the memory without the lock of p -/
structure Dead (p : Addr) (M0 M' : Mm) : Prop where
  lk : ∃ od, (p, MO.lck od) ∈ M'
  sub : M0.Sublist M'
  oth : ∀ q ∈ M', isLck q.2 = true → q.1 = p ∨ q ∈ M0
theorem EKo.dead (hE : EKo K E Z) (f : Fresh0 K p M0) : EKo K E fun c fs M' => Dead p M0 M' ∧ (∀ q ∈ fs, Plain1 q.2) ∧ Z c fs M0 := by
  intro c dd xs fs G' M' H' e hx r w ⟨⟨⟨od, hl⟩, hs, ho⟩, hp, z⟩
  obtain ⟨G1, H1, n1, n0, hm⟩ := f
  obtain ⟨o, hd, hg, _⟩ := w.mo _ hl
  refine hE c dd xs fs (del G' p) M0 H' (fun a u ha => ?_) hx (rpf_plain hp r) ⟨fun a u ha => ?_, fun q hq => ?_, (hs.map _).nodup w.nd, fun a ps ha => ?_⟩ z
  · have hne : a ≠ p := fun z => by rw [z, n0] at ha; cases ha
    rw [del_ne hne]
    exact e a u ha
  · have hne : a ≠ p := fun z => by rw [z, del_same] at ha; cases ha
    rw [del_ne hne] at ha
    rcases w.ex a u ha with h | ⟨h1, od2, h2, h3⟩
    · exact .inl h
    · rcases ho _ h3 rfl with h4 | h4
      · exact absurd h4 hne
      · exact .inr ⟨h1, od2, h2, h4⟩
  · exact moOk_wane n1 hg hd (hm q hq) (w.mo q (hs.subset hq))
  · have hne : a ≠ p := fun z => by rw [z, del_same] at ha; cases ha
    rw [del_ne hne] at ha
    exact w.nt a ps ha
end
end XD

/-! XE15: tuple * int. -/
namespace XD
open PySem L2 XX
theorem rpA_rep {K : PySem.W.Frag} {G : Hp} {xs : List V} {ds : List D} (r : RpA K G xs ds) (n : Nat) : RpA K G (List.replicate n xs).flatten (List.replicate n ds).flatten := by
  induction n with
  | zero => exact .nil
  | succ n ih =>
    rw [List.replicate_succ, List.replicate_succ, List.flatten_cons, List.flatten_cons]
    exact r.append ih
theorem xr_mulT {K : PySem.W.Frag} [Bs K] {M : Mm} {R : RD} {ds : List D} {k : Int} (hne : ds ≠ []) (h1 : 2 ≤ k) (h2 : k ≤ 1000) (h : ds.length ≤ 1000) (r : R (.tup (List.replicate k.toNat ds).flatten) M) : Xr K (rRepT K) (.tup ds) (.int k) M R := by
  intro vx vy G H Q rx ry w kk
  cases ry
  cases rx with
  | @tup a xs _ hx ra =>
    refine ⟨a, k, xs, rfl, rfl, .inl (.inl (w.tup hx)), fun e => ?_, h1, h2, by rw [ra.length]; exact h, fun p hp => ?_⟩
    · subst e
      cases ra
      exact hne rfl
    · obtain ⟨G', e, r', w'⟩ := w.newT hp (rpA_rep ra k.toNat)
      exact kk _ _ G' M _ e r' w' r
/-- a call of a def whose promise names a class -/
theorem pe_gM {X : Cx} {K : PySem.W.Frag} {mg : Str → Option Value} {k : Nat} {x : Str} {ps : List Str} {S : DS} {e : Expr} {es : List Expr} {t : TA} {p pos : Pos} (G : GFn X.prog X.w K mg X.base k x ps S) (hr : Room k X.A) (ha : PA X (e :: es) t) (h : X.K = K := by rfl) (hmg : X.mg = mg := by rfl)
    (hg : Gl X x := by rfl) (hdb : (x == ("__debug__" : Str)) = false := by decide) (he : starEach (e :: es) X.env = (false, eval e X.env) :: starEach es X.env := by rfl) (hpl : (backTo pos (starEach es X.env)).any (·.1) = false := by rfl) :
    PE X (.Call (.Name x p) (e :: es) [] pos) (tCall (spOf K S) [] E0 t) := by
  subst h
  subst hmg
  exact pe_g G hr ha hg hdb he hpl
/-- the same for a def that may let exceptions out, where none may come -/
theorem pe_gX0M {X : Cx} {K : PySem.W.Frag} {mg : Str → Option Value} {k : Nat} {x : Str} {ps : List Str} {S : DX} {e : Expr} {es : List Expr} {t : TA} {p pos : Pos} (G : GFx X.prog X.w K mg X.base k x ps S) (hr : Room k X.A) (ha : PA X (e :: es) t) (h : X.K = K := by rfl) (hmg : X.mg = mg := by rfl)
    (hg : Gl X x := by rfl) (hdb : (x == ("__debug__" : Str)) = false := by decide) (he : starEach (e :: es) X.env = (false, eval e X.env) :: starEach es X.env := by rfl) (hpl : (backTo pos (starEach es X.env)).any (·.1) = false := by rfl) :
    PE X (.Call (.Name x p) (e :: es) [] pos) (tCall (spX K S) [] E0 t) := by
  subst hmg
  exact pe_gX G hr ha passF h hg hdb he hpl
end XD

/-! XE16: a[i] by the own __getitem__ of a class. -/
namespace XD
open PySem L2 XX PyProof.Rows
/-- the function of an own method is one of Python -/
structure GI (K : PySem.W.Frag) (mg : Str → Option Value) (x m : Str) : Prop where
  ex : ∃ f, PySem.W.findIn K (.ref (clsA mg x)) m = some (some (.ref f)) ∧ PySem.W.fnIn K f = true
theorem GI.mk' {K : PySem.W.Frag} {mg : Str → Option Value} {h : Heap} (X : K.In h) (G : h.Ns mainGlobals mg) {x m : Str} {C F : Addr} (a : PySem.W.nsIn K mainGlobals x = some (some (.ref C)))
    (e : PySem.W.findIn K (.ref C) m = some (some (.ref F))) (g : PySem.W.fnIn K F = true) : GI K mg x m := by
  have e2 := clsA_of (PySem.W.mg_of X G a)
  exact ⟨F, by rw [e2]; exact e, g⟩
def rOwnIx (C : Addr) (sp : Sp) (E : XK) : R2 := fun x y H Q => ∃ a dx xs, x = .ref a ∧ H a = some (.ins C dx xs) ∧ sp [x, y] H Q E
def OwnIx (b : Expr) : Prop := ∀ o i, subscripted b true o i = runValue (.builtin "lifetime.subscript" ⟨[o, i], []⟩)
theorem pe_ixOwn {X : Cx} {CX : CXT} {n : Nat} {C g : Addr} {sp : Sp} {E : XK} {a b : Expr} {ta tb : TE} {pos : Pos} (he : PySem.W.findIn X.K (.ref C) "__getitem__" = some (some (.ref g))) (hn : PySem.W.fnIn X.K g = true) (hf : PySem.W.isFn X.K (.ref g) = true)
    (F : FnR X.prog X.w X.K X.mg X.base CX n g sp) (hr : Room (n + 1) X.A) (hx : Passes CX X E) (ha : PE X a ta) (hb : PE X b tb) (hs : OwnIx b) : PE X (.Subscript a b pos) (tOp (rOwnIx C sp E) ta tb) := by
  refine ⟨fun pins s σ H Q I h => ?_⟩
  refine Subscript_ (binT ha hb I h fun v u s2 x y H2 I2 rx ry q => ?_)
  obtain ⟨p, dx, xs, rfl, h1, q⟩ := q
  cases (show v = Value.ref p from rx)
  obtain ⟨od, J⟩ := ins_at I2 h1
  obtain ⟨m, hF⟩ := I2.fr
  refine PySem.W.sub_K hF I2.ok.mod.kin J he hn hf ?_ (hs _ _)
  exact wpAny_call (SlX.run_at (us := [.ref p, u]) (ws := [.ref p, y]) F hr.in1 I2.env0.in1 hx I2 (.cons rfl (.cons ry .nil)) q)
section
variable {P : Program} {w : World} {K : PySem.W.Frag} {mg : Str → Option Value} {base : Heap}
theorem GMx.fnR {k : Nat} {x m : Str} {ps : List Str} {S : DX} (G : GMx P w K mg base k x m ps S) :
    ∃ f, FnR P w K mg base (L2.CX P w) k f (spX K S) ∧ PySem.W.findIn K (.ref (clsA mg x)) m = some (some (.ref f)) ∧ PySem.W.isFn K (.ref f) = true := by
  obtain ⟨f, fd, h1, h2, h3⟩ := G.ex
  refine ⟨f, (h1.raw h3 .nil).imp fun vs H Q E h => ?_, h2.at_, h2.fn⟩
  rw [List.append_nil]
  exact h
end
theorem pe_ixC {X : Cx} {K : PySem.W.Frag} {mg : Str → Option Value} {k : Nat} {x : Str} {ps : List Str} {S : DX} {E : XK} {a b : Expr} {ta tb : TE} {pos : Pos} (i : GI K mg x "__getitem__") (G : GMx X.prog X.w K mg X.base k x "__getitem__" ps S) (hr : Room (k + 1) X.A) (ha : PE X a ta) (hb : PE X b tb)
    (hx : Passes (L2.CX X.prog X.w) X E := by exact passes_call (takes_of rfl rfl rfl rfl) fun _ _ _ _ h => h) (hs : OwnIx b := by intro _ _; rfl) (h : X.K = K := by rfl) (hmg : X.mg = mg := by rfl) : PE X (.Subscript a b pos) (tOp (rOwnIx (clsA mg x) (spX K S) E) ta tb) := by
  subst h
  subst hmg
  obtain ⟨f, h1, h2, h3⟩ := G.fnR
  obtain ⟨f2, e1, e2⟩ := i.ex
  have e : f2 = f := by
    rw [h2] at e1
    cases e1
    rfl
  subst e
  exact pe_ixOwn h2 e2 h3 h1 hr hx ha hb hs
section
variable {K : PySem.W.Frag} [Bs K] {M : Mm} {R : RD} {Z : RX} {E : XK}
theorem xr_ownIx {C : Addr} {S : DX} {x y : D} (hE : EKo K E Z) (hx : IsC C x M) (h : S [x, y] M R Z) : Xr K (rOwnIx C (spX K S) E) x y M R := by
  intro vx vy G H Q r1 r2 w k
  obtain ⟨a, dx, xs, rfl, h1⟩ := hx.at r1 w
  exact ⟨a, dx, xs, rfl, h1, G, M, _, R, Z, .cons r1 (.cons r2 .nil), w.toWd0, h, sp_back w.bs k (Ex.refl G), sp_xback (G := G) w.bs hE⟩
end
end XD

/-! XE17: {**table, key: value}. -/
namespace XD
open PySem PySem.Spec PyProof.Rows L2 XX
section
variable {prog : Program} {w : World} {K : Type} [DecidableEq K] {knd : KeyKind prog w K} {A : Around} {E : Value → Shared → Prop} {s : Shared}
theorem dp_put {d : Addr} {kvs : List (K × Value)} {k : K} {key v : Value} {Q : Unit → Shared → Prop} (hkey : knd.is k key = true) (hm : s.heap.DictOf knd d kvs)
    (hQ : ∀ h', h'.DictOf knd d (stored kvs k v) → Heap.SameBut d s.heap h' → Q () { s with heap := h' }) (hsz : kvs.length ≤ sizeLine) : wpAny (model prog w) A (dictPut d (knd.hash k) key v) Q E s := by
  obtain ⟨o, es, ep, ho, hc, hd, hk, hp, hn⟩ := hm
  have hl0 := hp.length
  have hes : es.size ≤ sizeLine := by
    rw [Array.length_toList] at hl0
    omega
  have hidx : (es.findIdx? fun e => knd.is k e.key) = kvs.findIdx? fun kv => decide (kv.1 = k) := by
    rw [← hp.findIdx k]
    obtain ⟨l⟩ := es
    simp
  unfold dictPut
  refine wpAny_bind (wpAny_dictFind_of hkey ho hd hk ?_)
  cases hi : es.findIdx? fun e => knd.is k e.key with
  | some i =>
    refine wpAny_updateDict ho hd (hQ _ ⟨_, _, ep, Heap.get?_update_self _ ho (Obj.isFreed_of_dict (Obj.data_mapDict hd _)), hc.mapDict _, Obj.data_mapDict hd _, hk.modify _ _, ?_, ?_⟩ (Heap.SameBut.update ..))
    · rw [stored, if_pos (any_of_findIdx_some (hidx ▸ hi))]
      have hl : (es.toList.findIdx? fun e => knd.is k e.key) = some i := by
        rw [← hi]
        obtain ⟨l⟩ := es
        simp
      have z := hp.modify hn hl v
      obtain ⟨l⟩ := es
      simpa using z
    · rw [stored, if_pos (any_of_findIdx_some (hidx ▸ hi)), keys_map_store]
      exact hn
  | none =>
    have hnot : k ∉ kvs.map (·.1) := not_mem_of_findIdx_none (hidx ▸ hi)
    have hany : ¬ (kvs.any fun kv => decide (kv.1 = k)) = true := fun z => by
      obtain ⟨kv, hkv, e⟩ := List.any_eq_true.mp z
      exact hnot (List.mem_map.mpr ⟨kv, hkv, of_decide_eq_true e⟩)
    refine wpAny_updateDictKeys (hz := hes) ho hd (hQ _ ⟨_, _, ep + 1, Heap.get?_update_self _ ho (Obj.isFreed_of_dict (Obj.data_mapDictKeys hd _)), hc.mapDictKeys _, Obj.data_mapDictKeys hd _, hk.push hkey _, ?_, ?_⟩ (Heap.SameBut.update ..))
    · rw [stored, if_neg hany]
      have z := hp.append hkey (knd.hash k) v
      obtain ⟨l⟩ := es
      simpa using z
    · rw [stored, if_neg hany, List.map_append, List.nodup_append]
      refine ⟨hn, by simp, fun a ha b hb e => ?_⟩
      simp only [List.map_cons, List.map_nil, List.mem_singleton] at hb
      exact hnot (hb ▸ e ▸ ha)
theorem mm_dict {d o : Addr} {kvs more : List (K × Value)} {Q : Unit → Shared → Prop} (hdo : d ≠ o) (hoS : (o == sysModules) = false) (hd : s.heap.DictOf knd d kvs) (ho : s.heap.DictOf knd o more)
    (hQ : ∀ h', h'.DictOf knd d (merged kvs more) → Heap.SameBut d s.heap h' → Q () { s with heap := h' }) (hsz : kvs.length + more.length ≤ sizeLine) : wpAny (model prog w) A (mergeMapping d (.ref o) false) Q E s := by
  obtain ⟨od, esd, epd, hod, hcd, hdd, hkd, hpd, hnd⟩ := id hd
  obtain ⟨oo, eso, epo, hoo, hco, hdo', hko, hpo, hno⟩ := id ho
  have hT : s.TypeIs (.ref o) "dict" := ⟨oo, hoo, hco.1⟩
  have hlen : more.length = eso.size := by rw [← hpo.length, Array.length_toList]
  unfold mergeMapping
  refine wpAny_bind (wpAny_isInstance (U := "dict") hT (b := true) (by first | rfl | decide +kernel) ?_)
  simp only [if_true]
  refine wpAny_bind (wpAny_specialOf hT (r := some (.builtin "dict.__iter__")) (by first | rfl | decide +kernel) (wpAny_bind (wpAny_pure ?_)))
  have e1 : ((some (Value.builtin "dict.__iter__") : Option Value) == some (.builtin "dict.__iter__")) = true := by decide +kernel
  simp only [e1]
  rw [if_neg (by rw [hoS]; exact Bool.false_ne_true)]
  refine wpAny_bind (wpAny_dictEntries hod hdd ?_)
  have keys : ∀ {Q2 : PUnit → Shared → Prop}, Q2 PUnit.unit s → ∀ f : DictEntry → PUnit → Sem (ForInStep PUnit), (∀ e ∈ eso, (∀ a, e.key ≠ .ref a) → f e PUnit.unit = pure (.yield PUnit.unit)) → wpAny (model prog w) A (forIn eso PUnit.unit f) Q2 E s := fun hq f hf => by
    rw [← Array.forIn_toList, forIn_yield_id PUnit.unit fun e he c => hf e (Array.mem_toList_iff.mp he) fun a z => ?_]
    · exact wpAny_pure hq
    · obtain ⟨k, hkey, _⟩ := hko e (Array.mem_toList_iff.mp he)
      have := knd.byValue k _ hkey
      rw [z] at this
      exact Bool.false_ne_true this
  cases hc : esd.isEmpty
  case' true =>
    simp only [if_true]
    refine wpAny_bind (wpAny_dictEntries hoo hdo' ?_)
    refine wpAny_bind (keys ?_ _ fun e _ hn => ?_)
    rotate_left
    · split
      · rename_i z
        exact absurd z (hn _)
      · rfl
  case' false => simp only [Bool.false_eq_true, if_false]
  all_goals
    refine wpAny_bind (wpAny_dictEntries hoo hdo' ?_)
    refine wpAny_bind (wpAny_dictEpoch hoo hdo' ?_)
    refine wpAny_bind (wpAny_forIn_list _ (fun rest _ s' => ∃ h' i, s' = { s with heap := h' } ∧ rest = (List.range eso.size).drop i ∧ i ≤ eso.size ∧ h'.DictOf knd d (merged kvs (more.take i)) ∧ h'.get? o = some oo ∧ Heap.SameBut d s.heap h') _ ?_ ?_ _ _ ⟨s.heap, 0, rfl, rfl, Nat.zero_le _, by simpa [merged] using hd, hoo, Heap.SameBut.refl _ _⟩)
    · rintro x rest b s' ⟨h', i, rfl, hr, hi, hd', hoo', hs'⟩
      have hlt : i < eso.size := by
        rcases Nat.lt_or_ge i eso.size with h | h
        · exact h
        · rw [List.drop_eq_nil_of_le (by simpa using h)] at hr
          cases hr
      rw [List.drop_eq_getElem_cons (by simpa using hlt)] at hr
      obtain ⟨e1, e2⟩ := List.cons.inj hr
      have e1 : x = i := by simpa using e1
      subst e1
      refine wpAny_bind (wpAny_dictEntries hoo' hdo' ?_)
      rw [Array.getElem?_eq_getElem hlt]
      have hlm : x < more.length := by rw [hlen]; exact hlt
      obtain ⟨⟨k, v⟩, hkv⟩ : ∃ kv, more[x]? = some kv := ⟨more[x], List.getElem?_eq_getElem hlm⟩
      obtain ⟨hkey, hval⟩ := hpo.get? (e := eso[x]) (by simp [hlt]) hkv
      obtain ⟨k', hkey', hhash⟩ := hko eso[x] (Array.getElem_mem hlt)
      obtain rfl : k' = k := knd.inj _ _ _ hkey' hkey
      have hmx : (merged kvs (more.take x)).length ≤ sizeLine := by
        have a1 := merged_length_le kvs (more.take x)
        have a2 : (more.take x).length ≤ more.length := by
          rw [List.length_take]
          omega
        omega
      simp only [Bool.false_eq_true, if_false]
      rw [hhash, hval]
      refine wpAny_bind (wpAny_holding (dp_put hkey hd' (fun h'' hd'' hs'' => ?_) hmx))
      have hoo'' : h''.get? o = some oo := (hs''.2 o (Ne.symm hdo)).trans hoo'
      refine wpAny_bind (wpAny_dictEpoch hoo'' hdo' ?_)
      rw [if_neg (by simp)]
      refine wpAny_pure ⟨h'', x + 1, rfl, e2, hlt, ?_, hoo'', hs'.trans hs''⟩
      rw [merged_take_succ kvs more x (k', v) hkv]
      exact hd''
    · rintro b s' ⟨h', i, rfl, hr, hi, hd', _, hs'⟩
      have hin : i = eso.size := by
        rcases Nat.lt_or_ge i eso.size with h | h
        · rw [List.drop_eq_getElem_cons (by simpa using h)] at hr
          cases hr
        · exact Nat.le_antisymm hi h
      rw [hin, ← hlen, List.take_length] at hd'
      exact wpAny_pure (hQ h' hd' hs')
theorem dd_run {vt k v : Sem Value} {Q : Value → Shared → Prop} (h : wpAny (model prog w) A vt (fun m s1 => wpAny (model prog w) A (mergeMapping s.heap.objs.size m false) (fun _ s2 => wpAny (model prog w) A (subDict [(k, v)]) (fun sub s3 =>
    wpAny (model prog w) A (mergeMapping s.heap.objs.size (.ref sub) false) (fun _ s4 => Q (.ref s.heap.objs.size) s4) (fun _ _ => False) s3) E s2) (fun _ _ => False) s1) E { s with heap := s.heap.push { cls := .type "dict", data := .dict #[] } }) : wpAny (model prog w) A (dictDisplay [(none, vt), (some k, v)]) Q E s := by
  have no : ∀ {α : Type} {t : Sem α} {k : Value → Sem Unit} {Q : α → Shared → Prop} {s : Shared}, wpAny (model prog w) A t Q (fun _ _ => False) s → wpAny (model prog w) A (t.onRaise k) Q (fun _ _ => False) s := fun h => wpAny_onRaise (wpAny_mono h (fun _ _ z => z) fun _ _ z => z.elim)
  have no2 : ∀ {α : Type} {t : Sem α} {k : Value → Sem α} {Q : α → Shared → Prop} {s : Shared}, wpAny (model prog w) A t Q (fun _ _ => False) s → wpAny (model prog w) A (t.tryCatch k) Q (fun _ _ => False) s := fun h => wpAny_tryCatch (wpAny_mono h (fun _ _ z => z) fun _ _ z => z.elim)
  have ex : ∀ {α : Type} {t : Sem α} {Q : α → Shared → Prop} {s : Shared}, wpAny (model prog w) A t Q (fun _ _ => False) s → wpAny (model prog w) A t Q E s := fun h => wpAny_mono h (fun _ _ z => z) fun _ _ z => z.elim
  unfold dictDisplay
  simp only [List.forIn_cons, List.forIn_nil, List.isEmpty_nil, if_true, pure_bind, bind_assoc, List.nil_append, List.length_cons, List.length_nil, show ((0 + 1 == 17) : Bool) = false from rfl, Bool.false_eq_true, if_false, List.isEmpty_cons]
  refine wpAny_bind (wpAny_alloc ?_)
  refine wpAny_bind (wpAny_holding (wpAny_mono h (fun m s1 h1 => ?_) fun _ _ z => z))
  refine wpAny_bind (ex (no (no2 (no (wpAny_holding (wpAny_mono h1 (fun _ s2 h2 => ?_) fun _ _ z => z))))))
  show wpAny _ _ (do
      let sub ← holding [Value.ref s.heap.objs.size] (subDict [(k, v)])
      (holding [Value.ref s.heap.objs.size, Value.ref sub] (mergeMapping s.heap.objs.size (Value.ref sub) false)).onRaise fun x => do
                  let _ ← holding [Value.ref s.heap.objs.size, x] (runValue (Code.builtin "proto.let_go" { }))
                  pure ()
      pure (Value.ref s.heap.objs.size)) _ _ _
  refine wpAny_bind (wpAny_holding (wpAny_mono h2 (fun sub s3 h3 => ?_) fun _ _ z => z))
  exact wpAny_bind (ex (no (wpAny_holding (wpAny_mono h3 (fun _ s4 h4 => wpAny_pure h4) fun _ _ z => z))))
end
/-- {**table, k: v}: the table's keys are ints and texts -/
def tSpr (td tk tv : TE) : TE := fun σ H Q => ∀ p, H p = none → td σ (upd H p (.dK [])) fun x H1 => ∃ a kvs, x = .ref a ∧ a ≠ p ∧ Rd H1 a (.dK kvs) ∧ H1 p = some (.dK []) ∧ kvs.length ≤ 1000000 ∧
  ∀ q, upd H1 p (.dK (mergeK [] kvs)) q = none → tk σ (upd (upd H1 p (.dK (mergeK [] kvs))) q (.dK [])) fun y H2 => tv σ H2 fun z H3 => ∃ k kp, y = kV k ∧ H3 q = some (.dK []) ∧ H3 p = some (.dK kp) ∧ kp.length ≤ 1000000 ∧
    Q (.ref p) (upd (upd H3 q (.dK (putK [] k z))) p (.dK (putK kp k z)))
theorem pe_spr {X : Cx} {e ke ve : Expr} {td tk tv : TE} {pos : Pos} (he : PE X e td) (hk : PE X ke tk) (hv : PE X ve tv) : PE X (.Dict [none, some ke] [e, ve] pos) (tSpr td tk tv) := by
  refine ⟨fun pins s σ H Q I h => ?_⟩
  rw [arm_eval_Dict]
  refine wpAny_bind (wpAny_standAt ?_)
  show wpAny _ _ (dictDisplay [(none, do let x ← eval e X.env; standAt pos; pure x), (some (eval ke X.env), do let x ← eval ve X.env; standAt pos; pure x)]) _ _ _
  have hn := I.hok.fresh (Nat.le_refl s.heap.objs.size)
  have I1 := I.laid (a := s.heap.objs.size) (o := .dK []) (h' := s.heap.push { cls := .type "dict", data := .dict #[] }) (t' := s.toks) (fun _ _ q => Heap.get?_push_of_some _ q) (Nat.le_refl _) (dk_empty s.heap I.big)
  have sz : ∀ n : Nat, n ≤ 1000016 → n ≤ sizeLine := fun n h => Nat.le_trans h (by decide)
  refine dd_run (wpAny_bind (thn (he.run pins _ σ _ _ I1 (h _ hn)) fun u s1 hx => wpAny_bind (wpAny_standAt (wpAny_pure ?_))))
  obtain ⟨v, H1, I2, rv, a, kvs, rfl, hne, hrd, hp1, hl, hq⟩ := hx
  obtain rfl : u = .ref a := rv
  obtain ⟨_, hpS, vs0, r0, dd0⟩ := dk_of I2.hok hp1
  cases r0
  obtain ⟨_, haS, vs1, r1, dd1⟩ := dk_rd I2.hok hrd
  have hl1 := r1.length
  have hm0 := length_mergeK kvs []
  rw [List.length_nil] at hm0
  refine mm_dict (Ne.symm hne) haS dd0 dd1 (fun h' hd' hs' => ?_) (sz _ (by rw [List.length_nil]; omega))
  have he' : ∃ q, h'.get? s.heap.objs.size = some q := let ⟨q, _, _, hq, _⟩ := hd'; ⟨q, hq⟩
  have I3 : Inv X pins σ (upd H1 s.heap.objs.size (.dK (mergeK [] kvs))) { s1 with heap := h', toks := s1.toks } := d_write I2 (by rw [hp1]; exact True.intro) hs' he' (dk_new (sz _ (by omega)) hpS (r1.merge .nil) hd')
  have hn2 := I3.hok.fresh (Nat.le_refl h'.objs.size)
  have I4 := I3.laid (a := h'.objs.size) (o := .dK []) (h' := h'.push { cls := .type "dict", data := .dict #[] }) (t' := s1.toks) (fun _ _ q => Heap.get?_push_of_some _ q) (Nat.le_refl _) (dk_empty h' I3.big)
  refine wpAny_subDict (knd := mixKind X.prog X.w) (by simp) (evalPairs_cons (thn (hk.run pins _ σ _ _ I4 (hq _ hn2)) fun yv s4 ⟨y, H4, I5, ry, hq⟩ => wpAny_bind (thn (hv.run pins _ σ _ _ I5 hq) fun zv s5 ⟨z, H5, I6, rz, hq⟩ => wpAny_bind (wpAny_standAt (wpAny_pure (evalPairs_nil ?_))))))
  obtain ⟨k, kp, rfl, hq5, hp5, hkp, hQ⟩ := hq
  obtain ⟨_, hqS, vs2, r2, dd2⟩ := dk_of I6.hok hq5
  cases r2
  have rk : KV [(k, z)] [(k, zv)] := .cons ⟨rfl, rz⟩ .nil
  refine ⟨[(k, zv)], ⟨kV_is ry, rfl, True.intro⟩, dd2, fun h2 hd2 hs2 => ?_⟩
  have he2 : ∃ q, h2.get? h'.objs.size = some q := let ⟨q, _, _, hq, _⟩ := hd2; ⟨q, hq⟩
  have I7 : Inv X pins σ (upd H5 h'.objs.size (.dK (mergeK [] [(k, z)]))) { s5 with heap := h2, toks := s5.toks + [(yv, zv)].length } := d_write I6 (by rw [hq5]; exact True.intro) hs2 he2 (dk_new (sz _ (by have := length_mergeK [(k, z)] []; simp at this; omega)) hqS (rk.merge .nil) hd2)
  have hpq : s.heap.objs.size ≠ h'.objs.size := ne_of_none (H := upd H1 s.heap.objs.size (.dK (mergeK [] kvs))) upd_same hn2
  have hp7 : upd H5 h'.objs.size (.dK (mergeK [] [(k, z)])) s.heap.objs.size = some (.dK kp) := by rw [upd_ne hpq]; exact hp5
  have hq7 : upd H5 h'.objs.size (.dK (mergeK [] [(k, z)])) h'.objs.size = some (.dK (mergeK [] [(k, z)])) := upd_same
  obtain ⟨_, hpS7, vs7, r7, dd7⟩ := dk_of I7.hok hp7
  obtain ⟨_, hqS7, vs8, r8, dd8⟩ := dk_of I7.hok hq7
  have hl7 := r7.length
  have hl8 := r8.length
  have hl9 : (mergeK [] [(k, z)]).length ≤ 1 := by have := length_mergeK [(k, z)] []; simpa using this
  refine mm_dict hpq hqS7 dd7 dd8 (fun h3 hd3 hs3 => ?_) (sz _ (by omega))
  have he3 : ∃ q, h3.get? s.heap.objs.size = some q := let ⟨q, _, _, hq, _⟩ := hd3; ⟨q, hq⟩
  have hm1 := length_mergeK (mergeK [] [(k, z)]) kp
  have I8 : Inv X pins σ (upd (upd H5 h'.objs.size (.dK (mergeK [] [(k, z)]))) s.heap.objs.size (.dK (mergeK kp (mergeK [] [(k, z)])))) { s5 with heap := h3, toks := s5.toks + [(yv, zv)].length } :=
    d_write (s := { s5 with heap := h2, toks := s5.toks + [(yv, zv)].length }) (t' := s5.toks + [(yv, zv)].length) I7 (by rw [hp7]; exact True.intro) hs3 he3 (dk_new (sz _ (by omega)) hpS7 (r8.merge r7) hd3)
  exact ⟨.ref s.heap.objs.size, _, I8, rfl, hQ⟩
section
variable {K : PySem.W.Frag} [Bs K] {ρ : Rho} {M : Mm} {R : RD}
theorem RpK.keys {G : Hp} : ∀ {xs : List (Key × V)} {ds : List (Key × D)}, RpK K G xs ds → xs.map (·.1) = ds.map (·.1)
  | _, _, .nil => rfl
  | _, _, .cons _ r => by
    rw [List.map_cons, List.map_cons, RpK.keys r]
theorem mergeK_app : ∀ {xs acc : List (Key × V)}, ((acc ++ xs).map (·.1)).Nodup → mergeK acc xs = acc ++ xs
  | [], acc, _ => by simp [mergeK]
  | (k, v) :: xs, acc, h => by
    have hn : valV acc k = none := by
      unfold valV
      rw [List.find?_eq_none.mpr]
      · rfl
      · intro kv hkv z
        rw [List.map_append, List.map_cons, List.nodup_append] at h
        exact h.2.2 kv.1 (List.mem_map_of_mem (f := (·.1)) hkv) k List.mem_cons_self (by simpa using z)
    have e : mergeK acc ((k, v) :: xs) = mergeK (acc ++ [(k, v)]) xs := by
      show mergeK (putK acc k v) xs = _
      rw [putK_new v hn]
    rw [e, mergeK_app (by simpa using h)]
    simp
theorem DcK.tail {x : D} {kvs : List (Key × D)} {y : Addr × MO} (h : DcK M x kvs) : DcK (y :: M) x kvs := by
  cases h with
  | fr a kvs => exact .fr a kvs
  | mt h => exact .mt (.tail h)
theorem xe_spr {td tk tv : TE} (h : ∀ p, Xe K td ρ ((p, .dk []) :: M) fun x M1 => M1 = (p, .dk []) :: M ∧ ∃ kvs, DcK M x kvs ∧ (kvs.map (·.1)).Nodup ∧ kvs.length ≤ 1000 ∧
    ∀ q, Xe K tk ρ ((q, .dk []) :: (p, .dk kvs) :: M) fun y M2 => M2 = (q, .dk []) :: (p, .dk kvs) :: M ∧ Xe K tv ρ ((q, .dk []) :: (p, .dk kvs) :: M) fun z M3 => M3 = (q, .dk []) :: (p, .dk kvs) :: M ∧
      ∃ k, y = kD k ∧ R (.ref p) ((p, .dk (putKD kvs k z)) :: M)) : Xe K (tSpr td tk tv) ρ M R := by
  intro σ G H Q s w kk p hp
  have w1 := w.newM (m := .dk []) hp ⟨w.gfree hp, [], upd_same, .nil⟩
  refine h p σ G _ _ s w1 fun v x G1 M1 H1 e1 r1 w2 q => ?_
  obtain ⟨rfl, kvs, dc, nd, hl, hq⟩ := q
  obtain ⟨hGp, xp, hp1, rp1⟩ := w2.get Has.head
  cases rp1
  obtain ⟨a, xs, rfl, rd, rk⟩ := (dc.tail (y := (p, .dk []))).at r1 w2
  have hne : a ≠ p := fun z => by
    subst z
    cases dc with
    | fr _ _ =>
      cases r1 with
      | dk hg _ => rw [hGp] at hg; cases hg
    | mt hm =>
      cases r1
      have nd2 := w2.nd
      rw [List.map_cons, List.nodup_cons] at nd2
      exact nd2.1 (List.mem_map_of_mem (f := (·.1)) hm.mem)
  have hlx : xs.length = kvs.length := by rw [← List.length_map (f := fun x : Key × V => x.1), RpK.keys rk, List.length_map]
  have hmx : mergeK [] xs = xs := by
    have := mergeK_app (acc := []) (xs := xs) (by rw [List.nil_append, RpK.keys rk]; exact nd)
    simpa using this
  refine ⟨a, xs, rfl, hne, rd, hp1, by omega, fun q hqn => ?_⟩
  rw [hmx] at hqn ⊢
  have w3 := w2.put (o := .dK xs) (m := .dk kvs) .head hGp ⟨hGp, xs, upd_same, rk⟩
  have w4 := w3.newM (m := .dk []) hqn ⟨w3.gfree hqn, [], upd_same, .nil⟩
  refine hq q σ G1 _ _ (s.up e1) w4 fun y0 y G2 M2 H2 e2 ry w5 q2 => ?_
  obtain ⟨rfl, q2⟩ := q2
  refine q2 σ G2 _ _ (s.up (e1.trans e2)) w5 fun z0 z G3 M3 H3 e3 rz w6 q3 => ?_
  obtain ⟨rfl, k, rfl, hR⟩ := q3
  obtain ⟨hGq, xq, hq3, rq3⟩ := w6.get Has.head
  cases rq3
  obtain ⟨hGp3, xp3, hp3, rp3⟩ := w6.get (Has.tail Has.head)
  have hl3 : xp3.length = kvs.length := by rw [← List.length_map (f := fun x : Key × V => x.1), RpK.keys rp3, List.length_map]
  have hy : y0 = kV k := by
    have := (ry.fl (by cases k <;> rfl))
    rw [this]
    cases k <;> rfl
  refine ⟨k, xp3, hy, hq3, hp3, by omega, ?_⟩
  have w7 := w6.put (o := .dK (putK [] k z0)) (m := .dk [(k, z)]) .head hGq ⟨hGq, _, upd_same, .cons rz .nil⟩
  have w8 := w7.put (o := .dK (putK xp3 k z0)) (m := .dk (putKD kvs k z)) (.tail .head) hGp3 ⟨hGp3, _, upd_same, RpK.put rz rp3⟩
  exact kk _ _ G3 _ _ ((e1.trans e2).trans e3) (.ref p) (w8.sub (sub1 rfl)) hR
end
end XD

/-! XE18: lambdas as values, also with one default: they are made. -/
namespace XD
open PySem PySem.Spec PyProof.Rows L2 XX
/-- the function object of a lambda of the name q, its defaults at dV -/
abbrev lfObj (q : Str) (params : Arguments) (body : Expr) (scope : Scope) (cl : List (Str × Addr)) (pm : Value) (c' : Addr) (ct dV : Value) : Obj :=
  { cls := .type "function", data := .func { name := "<lambda>", qualname := q, params, body := .expr body, scope, globals := mainGlobals, closure := cl, defaults := dV, kwdefaults := .none, doc := .none, pyModule := pm, annotations := none, code := .ref c', closureTuple := ct, builtins := builtinsNs } }
def FunO (f c' : Addr) (q : Str) (params : Arguments) (body : Expr) (scope : Scope) (cl : List (Str × Addr)) (dV : Value) : HO := .ext fun h => ∃ pm ct, h.get? f = some (lfObj q params body scope cl pm c' ct dV)
section
variable {M : Model} {A : Around} {E : Value → Shared → Prop} {s : Shared} {q : Str} {params : Arguments} {body : Expr} {scope : Scope} {env : Env} {c P : Addr} {ps : Array Value} {pos : Pos} {l : Nat} {mg : Str → Option Value}
  {clos : List (Str × Addr)} {dV : Value} {Q : Value → Shared → Prop}
theorem lf_tail (hcl : closureFor scope env = pure clos) (hge0 : env.globals = mainGlobals) (hg : s.heap.Ns mainGlobals mg) (hcode : env.code = .ref c) (C : PySem.W.CodeHd s.heap c P) (hP : s.heap.get? P = some (PySem.W.tabObj ps)) (ht : TriplesOk ps.toList)
    (hgP : mainGlobals ≠ P) (hb : s.heap.BuiltinsAt mg P)
    (h1 : codeAmong pos ps.toList = none → ∀ (c' : Addr) (ct : Value) (h' : Heap) (tk : Tok), Heap.ExtBut P s.heap h' → s.heap.objs.size ≤ c' → c' < h'.objs.size → h'.CodeRec (.ref c') q → h'.get? P = some (PySem.W.tabObj (ps ++ #[rawInt pos.line, rawInt pos.col, .ref c'])) →
      Q (.ref h'.objs.size) { s with heap := h'.push (lfObj q params body scope clos ((mg "__name__").getD .none) c' ct dV), toks := tk })
    (h2 : ∀ c', codeAmong pos ps.toList = some (.ref c') → ∀ (ct : Value) (h' : Heap) (tk : Tok), (∀ b o, s.heap.get? b = some o → h'.get? b = some o) → s.heap.objs.size ≤ h'.objs.size →
      Q (.ref h'.objs.size) { s with heap := h'.push (lfObj q params body scope clos ((mg "__name__").getD .none) c' ct dV), toks := tk })
    (h3 : ∀ cv, codeAmong pos ps.toList = some cv → ∃ c', cv = .ref c') : wpAny M A (makeTail "<lambda>" q params (.expr body) scope env dV .none none pos l) Q E s := by
  obtain ⟨bm, ob, hbm, hne0, hnm, hneP, hbo, hcls, hdict, hdata⟩ := hb
  have go : ∀ (ct : Value) (g1 : Heap), (∀ b o, s.heap.get? b = some o → g1.get? b = some o) → s.heap.objs.size ≤ g1.objs.size → wpAny M A (do
      let code ← functionCode env pos l "<lambda>" q params scope (.expr body)
      let bs ← builtinsFor mainGlobals env.builtins
      let nm ← nsGet mainGlobals "__name__"
      let doc ← pure Value.none
      newObj (.type "function") (.func { name := "<lambda>", qualname := q, params, body := .expr body, scope, globals := mainGlobals, closure := clos, defaults := dV, kwdefaults := .none, doc := doc, pyModule := nm.getD .none, code := code, closureTuple := ct, builtins := bs })) Q E { s with heap := g1 } := fun ct g1 k1 z1 => by
    have hg1 := hg.keeps k1
    have C1 := C.keeps k1
    have hP1 := k1 _ _ hP
    cases hc : codeAmong pos ps.toList with
    | none =>
      refine wpAny_bind (wpAny_functionCodeX hcode (C1.code hP1 ht) (C1.tab hP1) hc fun c' g2 tk hx hge hlt _ hrec htb _ => ?_)
      have hg2 := hg1.extBut hx hgP
      refine wpAny_bind (wpAny_builtinsFor hg2 hbm hne0 (hx _ _ hneP (k1 _ _ hbo)) hcls hdict hdata ?_)
      refine wpAny_bind (wpAny_nsGet hg2 ?_)
      exact wpAny_bind (wpAny_pure (wpAny_newObj_type (h1 hc c' ct g2 tk (fun b o hb e => hx b o hb (k1 b o e)) (Nat.le_trans z1 hge) hlt hrec htb.2) (by size_fits)))
    | some cv =>
      obtain ⟨c', rfl⟩ := h3 cv hc
      refine wpAny_bind (wpAny_functionCode_hit hcode (C1.code hP1 ht) hc ?_)
      refine wpAny_bind (wpAny_builtinsFor hg1 hbm hne0 (k1 _ _ hbo) hcls hdict hdata ?_)
      refine wpAny_bind (wpAny_nsGet hg1 ?_)
      exact wpAny_bind (wpAny_pure (wpAny_newObj_type (h2 c' hc ct g1 s.toks k1 z1) (by size_fits)))
  unfold makeTail
  rw [hcl, hge0]
  refine wpAny_bind (wpAny_pure ?_)
  cases clos with
  | nil =>
    simp only [List.isEmpty_nil, if_true]
    exact wpAny_bind (wpAny_pure (go .none s.heap (fun _ _ e => e) (Nat.le_refl _)))
  | cons p r =>
    simp only [List.isEmpty_cons, Bool.false_eq_true, if_false]
    exact wpAny_bind (wpAny_newTextTuple (go _ _ (fun b o e => Heap.get?_push_of_some _ e) (by rw [Heap.size_push]; omega)))
end
section
variable {X : Cx} {pins : List (Addr × Obj)} {σ : L2.St} {H : Hp} {s : Shared}
theorem fun_obj {f c' : Addr} {q : Str} {params : Arguments} {body : Expr} {scope : Scope} {cl : List (Str × Addr)} {pm ct dV : Value} {H' : Hp} {h' : Heap} (e : h'.get? f = some (lfObj q params body scope cl pm c' ct dV)) : ObjOk X.prog X.w H' h' f (FunO f c' q params body scope cl dV) :=
  ⟨⟨pm, ct, e⟩, ⟨_, e⟩, fun _ _ ⟨pm, ct, e⟩ k => ⟨pm, ct, k _ e⟩⟩
theorem lf_make {T : List (Addr × Str)} {c P : Addr} {params : Arguments} {body : Expr} {scope : Scope} {pos : Pos} {dV : Value} {E : Value → Shared → Prop} {Q : Value → Shared → Prop} (I : Inv X pins σ H s) (TB : LamX.TabB X.base X.mg c P) (hcode : X.env.code = .ref c)
    (hm : (P, X.env.qual ++ "<lambda>") ∈ T) (hu : ∀ p ∈ T, p.1 = P → p.2 = X.env.qual ++ "<lambda>") (hT : LamX.Tabs T H) (hfree : ∀ y ∈ scope.names, y.2 = .free → ∃ c, X.env.cells.lookup y.1 = some c)
    (h : ∀ (f c' : Addr) (Hc : Hp) (s' : Shared), Hc f = none → Inv X pins σ (upd Hc f (FunO f c' (X.env.qual ++ "<lambda>") params body scope (cloFrom X.env.cells scope.names []) dV)) s' → LamX.ExtN H Hc → LamX.Tabs T Hc → Hc c' = some (LamX.CodeO c' (X.env.qual ++ "<lambda>")) → Q (.ref f) s') :
    wpAny (model X.prog X.w) X.A (makeTail "<lambda>" (X.env.qual ++ "<lambda>") params (.expr body) scope X.env dV .none none pos pos.line) Q E s := by
  obtain ⟨ps, hP, ht, ha⟩ := hT _ hm
  have bP : s.heap.BuiltinsAt X.mg P := TB.bm.keeps I.bk
  have hP' : s.heap.get? P = some { cls := .none, data := .fields ps } := I.hok P _ hP
  refine lf_tail (mg := X.mg) (closure_ok hfree) I.ok.glob (I.mod.glob.keeps I.bk) hcode (TB.code.keeps I.bk) hP' ht TB.gP bP (fun hc c' ct h' tk hx hge hlt hrec htb => ?_) (fun c' hc ct h' tk k z => ?_) fun cv hc => let ⟨c', e, _⟩ := ha pos cv hc; ⟨c', e⟩
  · obtain ⟨c2, oc, vs, t, e2, hoc, hd, hv⟩ := hrec
    cases e2
    have nC : H c' = none := I.hok.fresh hge
    have I1 := LamX.inv_table (t' := tk) (more := #[rawInt pos.line, rawInt pos.col, .ref c']) (h' := h') I hP (fun b o hb e => hx b o hb e) htb hge ⟨oc, vs, t, hoc, hd, hv⟩
    have hE : LamX.ExtN H (upd (upd H P (.tbl (ps ++ #[rawInt pos.line, rawInt pos.col, .ref c']))) c' (LamX.CodeO c' (X.env.qual ++ "<lambda>"))) := fun b o e n => by
      rw [upd_ne (ne_of_none e nC), upd_ne (fun z => n ps (Option.some.inj (e.symm.trans (by rw [z]; exact hP))))]
      exact e
    have eL : (ps ++ #[rawInt pos.line, rawInt pos.col, .ref c']).toList = ps.toList ++ [rawInt pos.line, rawInt pos.col, .ref c'] := by simp
    have I2 := I1.laid (a := h'.objs.size) (o := FunO h'.objs.size c' (X.env.qual ++ "<lambda>") params body scope (cloFrom X.env.cells scope.names []) dV) (h' := h'.push (lfObj (X.env.qual ++ "<lambda>") params body scope (cloFrom X.env.cells scope.names []) ((X.mg "__name__").getD .none) c' ct dV)) (t' := tk)
      (fun _ _ e => Heap.get?_push_of_some _ e) (Nat.le_refl _) (fun_obj (Heap.get?_push_size _ rfl))
    refine h _ c' _ _ (I1.hok.fresh (Nat.le_refl _)) I2 hE (fun p hp => ?_) upd_same
    by_cases hb : p.1 = P
    · rw [hu p hp hb, hb]
      refine ⟨_, by rw [upd_ne (ne_of_none hP nC), upd_same], by rw [eL]; exact PySem.TriplesOk_snoc _ _ _ _ ht, fun p' cv hcv => ?_⟩
      rw [eL] at hcv
      rcases LamX.among_app _ ht hcv with z | z
      · obtain ⟨c0, e1, e2⟩ := ha p' cv z
        exact ⟨c0, e1, hE _ _ e2 LamX.codeO_ne⟩
      · exact ⟨c', z, upd_same⟩
    · obtain ⟨ps', a1, a2, a3⟩ := hT p hp
      refine ⟨ps', by rw [upd_ne (ne_of_none a1 nC), upd_ne hb]; exact a1, a2, fun p' cv hcv => ?_⟩
      obtain ⟨c0, e1, e2⟩ := a3 p' cv hcv
      exact ⟨c0, e1, hE _ _ e2 LamX.codeO_ne⟩
  · obtain ⟨c0, e, hco⟩ := ha pos _ hc
    cases e
    have I1 : Inv X pins σ H { s with heap := h', toks := tk } := I.kept k
    have I2 := I1.laid (a := h'.objs.size) (o := FunO h'.objs.size c' (X.env.qual ++ "<lambda>") params body scope (cloFrom X.env.cells scope.names []) dV) (h' := h'.push (lfObj (X.env.qual ++ "<lambda>") params body scope (cloFrom X.env.cells scope.names []) ((X.mg "__name__").getD .none) c' ct dV)) (t' := tk)
      (fun _ _ e => Heap.get?_push_of_some _ e) (Nat.le_refl _) (fun_obj (Heap.get?_push_size _ rfl))
    exact h _ c' H _ (I1.hok.fresh (Nat.le_refl _)) I2 (LamX.ExtN.refl H) hT hco
end
/-- a lambda without a default; one with a default, an int -/
def tFn0 (T : List (Addr × Str)) (q : Str) (params : Arguments) (body : Expr) (scope : Scope) (cl : List (Str × Addr)) : TE := fun _ H Q => LamX.Tabs T H ∧ ∀ (f c' : Addr) (Hc : Hp), Hc f = none → LamX.ExtN H Hc → LamX.Tabs T Hc → Hc c' = some (LamX.CodeO c' q) → Q (.ref f) (upd Hc f (FunO f c' q params body scope cl .none))
def tFn1 (T : List (Addr × Str)) (q : Str) (params : Arguments) (body : Expr) (scope : Scope) (cl : List (Str × Addr)) (i : Int) : TE := fun _ H Q => LamX.Tabs T H ∧ ∀ d0 : Addr, H d0 = none → ∀ (f c' : Addr) (Hc : Hp), Hc f = none → LamX.ExtN (upd H d0 (.tup [.int i])) Hc → LamX.Tabs T Hc → Hc c' = some (LamX.CodeO c' q) →
  Q (.ref f) (upd Hc f (FunO f c' q params body scope cl (.ref d0)))
section
variable {X : Cx} {T : List (Addr × Str)} {c P : Addr} {params : Arguments} {body : Expr} {scope : Scope} {pos : Pos}
theorem pe_fn0 (TB : LamX.TabB X.base X.mg c P) (hcode : X.env.code = .ref c) (hm : (P, X.env.qual ++ "<lambda>") ∈ T) (hu : ∀ p ∈ T, p.1 = P → p.2 = X.env.qual ++ "<lambda>") (hfr : ∀ y ∈ scope.names, y.2 = .free → X.env.scope.names.lookup y.1 = some .cell ∨ X.env.scope.names.lookup y.1 = some .free)
    (hdef : defaultsOf params X.env = ([], []) := by rfl) : PE X (.Lambda params body scope pos) (tFn0 T (X.env.qual ++ "<lambda>") params body scope (cloFrom X.env.cells scope.names [])) := by
  refine ⟨fun pins s σ H Q I h => ?_⟩
  obtain ⟨hT, h⟩ := h
  refine PySem.W.kla_eval hdef ?_
  rw [makeFunction_eq]
  simp only [List.zip_nil_right, List.filterMap_nil, List.isEmpty_nil, if_true, pure_bind]
  exact lf_make I TB hcode hm hu hT (fun y hy e => I.ok.has _ (hfr y hy e)) fun f c' Hc s' hf I' eN T' hco => ⟨.ref f, _, I', rfl, h f c' Hc hf eN T' hco⟩
theorem pe_fn1 {i : Int} {d : Expr} (TB : LamX.TabB X.base X.mg c P) (hcode : X.env.code = .ref c) (hm : (P, X.env.qual ++ "<lambda>") ∈ T) (hu : ∀ p ∈ T, p.1 = P → p.2 = X.env.qual ++ "<lambda>") (hfr : ∀ y ∈ scope.names, y.2 = .free → X.env.scope.names.lookup y.1 = some .cell ∨ X.env.scope.names.lookup y.1 = some .free)
    (hd : PE X d (tC (.int i))) (hdef : defaultsOf params X.env = ([eval d X.env], []) := by rfl) (hkw : params.kwonlyargs = [] := by rfl) : PE X (.Lambda params body scope pos) (tFn1 T (X.env.qual ++ "<lambda>") params body scope (cloFrom X.env.cells scope.names []) i) := by
  refine ⟨fun pins s σ H Q I h => ?_⟩
  obtain ⟨hT, h⟩ := h
  rw [arm_eval_Lambda, hdef]
  show wpAny _ X.A (do let dv ← evalAll [eval d X.env]; let kdv ← holding dv (evalAllOpt []); makeFunction "<lambda>" (X.env.qual ++ "<lambda>") params (.expr body) scope X.env dv kdv [] pos pos.line) _ _ s
  refine wpAny_bind (evalAll_cons (thn (hd.run pins s σ H (fun v H1 => v = .int i ∧ H1 = H) I ⟨rfl, rfl⟩) fun u s1 ⟨v, H1, I1, rv, ev, eH⟩ => evalAll_nil ?_))
  subst ev
  subst eH
  refine wpAny_bind (wpAny_holding (wpAny_pure ?_))
  rw [makeFunction_eq]
  simp only [hkw, List.zip_nil_right, List.zip_nil_left, List.filterMap_nil, List.isEmpty_nil, List.isEmpty_cons, if_true, Bool.false_eq_true, if_false, pure_bind]
  refine wpAny_bind (wpAny_newTextTuple ?_)
  have hn := I1.hok.fresh (Nat.le_refl s1.heap.objs.size)
  have I2 := I1.laid (a := s1.heap.objs.size) (o := .tup [.int i]) (h' := s1.heap.push { cls := .type "tuple", data := .seq [u].toArray }) (t' := s1.toks) (fun b o e => Heap.get?_push_of_some _ e) (Nat.le_refl _)
    ⟨Nat.le_of_ble_eq_true rfl, [u], .cons rv .nil, ⟨_, Heap.get?_push_size _ rfl, rfl, _, rfl⟩⟩
  exact lf_make I2 TB hcode hm hu (hT.ext fun b o e => by rw [upd_ne (ne_of_none e hn)]; exact e) (fun y hy e => I2.ok.has _ (hfr y hy e)) fun f c' Hc s' hf I' eN T' hco => ⟨.ref f, _, I', rfl, h _ hn f c' Hc hf eN T' hco⟩
end
end XD

/-! XE19: lambdas as values are called; a comprehension whose element sees what holds of the frame around. -/
namespace XD
open PySem PySem.Spec PyProof.Rows L2 XX
/-- the names of a lambda: captured ones (none of own), globals, and at most parameters that are no slot -/
structure LfS (N own : List Str) (sc scope : Scope) : Prop where
  kind : scope.kind = .function
  co : scope.isCoroutine = false
  gen : scope.isGenerator = false
  cell : ∀ y ∈ scope.names, y.2 ≠ .cell
  loc : ∀ y ∈ scope.names, y.2 = .local → y.1 ∉ N
  free : ∀ y ∈ scope.names, y.2 = .free → y.1 ∉ own ∧ (sc.names.lookup y.1 = some .cell ∨ sc.names.lookup y.1 = some .free)
def lfSB (N own : List Str) (sc scope : Scope) : Bool :=
  decide (scope.kind = .function) && !scope.isCoroutine && !scope.isGenerator && scope.names.all fun y => !decide (y.2 = .cell) && (!decide (y.2 = .local) || !N.contains y.1) && (!decide (y.2 = .free) || (!own.contains y.1 && (decide (sc.names.lookup y.1 = some .cell) || decide (sc.names.lookup y.1 = some .free))))
theorem lfS_by {N own : List Str} {sc scope : Scope} (h : lfSB N own sc scope = true) : LfS N own sc scope := by
  unfold lfSB at h
  simp only [Bool.and_eq_true, Bool.or_eq_true, Bool.not_eq_true', decide_eq_true_eq, decide_eq_false_iff_not, List.all_eq_true] at h
  obtain ⟨⟨⟨h1, h2⟩, h3⟩, h4⟩ := h
  refine ⟨h1, h2, h3, fun y hy => (h4 y hy).1.1, fun y hy e => ?_, fun y hy e => ?_⟩
  · rcases (h4 y hy).1.2 with z | z
    · exact absurd e z
    · simpa using z
  · rcases (h4 y hy).2 with z | z
    · exact absurd e z
    · exact ⟨by simpa using z.1, z.2⟩
/-- what is known of the law's cells in the heap h -/
structure CellsAt (X : Cx) (own : List Str) (σ : L2.St) (H : Hp) (h : Heap) : Prop where
  cell : ∀ y c, X.env.cells.lookup y = some c → ∃ w, h.IsCell c w
  free : ∀ y c, X.env.cells.lookup y = some c → H c = none
  val : ∀ (i : Nat) y v c, X.N[i]? = some y → σ[i]? = some (some v) → y ∉ own → (X.env.scope.names.lookup y = some .cell ∨ X.env.scope.names.lookup y = some .free) → X.env.cells.lookup y = some c → ∃ u, RelV v u ∧ h.IsCell c (some u)
theorem cells_of {X : Cx} {own : List Str} {σ0 σ : L2.St} {pins : List (Addr × Obj)} {H : Hp} {s : Shared} (I : Inv X pins σ0 H s) (hs : ∀ (i : Nat) y, X.N[i]? = some y → y ∉ own → ∀ v, σ[i]? = some (some v) → σ0[i]? = some (some v)) : CellsAt X own σ H s.heap := by
  refine ⟨I.cell, I.freeC, fun i y v c h1 h2 h3 h4 h5 => ?_⟩
  obtain ⟨m, hn, hl⟩ := I.loc
  obtain ⟨u, r, q⟩ := hl i y v h1 (hs i y h1 h3 v h2) (h4.elim (fun k => .inr (.inl k)) fun k => .inr (.inr k))
  rcases q with ⟨k, _⟩ | ⟨_, c2, e2, z⟩
  · have k : X.env.scope.names.lookup y = some .local := k
    rcases h4 with z | z <;> rw [k] at z <;> cases z
  · rw [h5] at e2
    cases e2
    exact ⟨u, r, z⟩
theorem CellsAt.un {X : Cx} {own : List Str} {σ : L2.St} {H H' : Hp} {h h' : Heap} {fs ex : List Addr} (C : CellsAt X own σ H h) (u : Un fs ex H H' h h') (hx : ∀ y c, X.env.cells.lookup y = some c → c ∉ ex) : CellsAt X own σ H' h' := by
  have key : ∀ y c w, X.env.cells.lookup y = some c → h.IsCell c w → h'.IsCell c w := fun y c w e ⟨o, ho, hd⟩ => by
    obtain ⟨sl, q⟩ := u.any ho (C.free y c e) (hx y c e)
    exact ⟨_, q, hd⟩
  refine ⟨fun y c e => ?_, fun y c e => ?_, fun i y v c h1 h2 h3 h4 h5 => ?_⟩
  · obtain ⟨w, z⟩ := C.cell y c e
    exact ⟨w, key y c w e z⟩
  · obtain ⟨w, o, ho, _⟩ := C.cell y c e
    exact u.free c o ho (C.free y c e) (hx y c e)
  · obtain ⟨w, r, z⟩ := C.val i y v c h1 h2 h3 h4 h5
    exact ⟨w, r, key y c _ h5 z⟩
section
variable {X : Cx} {own : List Str} {σ : L2.St} {HZ : Hp} {s1 : Shared}
theorem lf_start {A : Around} {outer : List Env} {E : XK} {scope : Scope} {f c' : Addr} {h₁ : Heap} {tk : Nat} {binds : List (Str × Value)} (ok : X.Ok) (hl : σ.length = X.N.length) (L : LfS X.N own X.env.scope scope) (C : CellsAt X own σ HZ s1.heap)
    (e0 : Env0 X.prog X.w X.K X.mg X.base A outer s1 HZ) (hd : A.handled = none) (hns : h₁.Ns s1.heap.objs.size fun y => binds.reverse.lookup y) (kp : ∀ b o, s1.heap.get? b = some o → h₁.get? b = some o) :
    Inv (LamX.lamCx X A outer s1 HZ E scope f c') [] σ HZ { s1 with heap := h₁, toks := tk } := by
  have has : ∀ y ∈ scope.names, y.2 = .free → ∃ c, X.env.cells.lookup y.1 = some c := fun y hy e => ok.has _ (L.free y hy e).2
  have back : ∀ {y c}, (cloFrom X.env.cells scope.names []).lookup y = some c → X.env.cells.lookup y = some c := fun {y c} e => by
    rcases cloFrom_mem (PySem.mem_of_lookup e) with z | ⟨z, ec⟩
    · cases z
    · obtain ⟨c1, h1⟩ := has _ z rfl
      have h1 : X.env.cells.lookup y = some c1 := h1
      rw [ec, h1]
      rfl
  have there : ∀ {y}, scope.names.lookup y = some .free → ∃ c, (cloFrom X.env.cells scope.names []).lookup y = some c := fun {y} e => mem_lookup (cloFrom_has (cells := X.env.cells) (acc := []) (show (y, NameKind.free) ∈ scope.names from PySem.mem_of_lookup e))
  have cellH : ∀ {c : Addr} {w : Option Value}, s1.heap.IsCell c w → h₁.IsCell c w := fun ⟨o, ho, hd⟩ => ⟨o, kp _ _ ho, hd⟩
  have noX : ∀ b : Addr, b ∉ (LamX.lamCx X A outer s1 HZ E scope f c').ex := fun b z => nomatch (show b ∈ ([] : List Addr) from z)
  have okL : (LamX.lamCx X A outer s1 HZ E scope f c').Ok := by
    constructor
    case mod => exact e0.mod
    case kind => exact L.kind
    case glob => rfl
    case blt => rfl
    case above => exact Nat.le_refl _
    case inj => exact fun y z c a b => ok.inj y z c (back a) (back b)
    case has =>
      intro y hy
      have hy : scope.names.lookup y = some .cell ∨ scope.names.lookup y = some .free := hy
      rcases hy with hy | hy
      · exact absurd rfl (L.cell _ (PySem.mem_of_lookup hy))
      · exact there hy
    case cab => exact fun y c z => nomatch (show false = true from z)
    case hd => exact fun _ => hd
    case frames => exact Around.frames_deeper e0.frames
    case stk => exact .inr ⟨rfl, rfl⟩
    case exf => exact fun b z => absurd z (noX b)
    case bs => exact e0.bs
    case bsz => exact e0.bsz
    case noex => exact fun b _ _ => noX b
    case exfs => exact fun b z => absurd z (noX b)
    case funs => exact e0.funs
    case frf => exact e0.frf
  constructor
  case ok => exact okL
  case os => rfl
  case bare => exact e0.bare
  case base => exact Un.kept kp
  case loc =>
    refine ⟨_, hns, fun i y v a b hv => ?_⟩
    have hv : Vis scope y := hv
    rcases hv with k | k | k
    · exact absurd (List.mem_of_getElem? a) (L.loc _ (PySem.mem_of_lookup k) rfl)
    · exact absurd rfl (L.cell _ (PySem.mem_of_lookup k))
    · obtain ⟨c, e⟩ := there k
      obtain ⟨n1, n2⟩ := L.free _ (PySem.mem_of_lookup k) rfl
      obtain ⟨u, r, z⟩ := C.val i y v c a b n1 n2 (back e)
      exact ⟨u, r, .inr ⟨.inr k, c, e, cellH z⟩⟩
  case cell =>
    intro y c e
    obtain ⟨w, z⟩ := C.cell y c (back e)
    exact ⟨w, cellH z⟩
  case free => exact e0.hok.fresh (Nat.le_refl _)
  case freeC => exact fun y c e => C.free y c (back e)
  case pin => exact fun q hq => nomatch (show q ∈ ([] : List (Addr × Obj)) ++ [] from hq)
  case hok => exact e0.hok.kept kp
  case len => exact hl
end
/-- the parameters of a lambda: none, or one with a default -/
def Dflt (params : Arguments) (d : Option Int) : Prop := params.posonlyargs = [] ∧ params.vararg = none ∧ params.kwonlyargs = [] ∧ params.kwarg = none ∧ match d with | none => params.args = [] | some _ => ∃ ar, params.args = [ar]
/-- where the default stands -/
def DfltAt (H : Hp) (d : Option Int) (dV : Value) : Prop := match d with | none => dV = .none | some i => ∃ d0 : Addr, dV = .ref d0 ∧ H d0 = some (.tup [.int i])
theorem bind_d {P : Program} {w : World} {A : Around} {E : Value → Shared → Prop} {s : Shared} {H : Hp} {fd : FuncData} {d : Option Int} {Q : List (Str × Value) → Shared → Prop} (hp : Dflt fd.params d) (hd : DfltAt H d fd.defaults) (ok : HOk P w H s.heap)
    (h : ∀ binds, (∀ y ∈ binds, ∃ ar ∈ fd.params.args, y.1 = ar.arg) → Q binds s) : wpAny (model P w) A (bindArgs fd ⟨[], []⟩) Q E s := by
  obtain ⟨p1, p2, p3, p4, p5⟩ := hp
  cases d with
  | none =>
    have hd : fd.defaults = .none := hd
    have p5 : fd.params.args = [] := p5
    unfold bindArgs
    simp only [p1, p2, p3, p4, p5, hd]
    refine wpAny_bind (wpAny_pure ?_)
    exact wpAny_pure (h [] fun _ z => nomatch z)
  | some i =>
    obtain ⟨d0, hd, ht⟩ := hd
    obtain ⟨ar, p5⟩ := p5
    obtain ⟨_, its, rv, o, ho, hc, n, hdat⟩ := ok d0 _ ht
    cases rv with
    | @cons _ u _ _ r1 r2 =>
      cases r2
      unfold bindArgs
      simp only [p1, p2, p3, p4, p5, hd]
      refine wpAny_bind (wpAny_pure ?_)
      refine wpAny_bind (wpAny_seqItems ho hdat ?_)
      simp only [Option.getD_some, List.map_nil, List.map_cons, List.nil_append, List.length_cons, List.length_nil, List.drop_zero, Nat.sub_self, List.take_zero, List.filter_nil, List.isEmpty_nil, List.zip_cons_cons, List.zip_nil_right, List.zip_nil_left, List.forIn_cons, List.forIn_nil, pure_bind, List.lookup_nil, Option.isNone_none, Option.isNone_some, if_true, Bool.not_true, Bool.false_eq_true, if_false, List.append_nil, gt_iff_lt]
      rw [if_neg (by decide)]
      refine wpAny_pure (h _ fun y hy => ⟨ar, by rw [p5]; exact List.mem_cons_self, ?_⟩)
      obtain ⟨n, hn, e⟩ := List.mem_filterMap.mp hy
      obtain ⟨v, _, e⟩ := Option.map_eq_some_iff.mp e
      rw [← e]
      exact List.mem_singleton.mp hn
section
variable {X : Cx} {own : List Str} {σ : L2.St} {H : Hp} {s : Shared}
/-- x(), in the def that got the lambda -/
theorem lf_act {CXg : CXT} {Eg : XK} {Ng : List Str} {qg : Str} {sg : Scope} {g f c' : Addr} {cdg dV : Value} {params : Arguments} {body : Expr} {scope : Scope} {k i : Nat} {a : Str} {pn : List (Addr × Obj)} {xe : Value → Shared → Prop} {W : WX} {E : XK} {tb : TE} {p1 p2 : Pos} {d : Option Int}
    (ok : X.Ok) (hl : σ.length = X.N.length) (L : LfS X.N own X.env.scope scope) (C : CellsAt X own σ H s.heap) (hp : Dflt params d) (hpl : ∀ ar ∈ params.args, scope.names.lookup ar.arg = some .local)
    (tk : Takes ((cxOf CXg X.prog X.w X.K X.mg X.base Ng qg sg g cdg X.A X.stack s H Eg).tr pn xe) W) (hW : ∀ cls d σ' H', E cls d H' → W cls d σ' H') (hr : Room (k + 1) (X.A.deeper (envOfC qg sg s.heap.objs.size g cdg)))
    (hbody : ∀ (A : Around) (outer : List Env) (s : Shared) (H : Hp), Room k (A.deeper (LamX.lamEnv X scope s.heap.objs.size f c')) → PE (LamX.lamCx X A outer s H E scope f c') body tb)
    (hN : Ng[i]? = some a) (hv : Vis sg a) (hd : (a == ("__debug__" : Str)) = false := by decide) (hcd : (a == ("__classdict__" : Str)) = false := by decide) :
    PE ((cxOf CXg X.prog X.w X.K X.mg X.base Ng qg sg g cdg X.A X.stack s H Eg).tr pn xe) (.Call (.Name a p1) [] [] p2)
      (fun σZ HZ Q => σZ[i]? = some (some (.ref f)) ∧ HZ c' = some (LamX.CodeO c' (X.env.qual ++ "<lambda>")) ∧ HZ f = some (FunO f c' (X.env.qual ++ "<lambda>") params body scope (cloFrom X.env.cells scope.names []) dV) ∧ DfltAt HZ d dV ∧ tb σ HZ Q) := by
  constructor
  intro pinsZ sZ σZ HZ Q IZ ⟨h1, h2, h3, h4, h5⟩
  refine wpAny_Call_Name_kw (thn ((pe_var (pos := p1) (i := i) hN hv hd hcd).run pinsZ sZ σZ HZ (fun v H1 => v = .ref f ∧ H1 = HZ) IZ ⟨.ref f, h1, rfl, rfl⟩) fun u s1 hx => ?_)
  obtain ⟨v, H1, I1, ru, rfl, rfl⟩ := hx
  obtain rfl : u = Value.ref f := ru
  obtain ⟨⟨pm, ct, of1⟩, _, _⟩ := I1.hok f _ h3
  refine PySem.W.callWith_F0 ⟨_, _, _, _, of1⟩ ?_
  obtain ⟨⟨oc, vs, t, hoc, hdc, hvc⟩, _, _⟩ := I1.hok c' _ h2
  have un : Un (frs X.stack) [] H H1 s.heap s1.heap := I1.base
  have C1 : CellsAt X own σ H1 s1.heap := C.un un fun _ _ _ z => nomatch z
  have rc : codeAny (model X.prog X.w) (X.A.deeper (envOfC qg sg s.heap.objs.size g cdg)) (.call (.ref f) ⟨[], []⟩) (CR (L2.CX X.prog X.w) (envOfC qg sg s.heap.objs.size g cdg :: X.stack) X.prog X.w H1 s1 Q E) s1 := by
    refine PySem.W.kla_callFunE hr.depth of1 rfl L.co L.gen rfl ⟨c', oc, vs, t, rfl, hoc, hdc, hvc⟩ ?_
    refine bind_d (d := d) hp h4 I1.hok fun binds hb => ?_
    refine wpAny_newFunctionEnv (fun y hy => L.cell y hy) (fun y hy => ?_) (fun h₁ hns hsb => ⟨I1.nolimit.fresh _ hsb, ?_⟩) L.kind
    · obtain ⟨ar, har, e⟩ := hb y hy
      rw [e]
      exact hpl ar har
    · show codeAny _ _ (.expr body (LamX.lamEnv X scope s1.heap.objs.size f c')) _ _
      have kp : ∀ b o, s1.heap.get? b = some o → h₁.get? b = some o := fun b o e => hsb.extBut b o (Nat.ne_of_lt (Heap.lt_size e)) (Heap.get?_push_of_some _ e)
      have J : Inv (LamX.lamCx X (X.A.deeper (envOfC qg sg s.heap.objs.size g cdg)) (envOfC qg sg s.heap.objs.size g cdg :: X.stack) s1 H1 E scope f c') [] σ H1 { s1 with heap := h₁, toks := s1.toks + binds.length } := lf_start ok hl L C1 I1.env0 hr.hd hns kp
      refine PySem.W.kla_codeExpr (wpAny_mono ((hbody _ _ s1 H1 (hr.deeper _)).run [] _ _ H1 Q J h5) (fun v s' hq => ?_) fun e s' hq => hq)
      obtain ⟨w', H', J', rv, q⟩ := hq
      exact ⟨w', H', J'.os, J'.bare, J'.base, J'.hok, rv, q⟩
  have hx : Passes (L2.CX X.prog X.w) ((cxOf CXg X.prog X.w X.K X.mg X.base Ng qg sg g cdg X.A X.stack s H Eg).tr pn xe) E := passes_call tk hW
  refine wpAny_call (codeAny_mono rc fun r s' hq => ?_)
  cases r with
  | error e => exact hx pinsZ σZ H1 s1 e s' I1 hq
  | ok fl =>
    cases fl with
    | ret u => exact I1.after hq
    | next => exact hq.elim
    | brk => exact hq.elim
    | cont => exact hq.elim
end
end XD

/-! XE20: a list comprehension whose element sees what holds of the frame around; [why(x) for x in lambdas]. -/
namespace XD
open PySem PySem.Spec PyProof.Rows L2 XX
section
variable {X : Cx}
/-- the element's reading, within the block that started at s of the frame X -/
def PEI (X : Cx) (vs : List Nat) (scope : Scope) (elt : Expr) (te : TE) : Prop :=
  ∀ (pins0 : List (Addr × Obj)) (σ0 : L2.St) (H0 : Hp) (s0 : Shared) (ce : Env) (fp : List Addr), Inv X pins0 σ0 H0 s0 → (∀ b ∈ fp, FpOk X pins0 H0 b) → (∃ C cl, ce = compEnvC scope cl C X.env) →
    ∀ (pins : List (Addr × Obj)) (s : Shared) (σ : L2.St) (H : Hp) (Q : VK), Inv (X.blk s0 H0 scope ce fp) pins σ H s → wipe σ vs = wipe σ0 vs → te σ H Q → wpAny (model X.prog X.w) X.A (eval elt ce) (EP (X.blk s0 H0 scope ce fp) pins σ Q) (fun _ _ => False) s
theorem pe_lcI {elt tg iter : Expr} {scope : Scope} {own : List (Str × Nat)} {pos : Pos} {wi : TI} {g : TG} {te : TE} (hc : X.calm = true) (hN : X.N.Nodup) (hi : PI X tg iter wi) (ok : BlkOk X.N X.env.scope scope own)
    (hg : ∀ (s : Shared) (H : Hp) (C : Addr) (cl : List (Str × Addr)) (fp : List Addr), PG (X.blk s H scope (compEnvC scope cl C X.env) fp) tg g) (he : PEI X (own.map (·.2)) scope elt te)
    (hs : ∀ x, foldedSetIterable iter X.env x = pure x := by intro _; rfl) : PE X (.ListComp elt [⟨tg, iter, [], 0⟩] scope pos) (tLc wi g tYes te (own.map (·.2))) := by
  generalize hvs : own.map (·.2) = vs at *
  constructor
  intro pins s σ H Q I h
  have hfree : ∀ y ∈ scope.names, y.2 = .free → ∃ c, X.env.cells.lookup y.1 = some c := fun y hy e => I.ok.has _ (ok.free y hy e)
  rw [eval_ListComp]
  refine wpAny_comprehension_free (use := none) rfl hs (closure_ok hfree) ok.kind (fun y hy e => by rw [ok.uniq y hy, e]) (thn (hi.run pins s σ H _ I h) fun xv s1 hx => thn hx fun itv s2 h2 => ?_)
  obtain ⟨it, fp, tn, J, H2, rfl, I2, T, st2, f2, q⟩ := h2
  refine wpAny_newObj_type (newEnv_comp ?_) (Nat.zero_le _)
  have hDn : H2 s2.heap.objs.size = none := I2.hok.fresh (Nat.le_refl _)
  obtain ⟨W, ⟨m0, w0⟩, turn⟩ := q _ hDn
  generalize hD : s2.heap.objs.size = D at hDn w0 turn ⊢
  generalize hH3 : upd H2 D (.lst []) = H3 at w0
  generalize hs3 : ({ s2 with heap := s2.heap.push { cls := .type "list", data := .seq ([] : List Value).toArray } } : Shared) = s3
  have e3 : s3.heap = s2.heap.push { cls := .type "list", data := .seq ([] : List Value).toArray } := by rw [← hs3]
  have I3 : Inv X pins σ H3 s3 := by
    subst hH3 hs3 hD
    exact I2.laid (t' := s2.toks) (fun b o e => Heap.get?_push_of_some _ e) (Nat.le_refl _) ⟨Nat.zero_le _, [], 0, .nil, Heap.get?_push_size _ rfl⟩
  have f3 : ∀ b ∈ fp, FpOk X pins H3 b ∧ b < s3.heap.objs.size := fun b hb => by
    obtain ⟨o, e, _⟩ := T.obj _ _ st2 b hb
    have hlt : b < s2.heap.objs.size := Heap.lt_size e
    refine ⟨⟨?_, (f2 b hb).2⟩, by rw [e3, Heap.size_push]; exact Nat.lt_succ_of_lt hlt⟩
    rw [← hH3, upd_ne (hD ▸ Nat.ne_of_lt hlt)]
    exact (f2 b hb).1
  have st3 : tn 0 s3.heap := T.keep _ _ _ st2 fun b _ o e => by
    rw [e3]
    exact Heap.get?_push_of_some _ e
  have I4 := block_start I3 ok hN f3
  generalize hcl : cellsFrom (s3.heap.objs.size + 1) scope.names (cloFrom X.env.cells scope.names []) = cl at I4
  show codeAny _ _ (.compStart (.ListComp elt [⟨tg, iter, [], 0⟩] scope pos) 0 (.ref it) (.ref D) (compEnvC scope cl s3.heap.objs.size X.env)) (compPost (model X.prog X.w) X.A X.xe none _ (.ref D) s3.heap.objs.size) { s3 with heap := pushCells (s3.heap.push { cls := .type "dict", data := .dict #[] }) scope.names }
  have pg := hg s3 H3 s3.heap.objs.size cl fp
  have pe := he pins σ H3 s3 (compEnvC scope cl s3.heap.objs.size X.env) fp I3 (fun b hb => (f3 b hb).1) ⟨_, _, rfl⟩
  have nfp : ∀ b ∈ fp, H3 b = none := fun b hb => (f3 b hb).1.1
  generalize hs4 : ({ s3 with heap := pushCells (s3.heap.push { cls := .type "dict", data := .dict #[] }) scope.names } : Shared) = s4 at I4 ⊢
  have st4 : tn 0 s4.heap := T.keep _ _ _ st3 fun b _ o e => by
    rw [← hs4]
    exact pushCells_keeps _ _ _ _ (Heap.get?_push_of_some _ e)
  generalize hce : compEnvC scope cl s3.heap.objs.size X.env = ce at I4 pg pe ⊢
  have cL : ce.locals = s3.heap.objs.size := by rw [← hce]; rfl
  rw [hvs] at I4
  have fpB : ∀ {σ' : L2.St} {H' : Hp} {s' : Shared}, Inv (X.blk s3 H3 scope ce fp) [] σ' H' s' → (∀ b ∈ fp, H' b = none) → ∀ b ∈ fp, FpOk (X.blk s3 H3 scope ce fp) [] H' b := fun I' hn b hb =>
    ⟨hn b hb, (I'.ok.exf b hb).1, I'.ok.exfs b hb, .inl hb, (I'.ok.exf b hb).2, fun p hp => nomatch (show p ∈ ([] : List (Addr × Obj)) ++ [] from hp)⟩
  let Bk := X.blk s3 H3 scope ce fp
  have loop : codeAny (model X.prog X.w) X.A (.compLoop (.ListComp elt [⟨tg, iter, [], 0⟩] scope pos) 0 (.ref it) (.ref D) ce) (compPost (model X.prog X.w) X.A X.xe none (EP X pins σ Q) (.ref D) s3.heap.objs.size) s4 := by
    refine compLoop_any (fun n s' => ∃ (i : Nat) (H' : Hp), Inv Bk [] (wipe σ vs) H' s' ∧ tn i s'.heap ∧ (∀ b ∈ fp, H' b = none) ∧ W i n H') (fun n s5 hI => ?_) m0 ⟨0, H3, I4, st4, nfp, w0⟩
    obtain ⟨i, H5, I5, st5, n5, w5⟩ := hI
    rcases turn i n H5 w5 with ⟨stop, qq⟩ | ⟨go, Nx, hNx, step⟩
    · refine thnF (T.done Bk rfl rfl rfl hc i [] s5 _ H5 (fun _ _ => False) I5 (fpB I5 n5) st5 stop) fun r s6 hr => ?_
      obtain ⟨rfl, I6⟩ := hr
      have I7 : Inv X pins σ H5 s6 := I3.call' (ch := fp) I6.os I6.base I6.hok I6.bare fun b hb => let z := (f3 b hb).1.2; ⟨z.2.2.1, z.1, z.2.2.2.1, z.2.2.2.2⟩
      have nC : H5 s3.heap.objs.size = none := cL ▸ I6.free
      obtain ⟨m, hn, _⟩ := I6.loc
      have hn : s6.heap.Ns ce.locals m := hn
      obtain ⟨a0, a1, a2, a3, a4, a5⟩ := I3.fpOk (Nat.le_refl _) nC
      exact ⟨m, cL ▸ hn, fun h'' sb => ⟨.ref D, H5, I7.turned (t' := s6.toks) (fun b o hb e => (sb.2 b hb).trans e) a0 a1 a3 a4 a5, rfl, qq⟩⟩
    · refine thnF (T.item Bk rfl rfl rfl hc i [] s5 _ H5 (fun _ _ => False) I5 (fpB I5 n5) st5 go) fun r s6 hr => ?_
      obtain ⟨u, rfl, h6⟩ := hr
      refine thnF h6 fun _ s7 h7 => ?_
      obtain ⟨x, H7, I7, r7, y7, st7, n7⟩ := h7
      have P7 := I7.pinned (fpB I7 n7) (T.obj _ _ st7)
      refine thnF (pg.run _ s7 _ H7 x u _ P7 r7 (step x H7 y7)) fun _ s8 h8 => ?_
      obtain ⟨σ8, H8, I8, hw8, q8⟩ := h8
      refine wpAny_tests_nil ?_
      have q8 : te σ8 H8 fun y H4 => ∃ acc, H4 D = some (.lst acc) ∧ acc.length < sizeLine ∧ Nx (upd H4 D (.lst (acc ++ [y]))) := q8
      simp only [if_true]
      refine thnF (pe _ s8 σ8 H8 _ I8 hw8 q8) fun z s10 h10 => ?_
      obtain ⟨y, H10, I10, r10, acc, hD10, hz10, nx⟩ := h10
      refine app_ok (X := Bk) I10 hD10 hz10 r10 fun s11 I11 => ?_
      obtain ⟨m', hm, w'⟩ := hNx _ nx
      have held : ∀ b ∈ fp, ∀ o, s7.heap.get? b = some o → s11.heap.get? b = some o ∧ upd H10 D (.lst (acc ++ [y])) b = none := fun b hb o e =>
        let z := I11.pin (b, o) (List.mem_append_right _ (List.mem_append_right _ (mem_pinsAt hb e)))
        ⟨z.1, z.2.1⟩
      refine ⟨m', hm, i + 1, _, (I11.unpinned (pins := [])).weak (by rw [← hw8, wipe_length]) (fun j v e => ?_), T.keep _ _ _ st7 fun b hb o e => (held b hb o e).1, fun b hb => ?_, w'⟩
      · rw [← hw8] at e
        exact (wipe_some e).1
      · obtain ⟨o, e, _⟩ := T.obj _ _ st7 b hb
        exact (held b hb o e).2
  exact codeAny_compStart_list loop (T.self X.A 0 _ _ _ st4 loop)
end
end XD

/-! XE21: [_law_why(x) for x in lambdas]. -/
namespace XD
open PySem PySem.Spec PyProof.Rows L2 XX
/-- a lambda of the law: its text, its default, its body's reading -/
structure LamI where
  params : Arguments
  body : Expr
  scope : Scope
  d : Option Int
  t : XK → TE
section
variable {X : Cx}
def tWhyV (K : PySem.W.Frag) (cl : Clauses) (cells : List (Str × Addr)) (L : List LamI) (j : Nat) : TE := fun σ H Q => ∃ (f c' : Addr) (l : LamI) (dV : Value), l ∈ L ∧ σ[j]? = some (some (.ref f)) ∧ H f = some (FunO f c' lamQ l.params l.body l.scope (cloFrom cells l.scope.names []) dV) ∧ H c' = some (LamX.CodeO c' lamQ) ∧ DfltAt H l.d dV ∧
  TTwhy K cl (fun E H' Q' => H' f = some (FunO f c' lamQ l.params l.body l.scope (cloFrom cells l.scope.names []) dV) ∧ DfltAt H' l.d dV ∧ l.t E σ H' Q') H Q
/-- what is seen of a lambda's text -/
structure LamOk (X : Cx) (own : List Str) (k : Nat) (l : LamI) : Prop where
  sc : LfS X.N own X.env.scope l.scope
  df : Dflt l.params l.d
  pl : ∀ ar ∈ l.params.args, l.scope.names.lookup ar.arg = some .local
  body : ∀ (A : Around) (outer : List Env) (s : Shared) (H : Hp) (E : XK) (f c' : Addr), Room k (A.deeper (LamX.lamEnv X l.scope s.heap.objs.size f c')) → PE (LamX.lamCx X A outer s H E l.scope f c') l.body (l.t E)
theorem pei_why {K : PySem.W.Frag} {mg : Str → Option Value} {a x : Str} {k j : Nat} {st : Stmt} {Ng : List Str} {scope : Scope} {own : List (Str × Nat)} {cl : Clauses} {L : List LamI} {p p2 pos : Pos} (T : FT K mg "_law_why" "_law_why" st [a]) (Sg : FnScope Ng [a] (defScope st)) (hNg : Ng[0]? = some a)
    (hG : ∀ (X : Cx) (g : Addr) (cdg : Value), X.K = K → X.mg = mg → LamX.GivesTo X Ng "_law_why" (defScope st) g cdg (defBody st) a lamQ (TTwhy K cl)) (hr : Room (k + 2) X.A) (ok : BlkOk X.N X.env.scope scope own)
    (hx : ∀ (s : Shared) (H : Hp) (C : Addr) (cl : List (Str × Addr)) (fp : List Addr), PE (X.blk s H scope (compEnvC scope cl C X.env) fp) (.Name x p2) (tVar j)) (hg : ∀ (s : Shared) (H : Hp) (C : Addr) (cl : List (Str × Addr)) (fp : List Addr), Gl (X.blk s H scope (compEnvC scope cl C X.env) fp) "_law_why")
    (hL : ∀ l ∈ L, LamOk X (own.map (·.1)) k l) (hq : X.env.qual = ("law" : Str) ++ ".<locals>." := by rfl) (h : X.K = K := by rfl) (hmg : X.mg = mg := by rfl) (hd : (a == ("__debug__" : Str)) = false := by decide) (hcd : (a == ("__classdict__" : Str)) = false := by decide) :
    PEI X (own.map (·.2)) scope (.Call (.Name "_law_why" p) [.Name x p2] [] pos) (tWhyV K cl X.env.cells L j) := by
  obtain ⟨g, fd, F, m1, m2⟩ := T.ex
  obtain ⟨oc, od, kV, doc, pm, an, cdv, ct, osl, rfl, lk, hcg⟩ := F.ex
  have kp := F.kp
  subst h
  subst hmg
  have hQ : X.env.qual ++ "<lambda>" = lamQ := by rw [hq]
  rintro pins0 σ0 H0 s0 ce fp I0 hfp ⟨C, cl0, rfl⟩ pins s σ H Q I hw ⟨f, c', l, dV, hl, h1, h2, h3, h4, h5⟩
  have G0 := hG (X.blk s0 H0 scope (compEnvC scope cl0 C X.env) fp) g cdv rfl rfl
  have O := hL l hl
  have hva : Vis (defScope st) a := (Sg.par a (by simp)).imp id .inl
  refine wpAny_Call_Name_kw (ld_glob I (hg s0 H0 C cl0 fp) m1 ?_ (by decide))
  refine PySem.W.callWith_K (h₀ := X.base) I.ok.mod.kin kp ?_ (by rfl) (by rfl)
  show wpAny _ _ (spliced ((false, eval (.Name x p2) (compEnvC scope cl0 C X.env)) :: backTo pos (starEach [] (compEnvC scope cl0 C X.env)))) _ _ s
  refine Calls.spliced_cons (thn ((hx s0 H0 C cl0 fp).run pins s σ H (fun v H1 => v = .ref f ∧ H1 = H) I ⟨.ref f, h1, rfl, rfl⟩) fun u s1 hu => ?_)
  obtain ⟨v, H1, I1, ru, rfl, rfl⟩ := hu
  obtain rfl : u = Value.ref f := ru
  refine Calls.spliced_nil ⟨I1.kIn, ?_⟩
  have un : Un (frs X.stack) fp H0 H1 s0.heap s1.heap := I1.base
  have key : ∀ (i : Nat) y, X.N[i]? = some y → y ∉ own.map (·.1) → ∀ v, σ[i]? = some (some v) → σ0[i]? = some (some v) := fun i y e ny v ev => by
    have hi : i ∉ own.map (·.2) := fun z => by
      obtain ⟨p, hp, e2⟩ := List.mem_map.mp z
      have := ok.ix p hp
      rw [e2, e] at this
      exact ny (Option.some.inj this ▸ List.mem_map_of_mem (f := (·.1)) hp)
    have a1 := wipe_get (own.map (·.2)) σ i
    have a2 := wipe_get (own.map (·.2)) σ0 i
    rw [if_neg (fun z => hi z.1)] at a1 a2
    rw [← a2, ← hw, a1]
    exact ev
  have C1 : CellsAt X (own.map (·.1)) σ H1 s1.heap := (cells_of I0 key).un un fun y c e z => (hfp c z).2.2.2.2.1 y c e rfl
  have rc : codeAny (model X.prog X.w) X.A (.call (.ref g) ⟨[.ref f], []⟩) (CR C8.CX0 X.stack X.prog X.w H1 s1 Q C8.E0) s1 := by
    refine LamX.run_ofS (N := Ng) (ps := [a]) (us := [.ref f]) (vs := [.ref f]) lk hcg Sg hr I1.env0 (m2 s1 [.ref f] I1.kIn rfl) (.cons rfl .nil) rfl fun hr' => ?_
    obtain ⟨t', ht', hq'⟩ := G0 f c' s1 H1 Q (fun E H' Q' => H' f = some (FunO f c' lamQ l.params l.body l.scope (cloFrom X.env.cells l.scope.names []) dV) ∧ DfltAt H' l.d dV ∧ l.t E σ H' Q') (fun W pn xe E p1 p3 tk hW => by
      have act := lf_act (X := X) (a := a) (p1 := p1) (p2 := p3) (pn := pn) (xe := xe) (E := E) (f := f) (c' := c') (dV := dV) (tb := l.t E) (i := 0) I0.ok I1.len O.sc C1 O.df O.pl tk hW hr' (fun A outer s H hr2 => O.body A outer s H E f c' hr2) hNg hva hd hcd
      rw [hQ] at act
      exact act) h3 h5
    exact ⟨t', ht'.nox, hq'⟩
  refine wpAny_call (codeAny_mono rc fun r s2 hr2 => ?_)
  cases r with
  | error e => exact (show False from hr2).elim
  | ok fl =>
    cases fl with
    | ret u => exact I1.after hr2
    | next => exact hr2.elim
    | brk => exact hr2.elim
    | cont => exact hr2.elim
end
/-! ### over the layer -/
/-- what stands of a lambda -/
def fnD (cells : List (Str × Addr)) (params : Arguments) (body : Expr) (scope : Scope) (d : Option Int) (f c' : Addr) : Option Addr → D
  | none => .fn f [(f, FunO f c' lamQ params body scope (cloFrom cells scope.names []) .none), (c', LamX.CodeO c' lamQ)]
  | some d0 => .fn f [(f, FunO f c' lamQ params body scope (cloFrom cells scope.names []) (.ref d0)), (c', LamX.CodeO c' lamQ), (d0, .tup [.int (d.getD 0)])]
section
variable {K : PySem.W.Frag} [Bs K] {ρ : Rho} {M : Mm} {R : RD} {P : Addr}
theorem fun_nd {f c' : Addr} {q : Str} {params : Arguments} {body : Expr} {scope : Scope} {cl : List (Str × Addr)} {dV : Value} : ¬ DictO (FunO f c' q params body scope cl dV) := fun z => z
theorem code_nd {c' : Addr} {q : Str} : ¬ DictO (LamX.CodeO c' q) := fun z => z
theorem tab_of {G H : Hp} (w : Wd K G M H) {q : Str} (hm : Has M P (.tab q)) : LamX.Tabs [(P, q)] H := fun p hp => by
  cases List.mem_singleton.mp hp
  obtain ⟨ps, h1, h2, h3⟩ := w.get hm
  exact ⟨ps, h1, h2, fun pos cv z => let ⟨c, e1, e2⟩ := h3 pos cv z; ⟨c, e1, w.at' e2 code_nd⟩⟩
theorem xe_fn0 {cells : List (Str × Addr)} {params : Arguments} {body : Expr} {scope : Scope} (hm : Has M P (.tab lamQ)) (ho : ∀ p ∈ M, ∀ q', p.2 = .tab q' → p = (P, .tab lamQ)) (h : ∀ f c', R (fnD cells params body scope none f c' none) M) : Xe K (tFn0 [(P, lamQ)] lamQ params body scope (cloFrom cells scope.names [])) ρ M R := by
  intro σ G H Q s w k
  refine ⟨tab_of w hm, fun f c' Hc hf eN T1 hco => ?_⟩
  obtain ⟨G1, e1, w1, hC⟩ := wd_lamC w ho eN T1
  have w2 := w1.new (o := FunO f c' lamQ params body scope (cloFrom cells scope.names []) .none) hf (by intro ps z; unfold FunO at z; cases z)
  have e2 := Ex.new (o := FunO f c' lamQ params body scope (cloFrom cells scope.names []) .none) (w1.gfree hf)
  refine k (.ref f) _ _ M _ (e1.trans e2) (.fn fun p hp => ?_) w2 (h f c')
  rcases List.mem_cons.mp hp with z | hp
  · rw [z]; exact ⟨upd_same, fun_nd⟩
  · rw [List.mem_singleton.mp hp]; exact ⟨e2 _ _ (hC _ _ hco), code_nd⟩
theorem xe_fn1 {cells : List (Str × Addr)} {params : Arguments} {body : Expr} {scope : Scope} {i : Int} (hm : Has M P (.tab lamQ)) (ho : ∀ p ∈ M, ∀ q', p.2 = .tab q' → p = (P, .tab lamQ)) (h : ∀ f c' d0, R (fnD cells params body scope (some i) f c' (some d0)) M) : Xe K (tFn1 [(P, lamQ)] lamQ params body scope (cloFrom cells scope.names []) i) ρ M R := by
  intro σ G H Q s w k
  refine ⟨tab_of w hm, fun d0 hd0 f c' Hc hf eN T1 hco => ?_⟩
  have w0 := w.new (o := .tup [.int i]) hd0
  obtain ⟨G1, e1, w1, hC⟩ := wd_lamC w0 ho eN T1
  have w2 := w1.new (o := FunO f c' lamQ params body scope (cloFrom cells scope.names []) (.ref d0)) hf (by intro ps z; unfold FunO at z; cases z)
  have e2 := Ex.new (o := FunO f c' lamQ params body scope (cloFrom cells scope.names []) (.ref d0)) (w1.gfree hf)
  refine k (.ref f) _ _ M _ (((Ex.new (w.gfree hd0)).trans e1).trans e2) (.fn fun p hp => ?_) w2 (h f c' d0)
  rcases List.mem_cons.mp hp with z | hp
  · rw [z]; exact ⟨upd_same, fun_nd⟩
  · rcases List.mem_cons.mp hp with z | hp
    · rw [z]; exact ⟨e2 _ _ (hC _ _ hco), code_nd⟩
    · rw [List.mem_singleton.mp hp]
      exact ⟨e2 _ _ (e1 _ _ upd_same), fun z => z⟩
theorem xe_whyV {cl : Clauses} {cells : List (Str × Addr)} {L : List LamI} {j : Nat} {l : LamI} {f c' : Addr} {o : Option Addr} (hl : l ∈ L) (hd : l.d.isSome = o.isSome) (hj : ρ[j]? = some (some (fnD cells l.params l.body l.scope l.d f c' o)))
    (h : ∀ (b : Bs K) (E : XK), @EKo K b E (WhyD K cl R) → @Xe K b (l.t E) ρ M fun _ M1 => R (.tup [.str "", .non]) M1) : Xe K (tWhyV K cl cells L j) ρ M R := by
  intro σ G H Q s w k
  obtain ⟨v, hv, rv⟩ := s.at_ j _ hj
  obtain ⟨dV, hGf, hGc, hGd⟩ : ∃ dV : Value, (v = .ref f ∧ G f = some (FunO f c' lamQ l.params l.body l.scope (cloFrom cells l.scope.names []) dV)) ∧ G c' = some (LamX.CodeO c' lamQ) ∧ DfltAt G l.d dV := by
    cases o with
    | none =>
      cases rv with
      | fn r =>
        refine ⟨.none, ⟨rfl, (r _ List.mem_cons_self).1⟩, (r _ (List.mem_cons_of_mem _ List.mem_cons_self)).1, ?_⟩
        cases e : l.d with
        | none => rfl
        | some i => rw [e] at hd; cases hd
    | some d0 =>
      cases rv with
      | fn r =>
        refine ⟨.ref d0, ⟨rfl, (r _ List.mem_cons_self).1⟩, (r _ (List.mem_cons_of_mem _ List.mem_cons_self)).1, ?_⟩
        have z := (r _ (List.mem_cons_of_mem _ (List.mem_cons_of_mem _ List.mem_cons_self))).1
        cases e : l.d with
        | none => rw [e] at hd; cases hd
        | some i => rw [e] at z; exact ⟨d0, rfl, z⟩
  obtain ⟨rfl, hGf⟩ := hGf
  have dfl : ∀ {G' H' : Hp} {M' : Mm}, Ex G G' → Wd0 K G' M' H' → DfltAt H' l.d dV := fun {G' H' M'} e w' => by
    cases e2 : l.d with
    | none => rw [e2] at hGd; exact hGd
    | some i =>
      rw [e2] at hGd
      obtain ⟨d0, h1, h2⟩ := hGd
      exact ⟨d0, h1, @Wd.at' K (bs0 K) _ _ _ w'.wd _ _ (e _ _ h2) fun z => z⟩
  refine ⟨f, c', l, dV, hl, hv, w.at' hGf fun_nd, w.at' hGc code_nd, dfl (Ex.refl _) w.toWd0, fun b hb => ?_⟩
  have w2 := w.new (o := .tup [.str "", .non]) hb
  have e2 : Ex G (upd G b (.tup [.str "", .non])) := Ex.new (w.gfree hb)
  have w20 := w2.toWd0
  refine ⟨w2.at' (e2 _ _ hGf) fun_nd, dfl e2 w20, ?_⟩
  refine @h ⟨upd G b (.tup [.str "", .non])⟩ (WhyE K cl Q) ?_ σ _ _ _ (s.up e2) (@Wd.mk K ⟨_⟩ _ M _ w20 (Ex.refl _)) ?_
  rotate_left
  · intro v d G' M' H' e r w' hq
    obtain ⟨w5, _⟩ := w'
    have e3 := e2.trans e
    exact k (.ref b) (.tup [.str "", .non]) G' M' H' e3 (.tup (e _ _ upd_same) (.cons (.str _) (.cons .non .nil))) ⟨w5, w.bs.trans e3⟩ hq
  · rintro cls dd xs fs G' M' H' e hx r w' ⟨C, tg, v, fo, rfl, T, pk, nt, ht, hf, hq⟩
    have e3 := e2.trans e
    obtain ⟨tv, l1, r1⟩ := r.lookup ht
    have fin : ∀ vv, Rp K G' vv v → ∀ b2, H' b2 = none → Q (.ref b2) (upd H' b2 (.tup [tv, vv])) := fun vv rv b2 hb2 => by
      have w3 : Wd K G' M' H' := ⟨w', w.bs.trans e3⟩
      have e4 := Ex.new (o := .tup [tv, vv]) (w3.gfree hb2)
      exact k _ (.tup [tg, v]) _ M' _ (e3.trans e4) (.tup upd_same (.cons (r1.up e4) (.cons (rv.up e4) .nil))) (w3.new hb2) hq
    cases fo with
    | none =>
      have hf : v = .non := hf
      subst hf
      exact ⟨C, dd, xs, tv, .non, none, rfl, rfl, hx, T, pk, nt, l1, rfl, fin _ .non⟩
    | some f =>
      obtain ⟨vv, l2, r2⟩ := r.lookup hf.2
      exact ⟨C, dd, xs, tv, vv, some f, rfl, rfl, hx, T, pk, nt, l1, ⟨hf.1, l2⟩, fin _ r2⟩
end
end XD

/-! XE22: the law's lambdas, told by their places. -/
namespace XD
open PySem PySem.Spec PyProof.Rows L2 XX
def passS : Stmt := .Pass ⟨0, 0, 0, 0⟩
def subB : Stmt → List Stmt
  | .For _ _ b _ _ => b
  | .If _ b o _ => b ++ o
  | .While _ b _ _ => b
  | _ => []
def stAt : List Stmt → List Nat → Stmt
  | _, [] => passS
  | ss, [i] => ss.getD i passS
  | ss, i :: r => stAt (subB (ss.getD i passS)) r
def lamE (st : Stmt) (k : Nat) : Expr := match st with
  | .Assign _ (.List es _) _ => es.getD k (.Name "" ⟨0, 0, 0, 0⟩)
  | .Expr (.Call _ es _ _) _ => es.getD k (.Name "" ⟨0, 0, 0, 0⟩)
  | _ => .Name "" ⟨0, 0, 0, 0⟩
def lamP (st : Stmt) (k : Nat) : Arguments := match lamE st k with | .Lambda p _ _ _ => p | _ => ⟨[], [], none, [], [], none, []⟩
def lamB (st : Stmt) (k : Nat) : Expr := match lamE st k with | .Lambda _ b _ _ => b | e => e
def lamS (st : Stmt) (k : Nat) : Scope := match lamE st k with | .Lambda _ _ s _ => s | _ => defScope st
section
variable {X : Cx}
def freeB (sc scope : Scope) : Bool := scope.names.all fun y => !decide (y.2 = .free) || decide (sc.names.lookup y.1 = some .cell) || decide (sc.names.lookup y.1 = some .free)
theorem free_of {sc scope : Scope} (h : freeB sc scope = true) : ∀ y ∈ scope.names, y.2 = .free → sc.names.lookup y.1 = some .cell ∨ sc.names.lookup y.1 = some .free := fun y hy e => by
  have := List.all_eq_true.mp h y hy
  simp only [Bool.or_eq_true, Bool.not_eq_true', decide_eq_true_eq, decide_eq_false_iff_not] at this
  rcases this with (z | z) | z
  · exact absurd e z
  · exact .inl z
  · exact .inr z
theorem pe_fn0L {c Pt : Addr} {params : Arguments} {body : Expr} {scope : Scope} {pos : Pos} (TB : LamX.TabB X.base X.mg c Pt) (hcode : X.env.code = .ref c := by rfl) (hq : X.env.qual = ("law" : Str) ++ ".<locals>." := by rfl) (hf : freeB X.env.scope scope = true := by kernel_rfl)
    (hdef : defaultsOf params X.env = ([], []) := by rfl) : PE X (.Lambda params body scope pos) (tFn0 [(Pt, lamQ)] lamQ params body scope (cloFrom X.env.cells scope.names [])) := by
  have hQ : X.env.qual ++ "<lambda>" = lamQ := by rw [hq]
  have := pe_fn0 (T := [(Pt, lamQ)]) (body := body) (pos := pos) TB hcode (by rw [hQ]; exact List.mem_cons_self) (fun p hp _ => by rw [hQ, List.mem_singleton.mp hp]) (free_of hf) hdef
  rw [hQ] at this
  exact this
theorem pe_fn1L {c Pt : Addr} {i : Int} {d : Expr} {params : Arguments} {body : Expr} {scope : Scope} {pos : Pos} (TB : LamX.TabB X.base X.mg c Pt) (hd : PE X d (tC (.int i))) (hcode : X.env.code = .ref c := by rfl) (hq : X.env.qual = ("law" : Str) ++ ".<locals>." := by rfl) (hf : freeB X.env.scope scope = true := by kernel_rfl)
    (hdef : defaultsOf params X.env = ([eval d X.env], []) := by rfl) (hkw : params.kwonlyargs = [] := by rfl) : PE X (.Lambda params body scope pos) (tFn1 [(Pt, lamQ)] lamQ params body scope (cloFrom X.env.cells scope.names []) i) := by
  have hQ : X.env.qual ++ "<lambda>" = lamQ := by rw [hq]
  have := pe_fn1 (T := [(Pt, lamQ)]) (body := body) (pos := pos) TB hcode (by rw [hQ]; exact List.mem_cons_self) (fun p hp _ => by rw [hQ, List.mem_singleton.mp hp]) (free_of hf) hd hdef hkw
  rw [hQ] at this
  exact this
def LamsOk (X : Cx) (own : List Str) (k : Nat) (L : List LamI) : Prop := ∀ l ∈ L, LamOk X own k l
theorem lams_nil {own : List Str} {k : Nat} : LamsOk X own k [] := fun _ h => nomatch h
theorem lams_cons {own : List Str} {k : Nat} {l : LamI} {L : List LamI} (h : LamOk X own k l) (r : LamsOk X own k L) : LamsOk X own k (l :: L) := fun x hx => by
  rcases List.mem_cons.mp hx with z | z
  · rw [z]; exact h
  · exact r x z
theorem lam_ok {own : List Str} {k : Nat} {st : Stmt} {n : Nat} {t : XK → TE} (d : Option Int) (body : ∀ (A : Around) (outer : List Env) (s : Shared) (H : Hp) (E : XK) (f c' : Addr), Room k (A.deeper (LamX.lamEnv X (lamS st n) s.heap.objs.size f c')) → PE (LamX.lamCx X A outer s H E (lamS st n) f c') (lamB st n) (t E))
    (sc : lfSB X.N own X.env.scope (lamS st n) = true := by kernel_rfl) (df : Dflt (lamP st n) d := by exact ⟨rfl, rfl, rfl, rfl, by first | exact rfl | exact ⟨_, rfl⟩⟩)
    (pl : ∀ ar ∈ (lamP st n).args, (lamS st n).names.lookup ar.arg = some .local := by decide +kernel) : LamOk X own k ⟨lamP st n, lamB st n, lamS st n, d, t⟩ := ⟨lfS_by sc, df, pl, body⟩
end
end XD

/-! XE23: a star method without arguments; unpacking a list; own len, own in. -/
namespace XD
open PySem PySem.Spec PyProof.Rows L2 XX
section
variable {X : Cx} {K : PySem.W.Frag} {mg : Str → Option Value} {k : Nat} {x m : Str}
theorem pe_msX0 {S : DX} {E : XK} {o : Expr} {ta : TE} {apos pos : Pos} {pl : Sem Bool} (c : CK K mg x) (Gm : GMxs X.prog X.w K mg X.base k x m S) (hr : Room k X.A) (he : PE X o ta)
    (hx : Passes (L2.CX X.prog X.w) X E := by exact passes_call (takes_of rfl rfl rfl rfl) fun _ _ _ _ h => h) (h : X.K = K := by rfl) (hmg : X.mg = mg := by rfl)
    (ht : eval (.Call (.Attribute o m apos) [] [] pos) X.env = (do let ov ← eval o X.env; standAt apos.atName; let (f, first) ← holding [ov] (getMethod ov m pl); callWith pos f first (backTo pos (starEach [] X.env)) (backToKw pos (keywordEach [] X.env))) := by rfl) :
    PE X (.Call (.Attribute o m apos) [] [] pos) (tMethR (clsA mg x) m (spX K (starX 1 S)) E ta tNil) := by
  subst h
  subst hmg
  obtain ⟨f, h1, h2⟩ := Gm.ex
  refine ⟨fun pins s σ H Q I h => ?_⟩
  refine PySem.W.methodCall_KW (pl := pl) (thn (he.run pins s σ H _ I h) fun u s1 hu => ?_) ht
  obtain ⟨x, H1, I1, rx, a, dx, fs, rfl, ea, l, q⟩ := hu
  obtain rfl : u = Value.ref a := rx
  refine getmeth_ok I1 ea c.cls h2 l ?_
  exact PySem.W.callWith_K0 (first := [.ref a]) I1.kIn h2.kp (wpAny_call (run_fnR (us := [.ref a]) (vs := [.ref a]) h1 hr hx I1 (.cons rfl .nil) q))
theorem pg_unlK (K : PySem.W.Frag) {es : List Expr} {k : Nat} {t : TGs} {n : Nat} {pos : Pos} (h : PGs X es t) (hK : X.K = K := by rfl) (hc : X.calm = true := by rfl)
    (hn : (assignEach es X.env).length = n := by rfl) (hst : (assignEach es X.env).findIdx? (·.1) = none := by rfl) : PG X (.Tuple es k pos) (gUnl K n t) := by
  subst hK
  exact pg_unl hc h hn hst
/-- len of an instance, by its own __len__ -/
def cLenC (C : Addr) (sp : Sp) (E : XK) : List V → Hp → VK → Prop := fun xs H Q => ∃ a dx fs, xs = [V.ref a] ∧ H a = some (.ins C dx fs) ∧ sp [.ref a] H (fun v H' => ∃ n : Int, v = .int n ∧ (0 ≤ n ∧ n < 2 ^ 63) ∧ Q (.int n) H') E
theorem c_lenC {ps : List Str} {S : DX} {E : XK} (G : GMx X.prog X.w K mg X.base k x "__len__" ps S) (hr : Room (k + 1) X.A)
    (hx : Passes (L2.CX X.prog X.w) X E := by exact passes_call (takes_of rfl rfl rfl rfl) fun _ _ _ _ h => h) (h : X.K = K := by rfl) (hmg : X.mg = mg := by rfl) : CallR X (.builtin "len") (cLenC (clsA mg x) (spX K S) E) := by
  subst h
  subst hmg
  obtain ⟨f, h1, h2, h3⟩ := G.fnR
  intro pins s σ H xs us Q I r h
  obtain ⟨a, dx, fs, rfl, ha, h⟩ := h
  cases r with
  | cons r1 r2 =>
    cases r2
    cases r1
    obtain ⟨od, J⟩ := ins_at I ha
    obtain ⟨m, hF⟩ := I.fr
    refine PySem.W.len_K hF I.ok.mod.kin J h2 h3 (wpAny_mono (wpAny_call (SlX.run_at (us := [.ref a]) (ws := [.ref a]) h1 hr.in1 I.env0.in1 hx I (.cons rfl .nil) h)) (fun v s' z => ?_) fun _ _ z => z)
    obtain ⟨v', H', I', rv, n, rfl, hn, hq⟩ := z
    obtain ⟨t, rfl⟩ := rv
    exact ⟨hn, .int n, H', I'.kept (h' := s'.heap) (t' := s'.toks + 1) (fun _ _ e => e), ⟨_, rfl⟩, hq⟩
/-- in, by the own __contains__ -/
def rOwnIn (C : Addr) (sp : Sp) (E : XK) (neg : Bool) : R2 := fun y x H Q => ∃ a dx fs, x = .ref a ∧ H a = some (.ins C dx fs) ∧ sp [x, y] H (fun v H' => ∃ b, v = .bl b ∧ Q (.bl (if neg then !b else b)) H') E
theorem op_inC {ps : List Str} {S : DX} {E : XK} (G : GMx X.prog X.w K mg X.base k x "__contains__" ps S) (hr : Room k X.A)
    (hx : Passes (L2.CX X.prog X.w) X E := by exact passes_call (takes_of rfl rfl rfl rfl) fun _ _ _ _ h => h) (h : X.K = K := by rfl) (hmg : X.mg = mg := by rfl) : OpR X (compareOp .In) (rOwnIn (clsA mg x) (spX K S) E false) := by
  subst h
  subst hmg
  obtain ⟨f, h1, h2, h3⟩ := G.fnR
  intro pins s σ H y x v u Q I ry rx h
  obtain ⟨a, dx, fs, rfl, ha, h⟩ := h
  cases (show u = Value.ref a from rx)
  obtain ⟨od, J⟩ := ins_at I ha
  obtain ⟨m, hF⟩ := I.fr
  refine PySem.W.in_K hF I.ok.mod.kin J h2 h3 (wpAny_mono (wpAny_call (run_fnR (us := [.ref a, v]) (vs := [.ref a, y]) h1 hr hx I (.cons rfl (.cons ry .nil)) h)) (fun w s' z => ?_) fun _ _ z => z)
  obtain ⟨w', H', I', rw_, b, rfl, hq⟩ := z
  cases (show w = Value.bool b from rw_)
  exact wpAny_truthy_bool ⟨.bl b, H', I', rfl, hq⟩
theorem op_notInC {ps : List Str} {S : DX} {E : XK} (G : GMx X.prog X.w K mg X.base k x "__contains__" ps S) (hr : Room k X.A)
    (hx : Passes (L2.CX X.prog X.w) X E := by exact passes_call (takes_of rfl rfl rfl rfl) fun _ _ _ _ h => h) (h : X.K = K := by rfl) (hmg : X.mg = mg := by rfl) : OpR X (compareOp .NotIn) (rOwnIn (clsA mg x) (spX K S) E true) := by
  subst h
  subst hmg
  obtain ⟨f, h1, h2, h3⟩ := G.fnR
  intro pins s σ H y x v u Q I ry rx h
  obtain ⟨a, dx, fs, rfl, ha, h⟩ := h
  cases (show u = Value.ref a from rx)
  obtain ⟨od, J⟩ := ins_at I ha
  obtain ⟨m, hF⟩ := I.fr
  refine PySem.W.notIn_K hF I.ok.mod.kin J h2 h3 (wpAny_mono (wpAny_call (run_fnR (us := [.ref a, v]) (vs := [.ref a, y]) h1 hr hx I (.cons rfl (.cons ry .nil)) h)) (fun w s' z => ?_) fun _ _ z => z)
  obtain ⟨w', H', I', rw_, b, rfl, hq⟩ := z
  cases (show w = Value.bool b from rw_)
  exact wpAny_truthy_bool ⟨.bl (!b), H', I', rfl, hq⟩
end
section
variable {K : PySem.W.Frag} [Bs K] {ρ : Rho} {M : Mm} {R : RD} {Z : RX} {E : XK}
theorem xg_unl {vs : List Nat} {n : Nat} {gs : TGs} {ds : List D} {RG : Rho → Mm → Prop} (hn : ds.length = n) (h : Xgs K vs gs ds ρ M RG) : Xg K vs (gUnl K n gs) (.lst ds) ρ M RG := by
  intro v σ G H Q s w r k
  cases r with
  | @lst a xs _ hx ra =>
    exact ⟨a, xs, rfl, w.sqL (.inl (.inl hx)), by rw [ra.length]; exact hn, h xs σ G H Q s w ra k⟩
theorem xc_lenC {C : Addr} {S : DX} {x : D} (hE : EKo K E Z) (hx : IsC C x M) (h : S [x] M (fun d M' => ∃ n : Int, d = .int n ∧ (0 ≤ n ∧ n < 2 ^ 63) ∧ R (.int n) M') Z) : Xc K (cLenC C (spX K S) E) [x] M R := by
  intro vs G H Q r w k
  cases r with
  | cons r1 r2 =>
    cases r2
    obtain ⟨a, dx, xs, rfl, h1⟩ := hx.at r1 w
    refine ⟨a, dx, xs, rfl, h1, G, M, [x], _, Z, .cons r1 .nil, w.toWd0, h, ?_, sp_xback (G := G) w.bs hE⟩
    intro v d G' M' H' e rv w' hq
    obtain ⟨n, rfl, hn, hq⟩ := hq
    cases rv
    exact ⟨n, rfl, hn, k (.int n) (.int n) G' M' H' e (.int n) ⟨w', w.bs.trans e⟩ hq⟩
theorem xr_inC2 {C : Addr} {S : DX} {neg : Bool} {x y : D} (hE : EKo K E Z) (hx : IsC C x M) (h : S [x, y] M (fun d M' => ∃ b, d = .bl b ∧ R (.bl (if neg then !b else b)) M') Z) : Xr K (rOwnIn C (spX K S) E neg) y x M R := by
  intro vy vx G H Q r2 r1 w k
  obtain ⟨a, dx, xs, rfl, h1⟩ := hx.at r1 w
  refine ⟨a, dx, xs, rfl, h1, G, M, _, _, Z, .cons r1 (.cons r2 .nil), w.toWd0, h, ?_, sp_xback (G := G) w.bs hE⟩
  intro v d G' M' H' e rv w' hq
  obtain ⟨b, rfl, hq⟩ := hq
  cases rv
  exact ⟨b, rfl, k _ _ G' M' H' e (.bl _) ⟨w', w.bs.trans e⟩ hq⟩
end
end XD

/-! XE24: a def of the module with one keyword-only parameter and its default. -/
namespace XD
open PySem PySem.Spec PyProof.Rows L2 XX
/-- n parameters, then the keyword-only one p, by default v -/
structure FTk (K : PySem.W.Frag) (mg : Str → Option Value) (x qual : Str) (st : Stmt) (n : Nat) (ps : List Str) (p : Str) (v : V) : Prop where
  ex : ∃ f fd, Fun K x qual st f fd ∧ mg x = some (.ref f) ∧ (∃ u, RelV v u ∧ Binds K fd ps [u]) ∧ KBn K fd ps n [p] (fun us ws => us ++ ws) (fun vs zs => vs ++ zs)
theorem FTk.mk' {K : PySem.W.Frag} {mg : Str → Option Value} {h : Heap} (X : K.In h) (G : h.Ns mainGlobals mg) {x qual p : Str} {st : Stmt} {n : Nat} {ps : List Str} {v : V} {u : Value} {f Dk : Addr} {oc : Value} {od an : Option Addr} {osl : Array (Option Value)} {doc pm cdv ct : Value}
    (a : PySem.W.nsIn K mainGlobals x = some (some (.ref f)))
    (l : K.lookup f = some ⟨oc, od, .func (PySem.W.fnOf x qual (defArgs st) (defBody st) (defScope st) .none (.ref Dk) doc pm an cdv ct), osl⟩) (c : PySem.W.codeIn K cdv qual = true) (k : PySem.W.keepIn K (.ref f) = true)
    (kw : PySem.W.nsIn K Dk p = some (some u)) (rv : RelV v u) (hl : ps.length = n + 1)
    (hb0 : ∀ (doc pm : Value) (an : Option Addr) (cdv ct : Value) (us : List Value) (u : Value), us.length = n → KwChain Dk [(p, u)] (bindArgs (PySem.W.fnOf x qual (defArgs st) (defBody st) (defScope st) .none (.ref Dk) doc pm an cdv ct) ⟨us, []⟩) (ps.zip (us ++ [u])))
    (hb1 : ∀ (doc pm : Value) (an : Option Addr) (cdv ct : Value) (us : List Value) (u : Value), us.length = n → bindArgs (PySem.W.fnOf x qual (defArgs st) (defBody st) (defScope st) .none (.ref Dk) doc pm an cdv ct) ⟨us, [(p, u)]⟩ = pure (ps.zip (us ++ [u]))) : FTk K mg x qual st n ps p v := by
  refine ⟨f, _, fun_mk (st := st) l c k, PySem.W.mg_of X G a, ⟨u, rv, fun s us X2 hlen => ?_⟩, ⟨fun s us ws X2 l1 l2 => ?_, fun r1 r2 => r1.append r2⟩⟩
  · have l1 : us.length = n := by
      rw [List.length_append] at hlen
      simp only [List.length_cons, List.length_nil] at hlen
      omega
    refine BindsTo.of_looks fun M => KwChain.looks X2 (l := [(p, u)]) (fun q hq => ?_) (hb0 doc pm an cdv ct us u l1)
    rw [List.mem_singleton.mp hq]
    exact kw
  · match ws, l2 with
    | [w], _ => exact .of_eq (hb1 doc pm an cdv ct us w l1)
section
variable {P : Program} {w : World} {K : PySem.W.Frag} {mg : Str → Option Value} {base : Heap}
structure GFk (P : Program) (w : World) (K : PySem.W.Frag) (mg : Str → Option Value) (base : Heap) (k : Nat) (x : Str) (n : Nat) (ps : List Str) (p : Str) (v : V) (S : DX) : Prop where
  ex : ∃ f fd, FnOk P w K mg base (L2.CX P w) k f fd ps (spX K S) ∧ mg x = some (.ref f) ∧ PySem.W.keepIn K (.ref f) = true ∧ (∃ u, RelV v u ∧ Binds K fd ps [u]) ∧ KBn K fd ps n [p] (fun us ws => us ++ ws) (fun vs zs => vs ++ zs)
theorem gk_ok {x qual p : Str} {st : Stmt} {N ps : List Str} {n k : Nat} {v : V} {S : DX} (T : FTk K mg x qual st n ps p v) (Sc : FnScope N ps (defScope st)) (len : ∀ ds M R Z, S ds M R Z → ds.length = ps.length)
    (hbody : ∀ (f : Addr) (cdv : Value) (A : Around) (outer : List Env) (s : Shared) (H : Hp) (E : XK), Room k (A.deeper (PyProof.Rows.envOfC qual (defScope st) s.heap.objs.size f cdv)) →
      ∃ t, PSs (cxOf (L2.CX P w) P w K mg base N qual (defScope st) f cdv A outer s H E) (defBody st) t ∧ BodyX K S N E t) : GFk P w K mg base (k + 1) x n ps p v S := by
  obtain ⟨f, fd, F, h1, h2, h3⟩ := T.ex
  exact ⟨f, fd, fnx_ok F Sc len (hbody f), h1, F.kp, h2, h3⟩
end
section
variable {X : Cx} {K : PySem.W.Frag} {mg : Str → Option Value} {k n : Nat} {x p : Str} {ps : List Str} {v : V} {S : DX} {E : XK}
theorem pe_gkD {e : Expr} {es : List Expr} {t : TA} {p0 pos : Pos} (G : GFk X.prog X.w K mg X.base k x n ps p v S) (hr : Room k X.A) (ha : PA X (e :: es) t) (hx : Passes (L2.CX X.prog X.w) X E := by exact passes_call (takes_of rfl rfl rfl rfl) fun _ _ _ _ h => h) (h : X.K = K := by rfl) (hmg : X.mg = mg := by rfl)
    (hg : Gl X x := by rfl) (hdb : (x == ("__debug__" : Str)) = false := by decide) (he : starEach (e :: es) X.env = (false, eval e X.env) :: starEach es X.env := by rfl) (hpl : (backTo pos (starEach es X.env)).any (·.1) = false := by rfl) :
    PE X (.Call (.Name x p0) (e :: es) [] pos) (tCall (spX K S) [v] E t) := by
  subst h
  subst hmg
  obtain ⟨f, fd, h1, h2, h3, ⟨u, h4, h5⟩, _⟩ := G.ex
  exact pe_call h1 hr hg h2 h3 h5 (.cons h4 .nil) hx ha hdb he hpl
theorem pe_gkK {e : Expr} {es : List Expr} {kws : List Keyword} {t tk : TA} {p0 pos : Pos} (G : GFk X.prog X.w K mg X.base k x n ps p v S) (hr : Room k X.A) (ha : PA X (e :: es) t) (hkw : PK X kws tk) (hx : Passes (L2.CX X.prog X.w) X E := by exact passes_call (takes_of rfl rfl rfl rfl) fun _ _ _ _ h => h) (h : X.K = K := by rfl) (hmg : X.mg = mg := by rfl)
    (hg : Gl X x := by rfl) (hall : (backToKw pos (keywordEach kws X.env)).all (·.1.isSome) = true := by rfl) (hks : (backToKw pos (keywordEach kws X.env)).filterMap (·.1) = [p] := by rfl)
    (hdb : (x == ("__debug__" : Str)) = false := by decide) (he : starEach (e :: es) X.env = (false, eval e X.env) :: starEach es X.env := by rfl)
    (hpl : ((backTo pos (starEach (e :: es) X.env)).any (·.1) || (backToKw pos (keywordEach kws X.env)).any (·.1.isNone)) = false := by rfl) :
    PE X (.Call (.Name x p0) (e :: es) kws pos) (tCallN n 1 (spX K S) (fun vs zs => vs ++ zs) E t tk) := by
  subst h
  subst hmg
  obtain ⟨f, fd, h1, h2, h3, _, h6⟩ := G.ex
  exact pe_callN h1 hr hg h2 h3 h6 hx ha hkw hall hks hdb he hpl
end
section
variable {K : PySem.W.Frag} [Bs K] {ρ : Rho} {M : Mm} {R : RD} {Z : RX} {E : XK}
theorem xe_callD {S : DX} {t : TA} {v : V} {d : D} (hd : ∀ G, Rp K G v d) (hE : EKo K E Z) (h : Xa K t ρ M fun ds M1 => S (ds ++ [d]) M1 R Z) : Xe K (tCall (spX K S) [v] E t) ρ M R := by
  intro σ G H Q s w k
  refine h σ G H _ s w fun vs ds G1 M1 H1 e1 r w1 q => ?_
  exact ⟨G1, M1, ds ++ [d], R, Z, r.append (.cons (hd _) .nil), w1.toWd0, q, sp_back w1.bs k e1, sp_xback (G := G) w1.bs hE⟩
theorem xe_callN {S : DX} {n m : Nat} {t tk : TA} (hE : EKo K E Z) (h : Xa K t ρ M fun ds M1 => Xa K tk ρ M1 fun zs M2 => ds.length = n ∧ zs.length = m ∧ S (ds ++ zs) M2 R Z) : Xe K (tCallN n m (spX K S) (fun vs zs => vs ++ zs) E t tk) ρ M R := by
  intro σ G H Q s w k
  refine h σ G H _ s w fun vs ds G1 M1 H1 e1 r w1 q => ?_
  refine q σ G1 H1 _ (s.up e1) w1 fun zs es G2 M2 H2 e2 r2 w2 q2 => ?_
  obtain ⟨l1, l2, q2⟩ := q2
  exact ⟨by rw [r.length]; exact l1, by rw [r2.length]; exact l2, G2, M2, ds ++ es, R, Z, (r.up e2).append r2, w2.toWd0, q2, sp_back w2.bs k (e1.trans e2), sp_xback (G := G) w2.bs hE⟩
end
end XD

/-! XE25: list(d): the keys of a dict. -/
namespace XD
open PySem PySem.Spec PyProof.Rows L2 XX
def cListD : List V → Hp → VK → Prop := fun xs H Q => ∃ (a : Addr) (kvs : List (Key × V)), xs = [.ref a] ∧ Rd H a (.dK kvs) ∧ ∀ p, H p = none → Q (.ref p) (upd H p (.lst (kvs.map fun kv => kV kv.1)))
theorem c_listD {X : Cx} (hc : X.calm = true := by rfl) : CallR X (.type "list") cListD := call_listD hc
section
variable {K : PySem.W.Frag} [Bs K] {M : Mm} {R : RD}
theorem RpK.keysA {G : Hp} : ∀ {xs : List (Key × V)} {ds : List (Key × D)}, RpK K G xs ds → RpA K G (xs.map fun kv => kV kv.1) (ds.map fun kv => kD kv.1) := by
  intro xs
  induction xs with
  | nil => intro ds h; cases h; exact .nil
  | cons x xs ih =>
    intro ds h
    cases h with
    | cons h r => exact .cons (rp_key _) (ih r)
theorem xc_listD {x : D} {kvs : List (Key × D)} (t : DcK M x kvs) (r : R (.lst (kvs.map fun kv => kD kv.1)) M) : Xc K cListD [x] M R := by
  intro vs G H Q rs w k
  cases rs with
  | cons h1 t2 =>
    cases t2
    obtain ⟨a, xs, rfl, hd, rk⟩ := t.at h1 w
    refine ⟨a, xs, rfl, hd, fun l hl => ?_⟩
    have e := Ex.new (o := .lst (xs.map fun kv => kV kv.1)) (w.gfree hl)
    exact k _ _ _ M _ e (.lst upd_same (rk.keysA.up e)) (w.new hl) r
end
end XD

/-! XE26: super().name(..) in a plain class: a def whose first step it is. -/
namespace XX
open PySem PySem.Spec PyProof.Rows L2 NdefX
/-- what the written part says of such a def: C the class it stands in, which is that of the instance too; f2 what super finds -/
structure SupP (K : PySem.W.Frag) (P : Program) (q name : Str) (C c cc f2 : Addr) : Prop where
  cell : ∃ cl cld csl, K.lookup cc = some ⟨cl, cld, .cell (some (.ref C)), csl⟩
  code : PySem.W.codeIn K (.ref c) q = true
  file : ∃ ccl cdd vs ccs fl tf, K.lookup c = some ⟨ccl, cdd, .fields vs, ccs⟩ ∧ vs[2]? = some (.str fl tf) ∧ ((P.main.file : Str) == fl) = true
  top : (P.main.scope.names.lookup ("super" : Str)).isSome = false
  own : PySem.W.mroIn K C (.ref C) = some true
  along : PySem.W.ks_superIn K C C name = some (some (.ref f2))
  ty : PySem.W.typeIn K (.ref f2) = some (.type "function")
  fn : PySem.W.fnIn K f2 = true
  opq : PySem.W.nsIn K cStatics "thirdparty.any" = some none
section
variable {CX : CXT} {P : Program} {w : World} {K : PySem.W.Frag} {mg : Str → Option Value} {base : Heap} {N ps : List Str} {m q name : Str} {params : Arguments} {body : List Stmt} {scope : Scope} {f C c cc f2 a dx : Addr} {A : Around} {outer : List Env} {s0 s1 : Shared} {H0 H : Hp} {E9 : XK} {σ : L2.St} {fs : List (Str × V)}
theorem ev_supB {dV kV doc pm ct oc : Value} {an od : Option Addr} {osl : Array (Option Value)} {p0 p1 : Pos} {ar : Arg} {pl : Sem Bool} {whole : Sem Value} (U : SupP K P q name C c cc f2)
    (lk : K.lookup f = some ⟨oc, od, .func (supFd m q params body scope cc dV kV doc pm an c ct), osl⟩) (S : NScope N ps ["__class__"] scope) (hks : scope.names.lookup ("super" : Str) = some .globalImplicit)
    (hpar : (params.posonlyargs ++ params.args).head? = some ar) (hsup : mg "super" = none) (hn : (name == ("__class__" : Str)) = false)
    (I : Inv (ncx CX P w K mg base N (supNF m q params body scope cc c) f A outer s0 H0 E9) [] σ H s1) (ha : H a = some (.ins C dx fs))
    (hself : ∀ {Q : Value → Shared → Prop}, Q (.ref a) s1 → wpAny (model P w) (A.deeper (envF (supNF m q params body scope cc c) f s0.heap.objs.size)) (loadName (ncx CX P w K mg base N (supNF m q params body scope cc c) f A outer s0 H0 E9).env ar.arg) Q (ncx CX P w K mg base N (supNF m q params body scope cc c) f A outer s0 H0 E9).xe s1) :
    PySem.wpAt (model P w) (A.deeper (envF (supNF m q params body scope cc c) f s0.heap.objs.size)) (.func body (ncx CX P w K mg base N (supNF m q params body scope cc c) f A outer s0 H0 E9).env)
      (attributeBase (.Call (.Name "super" p0) [] [] p1) name (ncx CX P w K mg base N (supNF m q params body scope cc c) f A outer s0 H0 E9).env whole)
      (fun ov s2 => wpAny (model P w) (A.deeper (envF (supNF m q params body scope cc c) f s0.heap.objs.size)) (getMethod ov name pl) (fun fx s3 => ∃ so, fx = (Value.ref so, []) ∧ base.get? so = none ∧
        Inv (ncx CX P w K mg base N (supNF m q params body scope cc c) f A outer s0 H0 E9) [(so, PySem.W.methodObj (.ref f2) (.ref a))] σ H s3) (ncx CX P w K mg base N (supNF m q params body scope cc c) f A outer s0 H0 E9).xe s2)
      (ncx CX P w K mg base N (supNF m q params body scope cc c) f A outer s0 H0 E9).xe s1 := by
  generalize hX : ncx CX P w K mg base N (supNF m q params body scope cc c) f A outer s0 H0 E9 = X at *
  obtain ⟨cl, cld, csl, hcell⟩ := U.cell
  obtain ⟨ccl, cdd, fvs, ccs, fl, tf, hcode, hvs, hfile⟩ := U.file
  have hXK : X.K = K := by rw [← hX]; rfl
  have hXb : X.base = base := by rw [← hX]; rfl
  have hXm : X.mg = mg := by rw [← hX]; rfl
  have X1 : K.In s1.heap := hXK ▸ I.kIn
  have hmod := I.mod
  have hbk := I.bk
  obtain ⟨odx, J⟩ := XD.ins_at I ha
  obtain ⟨hp, g, d, tk, os⟩ := s1
  cases hc : PySem.W.clsIn K C with
  | none =>
    have z := U.along
    unfold PySem.W.ks_superIn at z
    rw [hc] at z
    cases z
  | some cd =>
    have halong := U.along
    unfold PySem.W.ks_superIn at halong
    rw [hc] at halong
    obtain ⟨oD, hD1, hD2⟩ : ∃ oD, hp.get? C = some oD ∧ oD.data = .cls cd := by
      have hD := hc
      unfold PySem.W.clsIn at hD
      split at hD
      · rename_i c d cd' sl ho
        cases hD
        exact ⟨_, X1 _ _ ho, rfl⟩
      · cases hD
    obtain ⟨of, hof, hofc⟩ : ∃ of, hp.get? f2 = some of ∧ of.cls = .type "function" := by
      have ht' : (K.lookup f2).map (·.cls) = some (.type "function") := U.ty
      cases z : K.lookup f2 with
      | none => rw [z] at ht'; cases ht'
      | some of => rw [z] at ht'; exact ⟨of, X1 _ _ z, Option.some.inj ht'⟩
    have henv : X.env = envF (supNF m q params body scope cc c) f s0.heap.objs.size := by rw [← hX]; rfl
    have hks2 : X.env.kindOf "super" = some .globalImplicit := by rw [henv]; exact hks
    have hkc2 : X.env.kindOf "__class__" = some .free := by rw [henv]; exact S.frk _ (by simp)
    have hfn : X.env.func = some f := by rw [henv]
    have hco : X.env.code = .ref c := by rw [henv]
    have hgl : X.env.globals = mainGlobals := by rw [henv]
    have hbu : X.env.builtins = builtinsNs := by rw [henv]
    refine PySem.ks_wpAt_super_base (ar := ar) hks2 hkc2 hn hfn (X1 _ _ lk) rfl hpar hco (X1 _ _ hcode) rfl hvs hfile U.top ?_
    obtain ⟨mb, hb1, hb2⟩ := hmod.blt
    have hkind : X.env.scope.kind = .function := by rw [henv]; exact S.kind
    refine PySem.W.ks_loadName_global hkind hks2 ?_
    refine Calls.loadGlobal_builtin (hgl ▸ hmod.glob.keeps hbk) (hXm ▸ hsup) (hbu ▸ hb1.keeps hbk) ((hb2 _ (by decide +kernel)).trans PyProof.Rows.Boot.«super») ⟨rfl, ?_⟩
    refine wpAny_loadName_free hkind hkc2 (by rw [henv]; rfl) ⟨_, X1 _ _ hcell, rfl⟩ ?_
    refine hself ?_
    refine PySem.ks_wpAny_isType_cls hD1 hD2 ⟨rfl, ?_⟩
    refine PySem.ks_wpAny_call_super hD1 hD2 J.at_ J.cls (fun c e => ?_) (PySem.W.looks_mroIn X1 U.own) fun h2 e2 k2 => ?_
    · have := J.no
      unfold PySem.W.notCls at this
      rw [e] at this
      exact Bool.noConfusion this
    have X2 : K.In h2 := fun b o z => k2 b o (X1 b o z)
    have I2 : Inv X [] σ H ⟨h2, g, d, tk, os⟩ := I.kept k2
    refine PySem.ks_wpAny_getMethod_super e2 (PySem.W.looks_opaque X2 U.opq) (l₀ := cd.mro) ?_ rfl X2 halong (k2 _ _ hof) hofc (PySem.W.ks_ne X1 J hc) hn ?_
    · exact fun A Q E s k q => wpAny_bind ((PySem.W.looks_clsIn X2 hc) A _ E s k (wpAny_pure q))
    · refine ⟨_, rfl, ?_, ClX.met_new I2⟩
      cases e : base.get? h2.objs.size with
      | none => rfl
      | some o => exact absurd (Heap.lt_size (k2 _ _ (hbk _ _ (hXb ▸ e)))) (Nat.lt_irrefl _)

/-- super().name(..) : the def that super finds, with the def's own self (slot 0) -/
def tSup (C : Addr) (sp : Sp) (ta : TA) : TE := fun σ H Q => ∃ a dx fs, σ[0]? = some (some (V.ref a)) ∧ H a = some (.ins C dx fs) ∧ ta σ H fun vs H1 => sp (.ref a :: vs) H1 Q L2.E0
/-- how the call is written -/
structure SupW (X : Cx) (name : Str) (p0 p1 p2 p3 : Pos) (es : List Expr) : Prop where
  call : ∃ pl : Sem Bool, eval (.Call (.Attribute (.Call (.Name "super" p0) [] [] p1) name p2) es [] p3) X.env = (do
    let ov ← attributeBase (.Call (.Name "super" p0) [] [] p1) name X.env (eval (.Call (.Name "super" p0) [] [] p1) X.env)
    standAt p2.atName
    let (fx, first) ← holding [ov] (getMethod ov name pl)
    callWith p3 fx first (backTo p3 (starEach es X.env)) [])
abbrev supX (P : Program) (w : World) (K : PySem.W.Frag) (mg : Str → Option Value) (base : Heap) (N : List Str) (m q : Str) (params : Arguments) (body : List Stmt) (scope : Scope) (fI c cc : Addr) (A : Around) (outer : List Env) (s : Shared) (H : Hp) (E : XK) : Cx :=
  ncx CX0 P w K mg base N (supNF m q params body scope cc c) fI A outer s H E
theorem startF_0 {N : List Str} {v : V} {vs : List V} {ws : List (Option V)} : (startF N (v :: vs) ws)[0]? = some (some v) := rfl
theorem ev_sup1 {dV kV doc pm ct oc : Value} {an od : Option Addr} {osl : Array (Option Value)} {p0 p1 p2 p3 : Pos} {ar : Arg} {e : Expr} {es : List Expr} {ta : TA} {k : Nat} {sp : Sp} {Q : VK} (U : SupP K P q name C c cc f2)
    (lk : K.lookup f = some ⟨oc, od, .func (supFd m q params body scope cc dV kV doc pm an c ct), osl⟩) (S : NScope N ps ["__class__"] scope) (hks : scope.names.lookup ("super" : Str) = some .globalImplicit)
    (hpar : (params.posonlyargs ++ params.args).head? = some ar) (hsup : mg "super" = none) (hn : (name == ("__class__" : Str)) = false)
    (W : SupW (supX P w K mg base N m q params body scope f c cc A outer s0 H0 E9) name p0 p1 p2 p3 (e :: es)) (F2 : FnR P w K mg base CX0 k f2 sp) (hr : Room k (A.deeper (envF (supNF m q params body scope cc c) f s0.heap.objs.size)))
    (hA : PA (supX P w K mg base N m q params body scope f c cc A outer s0 H0 E9) (e :: es) ta)
    (hst : starEach (e :: es) (supX P w K mg base N m q params body scope f c cc A outer s0 H0 E9).env = (false, eval e (supX P w K mg base N m q params body scope f c cc A outer s0 H0 E9).env) :: starEach es (supX P w K mg base N m q params body scope f c cc A outer s0 H0 E9).env)
    (hpl : (backTo p3 (starEach es (supX P w K mg base N m q params body scope f c cc A outer s0 H0 E9).env)).any (·.1) = false)
    (I : Inv (supX P w K mg base N m q params body scope f c cc A outer s0 H0 E9) [] σ H s1)
    (hself : ∀ {a : Addr} {Q : Value → Shared → Prop}, σ[0]? = some (some (V.ref a)) → Q (.ref a) s1 → wpAny (model P w) (A.deeper (envF (supNF m q params body scope cc c) f s0.heap.objs.size)) (loadName (supX P w K mg base N m q params body scope f c cc A outer s0 H0 E9).env ar.arg) Q (supX P w K mg base N m q params body scope f c cc A outer s0 H0 E9).xe s1)
    (h : tSup C sp ta σ H Q) :
    PySem.wpAt (model P w) (A.deeper (envF (supNF m q params body scope cc c) f s0.heap.objs.size)) (.func body (supX P w K mg base N m q params body scope f c cc A outer s0 H0 E9).env)
      (eval (.Call (.Attribute (.Call (.Name "super" p0) [] [] p1) name p2) (e :: es) [] p3) (supX P w K mg base N m q params body scope f c cc A outer s0 H0 E9).env) (EP (supX P w K mg base N m q params body scope f c cc A outer s0 H0 E9) [] σ Q)
      (supX P w K mg base N m q params body scope f c cc A outer s0 H0 E9).xe s1 := by
  obtain ⟨pl, hcall⟩ := W.call
  obtain ⟨a, dx, fs, h0, ha, h⟩ := h
  refine PySem.ks_wpAt_MethodCall (pl := pl) (PySem.ks_wpAt_mono (ev_supB (pl := pl) U lk S hks hpar hsup hn I ha (hself h0)) (fun ov s2 h2 => ?_) fun _ _ z => z) hcall
  refine wpAny_mono h2 (fun fx s3 h3 => ?_) fun _ _ z => z
  obtain ⟨so, rfl, hb0, I3⟩ := h3
  refine ClX.callwith_cm I3 hb0 U.fn (thn (hA.run p3 _ s3 _ H _ I3 h) fun us2 s4 h4 => ?_) hst hpl
  obtain ⟨ws, H2, I4, r4, q4⟩ := h4
  exact ⟨⟨ClX.pin_at I4, I4.kIn⟩, ClX.run_cm F2 hr pass0 I4 r4 q4⟩
theorem ev_sup0 {dV kV doc pm ct oc : Value} {an od : Option Addr} {osl : Array (Option Value)} {p0 p1 p2 p3 : Pos} {ar : Arg} {k : Nat} {sp : Sp} {Q : VK} (U : SupP K P q name C c cc f2)
    (lk : K.lookup f = some ⟨oc, od, .func (supFd m q params body scope cc dV kV doc pm an c ct), osl⟩) (S : NScope N ps ["__class__"] scope) (hks : scope.names.lookup ("super" : Str) = some .globalImplicit)
    (hpar : (params.posonlyargs ++ params.args).head? = some ar) (hsup : mg "super" = none) (hn : (name == ("__class__" : Str)) = false)
    (W : SupW (supX P w K mg base N m q params body scope f c cc A outer s0 H0 E9) name p0 p1 p2 p3 []) (F2 : FnR P w K mg base CX0 k f2 sp) (hr : Room k (A.deeper (envF (supNF m q params body scope cc c) f s0.heap.objs.size)))
    (I : Inv (supX P w K mg base N m q params body scope f c cc A outer s0 H0 E9) [] σ H s1)
    (hself : ∀ {a : Addr} {Q : Value → Shared → Prop}, σ[0]? = some (some (V.ref a)) → Q (.ref a) s1 → wpAny (model P w) (A.deeper (envF (supNF m q params body scope cc c) f s0.heap.objs.size)) (loadName (supX P w K mg base N m q params body scope f c cc A outer s0 H0 E9).env ar.arg) Q (supX P w K mg base N m q params body scope f c cc A outer s0 H0 E9).xe s1)
    (h : tSup C sp tNil σ H Q) :
    PySem.wpAt (model P w) (A.deeper (envF (supNF m q params body scope cc c) f s0.heap.objs.size)) (.func body (supX P w K mg base N m q params body scope f c cc A outer s0 H0 E9).env)
      (eval (.Call (.Attribute (.Call (.Name "super" p0) [] [] p1) name p2) [] [] p3) (supX P w K mg base N m q params body scope f c cc A outer s0 H0 E9).env) (EP (supX P w K mg base N m q params body scope f c cc A outer s0 H0 E9) [] σ Q)
      (supX P w K mg base N m q params body scope f c cc A outer s0 H0 E9).xe s1 := by
  obtain ⟨pl, hcall⟩ := W.call
  obtain ⟨a, dx, fs, h0, ha, h⟩ := h
  refine PySem.ks_wpAt_MethodCall (pl := pl) (PySem.ks_wpAt_mono (ev_supB (pl := pl) U lk S hks hpar hsup hn I ha (hself h0)) (fun ov s2 h2 => ?_) fun _ _ z => z) hcall
  refine wpAny_mono h2 (fun fx s3 h3 => ?_) fun _ _ z => z
  obtain ⟨so, rfl, hb0, I3⟩ := h3
  exact PySem.W.callWith_M0 (K := K) (first := []) ⟨ClX.pin_at I3, I3.kIn⟩ U.fn (ClX.run_cm F2 hr pass0 I3 .nil h)
theorem supA_fn {dV kV doc pm ct oc : Value} {an od : Option Addr} {osl : Array (Option Value)} {e : Expr} {es : List Expr} {rest : List Stmt} {p0 p1 p2 p3 p4 : Pos} {ar : Arg} {ta : TA} {k : Nat} {sp sp2 : Sp} (U : SupP K P q name C c cc f2)
    (lk : K.lookup f = some ⟨oc, od, .func (supFd m q params (.Expr (.Call (.Attribute (.Call (.Name "super" p0) [] [] p1) name p2) (e :: es) [] p3) p4 :: rest) scope cc dV kV doc pm an c ct), osl⟩) (S : NScope N ps ["__class__"] scope) (hks : scope.names.lookup ("super" : Str) = some .globalImplicit)
    (hpar : (params.posonlyargs ++ params.args).head? = some ar) (hp0 : ps[0]? = some ar.arg) (hsup : mg "super" = none) (hn : (name == ("__class__" : Str)) = false) (len : ∀ vs H Q E, sp vs H Q E → vs.length = ps.length) (F2 : FnR P w K mg base CX0 k f2 sp2)
    (hbody : ∀ (A : Around) (outer : List Env) (s : Shared) (H : Hp) (E : XK), Room k (A.deeper (envF (supNF m q params (.Expr (.Call (.Attribute (.Call (.Name "super" p0) [] [] p1) name p2) (e :: es) [] p3) p4 :: rest) scope cc c) f s.heap.objs.size)) →
      SupW (supX P w K mg base N m q params (.Expr (.Call (.Attribute (.Call (.Name "super" p0) [] [] p1) name p2) (e :: es) [] p3) p4 :: rest) scope f c cc A outer s H E) name p0 p1 p2 p3 (e :: es) ∧ PA (supX P w K mg base N m q params (.Expr (.Call (.Attribute (.Call (.Name "super" p0) [] [] p1) name p2) (e :: es) [] p3) p4 :: rest) scope f c cc A outer s H E) (e :: es) ta ∧
      starEach (e :: es) (supX P w K mg base N m q params (.Expr (.Call (.Attribute (.Call (.Name "super" p0) [] [] p1) name p2) (e :: es) [] p3) p4 :: rest) scope f c cc A outer s H E).env = (false, eval e (supX P w K mg base N m q params (.Expr (.Call (.Attribute (.Call (.Name "super" p0) [] [] p1) name p2) (e :: es) [] p3) p4 :: rest) scope f c cc A outer s H E).env) :: starEach es (supX P w K mg base N m q params (.Expr (.Call (.Attribute (.Call (.Name "super" p0) [] [] p1) name p2) (e :: es) [] p3) p4 :: rest) scope f c cc A outer s H E).env ∧
      (backTo p3 (starEach es (supX P w K mg base N m q params (.Expr (.Call (.Attribute (.Call (.Name "super" p0) [] [] p1) name p2) (e :: es) [] p3) p4 :: rest) scope f c cc A outer s H E).env)).any (·.1) = false ∧
      ∃ t, PSs (supX P w K mg base N m q params (.Expr (.Call (.Attribute (.Call (.Name "super" p0) [] [] p1) name p2) (e :: es) [] p3) p4 :: rest) scope f c cc A outer s H E) rest t ∧ ∀ vs Q, sp vs H Q E → tSeq (tDrop (tSup C sp2 ta)) t { nx := fun _ H' => Q .non H', rt := Q } (startF N vs [none]) H) :
    FnOk P w K mg base CX0 (k + 1) f (supFd m q params (.Expr (.Call (.Attribute (.Call (.Name "super" p0) [] [] p1) name p2) (e :: es) [] p3) p4 :: rest) scope cc dV kV doc pm an c ct) ps sp := by
  refine ⟨len, fun A outer s H args us vs Q E hr e0 hb r hsp => ?_⟩
  have hl := len _ _ _ _ hsp
  have kp0 : ∀ b o, base.get? b = some o → s.heap.get? b = some o := fun b o e => (e0.bs b o e).1
  have KX : K.In s.heap := e0.mod.kin.keeps kp0
  have lim : s.heap.NoLimit := e0.mod.nolimit.keeps kp0
  obtain ⟨cl, cld, csl, hcell⟩ := U.cell
  let F : NF := supNF m q params (.Expr (.Call (.Attribute (.Call (.Name "super" p0) [] [] p1) name p2) (e :: es) [] p3) p4 :: rest) scope cc c
  have hcc : H cc = none := (e0.bs cc _ (e0.mod.kin _ _ hcell)).2
  have CA : CellsAt F.cl ["__class__"] [none] s.heap H := by
    have one : ∀ {y : Str} {c2 : Addr}, F.cl.lookup y = some c2 → y = "__class__" ∧ c2 = cc := fun {y c2} z => by
      have z : ([(("__class__" : Str), cc)] : List (Str × Addr)).lookup y = some c2 := z
      unfold List.lookup at z
      split at z
      · rename_i h
        cases z
        exact ⟨by simpa using h, rfl⟩
      · cases z
    refine ⟨rfl, fun y c2 z => ?_, fun x y c2 z1 z2 => by rw [(one z1).1, (one z2).1], fun j y hj => ?_⟩
    · rw [(one z).2]
      exact ⟨hcc, some (.ref C), _, KX _ _ hcell, rfl⟩
    · cases j with
      | zero =>
        cases hj
        exact ⟨cc, rfl, fun v hv => by simp at hv⟩
      | succ j => simp at hj
  refine PySem.ks_codeAny_call_defAt (binds := ps.zip us) hr.depth (KX _ _ lk) rfl lim (PySem.W.codeRec_of KX U.code) rfl hb S.nocell (fun y hy => S.par y.1 (List.of_mem_zip hy).1) (fun h1 hns hk1 => ?_) S.co S.gen S.kind
  have I : Inv (supX P w K mg base N m q params (.Expr (.Call (.Attribute (.Call (.Name "super" p0) [] [] p1) name p2) (e :: es) [] p3) p4 :: rest) scope f c cc A outer s H E) [] (startF N vs [none]) H { s with heap := h1, toks := s.toks + (ps.zip us).length } := inv_startN S hr.hd e0 hl r CA hns hk1
  have hp1 : ps.Nodup := (List.nodup_append.mp (S.pre ▸ S.nd.sublist (List.take_sublist _ N))).1
  have hself : ∀ {a : Addr} {Q : Value → Shared → Prop}, (startF N vs [none])[0]? = some (some (V.ref a)) → Q (.ref a) { s with heap := h1, toks := s.toks + (ps.zip us).length } → wpAny (model P w) (A.deeper (envF F f s.heap.objs.size)) (loadName (supX P w K mg base N m q params (.Expr (.Call (.Attribute (.Call (.Name "super" p0) [] [] p1) name p2) (e :: es) [] p3) p4 :: rest) scope f c cc A outer s H E).env ar.arg) Q (supX P w K mg base N m q params (.Expr (.Call (.Attribute (.Call (.Name "super" p0) [] [] p1) name p2) (e :: es) [] p3) p4 :: rest) scope f c cc A outer s H E).xe { s with heap := h1, toks := s.toks + (ps.zip us).length } := by
    intro a Q h0 hq
    cases r with
    | nil =>
      have z := List.getElem?_eq_some_iff.mp hp0
      have z2 : ps.length = 0 := by rw [← hl]; rfl
      exact absurd z.1 (by omega)
    | @cons v0 u0 _ ur ra rr =>
      rw [startF_0] at h0
      cases h0
      cases (show u0 = Value.ref a from ra)
      exact wpAny_loadName_local S.kind (S.par _ (List.mem_of_getElem? hp0)) hns (zip_look (i := 0) hp1 hp0 rfl) hq
  have fin : ∀ {s6 : Shared} {σ' : L2.St} {H' : Hp} {v : V} {u : Value}, Inv (supX P w K mg base N m q params (.Expr (.Call (.Attribute (.Call (.Name "super" p0) [] [] p1) name p2) (e :: es) [] p3) p4 :: rest) scope f c cc A outer s H E) [] σ' H' s6 → RelV v u → Q v H' → CE outer P w H s Q u s6 :=
    fun {s6 σ' H' v u} Z rv qz => ⟨v, H', Z.os, Z.bare, Z.base, Z.hok, rv, qz⟩
  obtain ⟨hW, hA, hst, hpl, t, ht, hq⟩ := hbody A outer s H E (hr.deeper _)
  refine PySem.ks_wpAt_execs_cons ?_
  have hint : interactive (supX P w K mg base N m q params (.Expr (.Call (.Attribute (.Call (.Name "super" p0) [] [] p1) name p2) (e :: es) [] p3) p4 :: rest) scope f c cc A outer s H E).env = false := by
    unfold interactive
    rw [show (supX P w K mg base N m q params (.Expr (.Call (.Attribute (.Call (.Name "super" p0) [] [] p1) name p2) (e :: es) [] p3) p4 :: rest) scope f c cc A outer s H E).env.scope.kind = .function from S.kind]
    rfl
  refine PySem.ks_wpAt_Expr_any ?_ hint
  refine PySem.ks_wpAt_mono (ev_sup1 U lk S hks hpar hsup hn hW F2 (hr.deeper _) hA hst hpl I hself (hq vs Q hsp)) (fun v s5 h5 => ?_) fun _ _ z => z
  obtain ⟨v', H5, I5, rv, q5⟩ := h5
  refine wpAt_of_wpAny (wpAny_mono (ht.run [] _ _ H5 _ I5 q5) (fun fl s6 hs => ?_) fun e6 s6 hs => hs)
  cases fl with
  | ret u =>
    obtain ⟨v, σ', H', Z, rv, qz⟩ := hs
    exact fin Z rv qz
  | next =>
    obtain ⟨σ', H', Z, qz⟩ := hs
    exact fin (v := V.non) (u := Value.none) Z rfl qz
  | brk =>
    obtain ⟨_, _, _, qz⟩ := hs
    exact qz.elim
  | cont =>
    obtain ⟨_, _, _, qz⟩ := hs
    exact qz.elim
theorem supB_fn {dV kV doc pm ct oc : Value} {an od : Option Addr} {osl : Array (Option Value)} {re : Expr} {p0 p1 p2 p3 bp rp : Pos} {ar : Arg} {k : Nat} {sp sp2 : Sp} {r2 : R2} {te : TE} (U : SupP K P q name C c cc f2)
    (lk : K.lookup f = some ⟨oc, od, .func (supFd m q params [.Return (some (.BinOp (.Call (.Attribute (.Call (.Name "super" p0) [] [] p1) name p2) [] [] p3) .Add re bp)) rp] scope cc dV kV doc pm an c ct), osl⟩) (S : NScope N ps ["__class__"] scope) (hks : scope.names.lookup ("super" : Str) = some .globalImplicit)
    (hpar : (params.posonlyargs ++ params.args).head? = some ar) (hp0 : ps[0]? = some ar.arg) (hsup : mg "super" = none) (hn : (name == ("__class__" : Str)) = false) (len : ∀ vs H Q E, sp vs H Q E → vs.length = ps.length) (F2 : FnR P w K mg base CX0 k f2 sp2)
    (hbody : ∀ (A : Around) (outer : List Env) (s : Shared) (H : Hp) (E : XK), Room k (A.deeper (envF (supNF m q params [.Return (some (.BinOp (.Call (.Attribute (.Call (.Name "super" p0) [] [] p1) name p2) [] [] p3) .Add re bp)) rp] scope cc c) f s.heap.objs.size)) →
      SupW (supX P w K mg base N m q params [.Return (some (.BinOp (.Call (.Attribute (.Call (.Name "super" p0) [] [] p1) name p2) [] [] p3) .Add re bp)) rp] scope f c cc A outer s H E) name p0 p1 p2 p3 [] ∧ PE (supX P w K mg base N m q params [.Return (some (.BinOp (.Call (.Attribute (.Call (.Name "super" p0) [] [] p1) name p2) [] [] p3) .Add re bp)) rp] scope f c cc A outer s H E) re te ∧ OpR (supX P w K mg base N m q params [.Return (some (.BinOp (.Call (.Attribute (.Call (.Name "super" p0) [] [] p1) name p2) [] [] p3) .Add re bp)) rp] scope f c cc A outer s H E) (binaryOp .Add) r2 ∧
      ∀ vs Q, sp vs H Q E → tOp r2 (tSup C sp2 tNil) te (startF N vs [none]) H Q) :
    FnOk P w K mg base CX0 (k + 1) f (supFd m q params [.Return (some (.BinOp (.Call (.Attribute (.Call (.Name "super" p0) [] [] p1) name p2) [] [] p3) .Add re bp)) rp] scope cc dV kV doc pm an c ct) ps sp := by
  refine ⟨len, fun A outer s H args us vs Q E hr e0 hb r hsp => ?_⟩
  have hl := len _ _ _ _ hsp
  have kp0 : ∀ b o, base.get? b = some o → s.heap.get? b = some o := fun b o e => (e0.bs b o e).1
  have KX : K.In s.heap := e0.mod.kin.keeps kp0
  have lim : s.heap.NoLimit := e0.mod.nolimit.keeps kp0
  obtain ⟨cl, cld, csl, hcell⟩ := U.cell
  let F : NF := supNF m q params [.Return (some (.BinOp (.Call (.Attribute (.Call (.Name "super" p0) [] [] p1) name p2) [] [] p3) .Add re bp)) rp] scope cc c
  have hcc : H cc = none := (e0.bs cc _ (e0.mod.kin _ _ hcell)).2
  have CA : CellsAt F.cl ["__class__"] [none] s.heap H := by
    have one : ∀ {y : Str} {c2 : Addr}, F.cl.lookup y = some c2 → y = "__class__" ∧ c2 = cc := fun {y c2} z => by
      have z : ([(("__class__" : Str), cc)] : List (Str × Addr)).lookup y = some c2 := z
      unfold List.lookup at z
      split at z
      · rename_i h
        cases z
        exact ⟨by simpa using h, rfl⟩
      · cases z
    refine ⟨rfl, fun y c2 z => ?_, fun x y c2 z1 z2 => by rw [(one z1).1, (one z2).1], fun j y hj => ?_⟩
    · rw [(one z).2]
      exact ⟨hcc, some (.ref C), _, KX _ _ hcell, rfl⟩
    · cases j with
      | zero =>
        cases hj
        exact ⟨cc, rfl, fun v hv => by simp at hv⟩
      | succ j => simp at hj
  refine PySem.ks_codeAny_call_defAt (binds := ps.zip us) hr.depth (KX _ _ lk) rfl lim (PySem.W.codeRec_of KX U.code) rfl hb S.nocell (fun y hy => S.par y.1 (List.of_mem_zip hy).1) (fun h1 hns hk1 => ?_) S.co S.gen S.kind
  have I : Inv (supX P w K mg base N m q params [.Return (some (.BinOp (.Call (.Attribute (.Call (.Name "super" p0) [] [] p1) name p2) [] [] p3) .Add re bp)) rp] scope f c cc A outer s H E) [] (startF N vs [none]) H { s with heap := h1, toks := s.toks + (ps.zip us).length } := inv_startN S hr.hd e0 hl r CA hns hk1
  have hp1 : ps.Nodup := (List.nodup_append.mp (S.pre ▸ S.nd.sublist (List.take_sublist _ N))).1
  have hself : ∀ {a : Addr} {Q : Value → Shared → Prop}, (startF N vs [none])[0]? = some (some (V.ref a)) → Q (.ref a) { s with heap := h1, toks := s.toks + (ps.zip us).length } → wpAny (model P w) (A.deeper (envF F f s.heap.objs.size)) (loadName (supX P w K mg base N m q params [.Return (some (.BinOp (.Call (.Attribute (.Call (.Name "super" p0) [] [] p1) name p2) [] [] p3) .Add re bp)) rp] scope f c cc A outer s H E).env ar.arg) Q (supX P w K mg base N m q params [.Return (some (.BinOp (.Call (.Attribute (.Call (.Name "super" p0) [] [] p1) name p2) [] [] p3) .Add re bp)) rp] scope f c cc A outer s H E).xe { s with heap := h1, toks := s.toks + (ps.zip us).length } := by
    intro a Q h0 hq
    cases r with
    | nil =>
      have z := List.getElem?_eq_some_iff.mp hp0
      have z2 : ps.length = 0 := by rw [← hl]; rfl
      exact absurd z.1 (by omega)
    | @cons v0 u0 _ ur ra rr =>
      rw [startF_0] at h0
      cases h0
      cases (show u0 = Value.ref a from ra)
      exact wpAny_loadName_local S.kind (S.par _ (List.mem_of_getElem? hp0)) hns (zip_look (i := 0) hp1 hp0 rfl) hq
  have fin : ∀ {s6 : Shared} {σ' : L2.St} {H' : Hp} {v : V} {u : Value}, Inv (supX P w K mg base N m q params [.Return (some (.BinOp (.Call (.Attribute (.Call (.Name "super" p0) [] [] p1) name p2) [] [] p3) .Add re bp)) rp] scope f c cc A outer s H E) [] σ' H' s6 → RelV v u → Q v H' → CE outer P w H s Q u s6 :=
    fun {s6 σ' H' v u} Z rv qz => ⟨v, H', Z.os, Z.bare, Z.base, Z.hok, rv, qz⟩
  obtain ⟨hW, hre, hop, hq⟩ := hbody A outer s H E (hr.deeper _)
  refine PySem.ks_wpAt_execs_cons ?_
  refine PySem.ks_wpAt_Return_some ?_
  refine PySem.ks_wpAt_BinOp ?_
  refine PySem.ks_wpAt_mono (ev_sup0 U lk S hks hpar hsup hn hW F2 (hr.deeper _) I hself (hq vs Q hsp)) (fun v s5 h5 => ?_) fun _ _ z => z
  obtain ⟨v', H5, I5, rv, q5⟩ := h5
  refine thn (hre.run [] s5 _ H5 _ I5 q5) fun u6 s6 h6 => ?_
  obtain ⟨v6, H6, I6, rv6, q6⟩ := h6
  refine thn (hop [] s6 _ H6 v' v6 v u6 _ I6 rv rv6 q6) fun u7 s7 h7 => ?_
  obtain ⟨v7, H7, I7, rv7, q7⟩ := h7
  exact fin I7 rv7 q7
end
end XX

/-! XE27: own classes that inherit: super() told over (rho, M), bool(x) by an own __bool__, isinstance by the order of classes, a reading by one of several rules. -/
namespace XX
open PySem PySem.W
section
variable {prog : Program} {w : World} {A : Around} {E : Value → Shared → Prop} {s : Shared}
theorem code_bool_new {x : Addr} {Q₁ : Value → Shared → Prop} (h : wpAny (model prog w) A.in1 (truthy (.ref x)) (fun b s' => Q₁ (.bool b) s') E s) :
    codeAny (model prog w) A (.call (.builtin "bool.__new__") ⟨[.type "bool", .ref x], []⟩) (wants Q₁ E) s := by
  refine codeAny_of_tree ?_
  show wpAny _ A.in1 (do checkBuiltinCall "bool.__new__" ⟨[.type "bool", .ref x], []⟩; again (.builtin "bool.__new__" ⟨[.type "bool", .ref x], []⟩)) _ _ s
  have hp : plainId "bool.__new__" = true := by decide +kernel
  refine wpAny_bind (wpAny_of_eq (F.newCall_bool_1 _) (wpAny_pure ⟨plainId_quiet hp _, codeAny_builtin F.entry_bool_new ?_⟩))
  rw [Around.under_plainId hp _]
  have f1 := F.conv_sub_bool
  unfold Builtin.«bool.__new__»
  repeat (any_goals (first | assumption | (with_reducible refine wpAny_bind (wpAny_mono h (fun b s' hb => ?_) fun _ _ z => z)) | wp_step))
theorem call_bool_own {x : Addr} {Q : Value → Shared → Prop} (h : wpAny (model prog w) A.in1.in1 (truthy (.ref x)) (fun b s' => Q (.bool b) s') E s) : wpAny (model prog w) A (call (.type "bool") [.ref x]) Q E s := by
  refine ks_callType_codesW (Q₁ := fun obj s₁ => ∃ b, obj = .bool b ∧ Q (.bool b) s₁) F.called_bool (fun q => wpAny_of_eq (F.typeCall_bool_1 _) q) F.entry_object_init (code_bool_new (wpAny_mono h (fun b s' hb => ⟨b, rfl, hb⟩) fun _ _ z => z)) fun obj s₁ h₁ => ?_
  obtain ⟨b, rfl, hq⟩ := h₁
  have hT : s₁.TypeIs (.bool b) "bool" := by first | rfl | exact typeIs_bool _ _ _ | decide
  refine ⟨hT, F.args_object_init_2 _ _, ?_⟩
  exact object_init_meets F.called_bool.init.lookup F.called_bool.made F.newNe_bool prog w _ _ _ ⟨hT, rfl, hq⟩
end
end XX

namespace XD
open PySem PySem.Spec PyProof.Rows L2 XX NdefX
/-! ### one of two readings -/
def tAlt (t1 t2 : TE) : TE := fun σ H Q => t1 σ H Q ∨ t2 σ H Q
theorem pe_alt {X : Cx} {e : Expr} {t1 t2 : TE} (h1 : PE X e t1) (h2 : PE X e t2) : PE X e (tAlt t1 t2) := ⟨fun pins s σ H Q I h => h.elim (h1.run pins s σ H Q I) (h2.run pins s σ H Q I)⟩
def sAlt (t1 t2 : TS) : TS := fun D σ H => t1 D σ H ∨ t2 D σ H
theorem ps_alt {X : Cx} {st : Stmt} {t1 t2 : TS} (h1 : PS X st t1) (h2 : PS X st t2) : PS X st (sAlt t1 t2) := ⟨fun pins s σ H D I h => h.elim (h1.run pins s σ H D I) (h2.run pins s σ H D I)⟩
def cAlt (r1 r2 : List V → Hp → VK → Prop) : List V → Hp → VK → Prop := fun xs H Q => r1 xs H Q ∨ r2 xs H Q
theorem CallR.alt {X : Cx} {f : Value} {r1 r2 : List V → Hp → VK → Prop} (h1 : CallR X f r1) (h2 : CallR X f r2) : CallR X f (cAlt r1 r2) := fun pins s σ H xs us Q I r h => h.elim (h1 pins s σ H xs us Q I r) (h2 pins s σ H xs us Q I r)
section
variable {K : PySem.W.Frag} [Bs K] {ρ : Rho} {M : Mm} {R : RD} {t1 t2 : TE} {s1 s2 : TS} {E : En} {r1 r2 : List V → Hp → VK → Prop} {ds : List D}
theorem xe_altL (h : Xe K t1 ρ M R) : Xe K (tAlt t1 t2) ρ M R := fun σ G H Q s w k => .inl (h σ G H Q s w k)
theorem xe_altR (h : Xe K t2 ρ M R) : Xe K (tAlt t1 t2) ρ M R := fun σ G H Q s w k => .inr (h σ G H Q s w k)
theorem ys_altL (h : Xs K s1 E ρ M) : Xs K (sAlt s1 s2) E ρ M := fun σ G H D s w k => .inl (h σ G H D s w k)
theorem ys_altR (h : Xs K s2 E ρ M) : Xs K (sAlt s1 s2) E ρ M := fun σ G H D s w k => .inr (h σ G H D s w k)
theorem xc_altL (h : Xc K r1 ds M R) : Xc K (cAlt r1 r2) ds M R := fun vs G H Q rs w k => .inl (h vs G H Q rs w k)
theorem xc_altR (h : Xc K r2 ds M R) : Xc K (cAlt r1 r2) ds M R := fun vs G H Q rs w k => .inr (h vs G H Q rs w k)
end
/-! ### super() -/
section
variable {P : Program} {w : World} {K : PySem.W.Frag} {mg : Str → Option Value} {base : Heap}
/-- a method of the class x that begins with super().name(..), which is b's -/
structure MTp (P : Program) (K : PySem.W.Frag) (mg : Str → Option Value) (x m qual : Str) (st : Stmt) (ps : List Str) (name b : Str) : Prop where
  ex : ∃ (f c cc f2 : Addr) (oc dV kV doc pm ct : Value) (od an : Option Addr) (osl : Array (Option Value)), K.lookup f = some ⟨oc, od, .func (supFd m qual (defArgs st) (defBody st) (defScope st) cc dV kV doc pm an c ct), osl⟩ ∧ SupP K P qual name (clsA mg x) c cc f2 ∧
    Meth K (clsA mg x) m f ∧ Binds K (supFd m qual (defArgs st) (defBody st) (defScope st) cc dV kV doc pm an c ct) ps [] ∧ PySem.W.findIn K (.ref (clsA mg b)) name = some (some (.ref f2))
theorem MTp.mk' {h : Heap} (X : K.In h) (G : h.Ns mainGlobals mg) {x m qual name b : Str} {st : Stmt} {ps : List Str} {C B f c cc f2 : Addr} {oc kV doc pm ct cl ccl : Value} {od an cld cdd : Option Addr} {osl csl ccs : Array (Option Value)} {vs : Array Value} {fl : Str} {tf : Tok}
    (a : PySem.W.nsIn K mainGlobals x = some (some (.ref C))) (a2 : PySem.W.nsIn K mainGlobals b = some (some (.ref B))) (fi : PySem.W.findIn K (.ref C) m = some (some (.ref f))) (isf : PySem.W.isFn K (.ref f) = true)
    (l : K.lookup f = some ⟨oc, od, .func (supFd m qual (defArgs st) (defBody st) (defScope st) cc .none kV doc pm an c ct), osl⟩) (k : PySem.W.keepIn K (.ref f) = true)
    (hb : ∀ (cc : Addr) (kV doc pm : Value) (an : Option Addr) (c : Addr) (ct : Value) (us : List Value), us.length = ps.length → bindArgs (supFd m qual (defArgs st) (defBody st) (defScope st) cc .none kV doc pm an c ct) ⟨us, []⟩ = pure (ps.zip us))
    (cell : K.lookup cc = some ⟨cl, cld, .cell (some (.ref C)), csl⟩) (code : PySem.W.codeIn K (.ref c) qual = true) (cod : K.lookup c = some ⟨ccl, cdd, .fields vs, ccs⟩) (v2 : vs[2]? = some (.str fl tf)) (hf : ((P.main.file : Str) == fl) = true)
    (top : (P.main.scope.names.lookup ("super" : Str)).isSome = false) (own : PySem.W.mroIn K C (.ref C) = some true) (along : PySem.W.ks_superIn K C C name = some (some (.ref f2))) (ty : PySem.W.typeIn K (.ref f2) = some (.type "function")) (fn : PySem.W.fnIn K f2 = true)
    (opq : PySem.W.nsIn K cStatics "thirdparty.any" = some none) (fb : PySem.W.findIn K (.ref B) name = some (some (.ref f2))) : MTp P K mg x m qual st ps name b := by
  have e1 := clsA_of (PySem.W.mg_of X G a)
  have e2 := clsA_of (PySem.W.mg_of X G a2)
  exact ⟨f, c, cc, f2, _, _, _, _, _, _, _, _, _, l, by rw [e1]; exact ⟨⟨_, _, _, cell⟩, code, ⟨_, _, _, _, _, _, cod, v2, hf⟩, top, own, along, ty, fn, opq⟩, by rw [e1]; exact ⟨fi, isf, k⟩, Binds.all fun us hl => hb cc kV doc pm an c ct us hl, by rw [e2]; exact fb⟩
theorem startF_start {N : List Str} {vs : List V} (h : vs.length + 1 ≤ N.length) : startF N vs [none] = L2.start N vs := by
  unfold startF L2.start
  congr 1
  show none :: List.replicate (N.length - vs.length - 1) none = _
  rw [← List.replicate_succ]
  congr 1
  omega
theorem sup_start {S : DS} {ps N : List Str} {t : TS} {vs : List V} {Q : VK} {H : Hp} {E : XK} (hN : ps.length + 1 ≤ N.length) (len : ∀ ds M R, S ds M R → ds.length = ps.length)
    (h2 : ∀ ds M R, S ds M R → Xs0 K t { nx := fun _ M' => R .non M', rt := R } (startD N ds) M) (h : spOf K S vs H Q E) : t { nx := fun _ H' => Q .non H', rt := Q } (startF N vs [none]) H := by
  obtain ⟨G, M, ds, R, r, w0, hs, kk⟩ := h
  have hl := len ds M R hs
  rw [startF_start (by rw [r.length, hl]; exact hN)]
  refine h2 ds M R hs _ G H _ (rps_start r) w0.wd ⟨?_, ?_, ?_, ?_⟩
  · exact fun σ' G' H' ρ' M' e _ w' q => kk .non .non G' M' H' e .non w'.toWd0 q
  · exact fun v d G' M' H' e r' w' q => kk v d G' M' H' e r' w'.toWd0 q
  · exact fun σ' G' H' ρ' M' e _ w' q => q
  · exact fun σ' G' H' ρ' M' e _ w' q => q
theorem m_supA {x m qual name b : Str} {st : Stmt} {N ps ps2 : List Str} {k : Nat} {S S2 : DS} {e : Expr} {es : List Expr} {rest : List Stmt} {p0 p1 p2 p3 p4 : Pos} {ar : Arg} {ta : TA} {t : TS} (T : MTp P K mg x m qual st ps name b) (Sc : NScope N ps ["__class__"] (defScope st))
    (hb : defBody st = .Expr (.Call (.Attribute (.Call (.Name "super" p0) [] [] p1) name p2) (e :: es) [] p3) p4 :: rest) (hN : ps.length + 1 ≤ N.length) (hks : (defScope st).names.lookup ("super" : Str) = some .globalImplicit)
    (hpar : ((defArgs st).posonlyargs ++ (defArgs st).args).head? = some ar) (hp0 : ps[0]? = some ar.arg) (hsup : mg "super" = none) (hn : (name == ("__class__" : Str)) = false) (len : ∀ ds M R, S ds M R → ds.length = ps.length) (G2 : GMt P w K mg base k b name ps2 S2)
    (hbody : ∀ (f c cc : Addr) (A : Around) (outer : List Env) (s : Shared) (H : Hp) (E : XK), Room k (A.deeper (envF (supNF m qual (defArgs st) (.Expr (.Call (.Attribute (.Call (.Name "super" p0) [] [] p1) name p2) (e :: es) [] p3) p4 :: rest) (defScope st) cc c) f s.heap.objs.size)) →
      SupW (supX P w K mg base N m qual (defArgs st) (.Expr (.Call (.Attribute (.Call (.Name "super" p0) [] [] p1) name p2) (e :: es) [] p3) p4 :: rest) (defScope st) f c cc A outer s H E) name p0 p1 p2 p3 (e :: es) ∧
      PA (supX P w K mg base N m qual (defArgs st) (.Expr (.Call (.Attribute (.Call (.Name "super" p0) [] [] p1) name p2) (e :: es) [] p3) p4 :: rest) (defScope st) f c cc A outer s H E) (e :: es) ta ∧
      starEach (e :: es) (supX P w K mg base N m qual (defArgs st) (.Expr (.Call (.Attribute (.Call (.Name "super" p0) [] [] p1) name p2) (e :: es) [] p3) p4 :: rest) (defScope st) f c cc A outer s H E).env = (false, eval e (supX P w K mg base N m qual (defArgs st) (.Expr (.Call (.Attribute (.Call (.Name "super" p0) [] [] p1) name p2) (e :: es) [] p3) p4 :: rest) (defScope st) f c cc A outer s H E).env) :: starEach es (supX P w K mg base N m qual (defArgs st) (.Expr (.Call (.Attribute (.Call (.Name "super" p0) [] [] p1) name p2) (e :: es) [] p3) p4 :: rest) (defScope st) f c cc A outer s H E).env ∧
      (backTo p3 (starEach es (supX P w K mg base N m qual (defArgs st) (.Expr (.Call (.Attribute (.Call (.Name "super" p0) [] [] p1) name p2) (e :: es) [] p3) p4 :: rest) (defScope st) f c cc A outer s H E).env)).any (·.1) = false ∧
      PSs (supX P w K mg base N m qual (defArgs st) (.Expr (.Call (.Attribute (.Call (.Name "super" p0) [] [] p1) name p2) (e :: es) [] p3) p4 :: rest) (defScope st) f c cc A outer s H E) rest t)
    (htell : ∀ ds M R, S ds M R → Xs0 K (tSeq (tDrop (tSup (clsA mg x) (spOf K S2) ta)) t) { nx := fun _ M' => R .non M', rt := R } (startD N ds) M) : GMt P w K mg base (k + 1) x m ps S := by
  obtain ⟨f, c, cc, f2, oc, dV, kV, doc, pm, ct, od, an, osl, lk, U, hM, hB, fb⟩ := T.ex
  obtain ⟨f3, F3, fb3, _⟩ := G2.fnR
  rw [fb] at fb3
  cases fb3
  refine ⟨f, _, ?_, hM, hB⟩
  rw [hb] at lk ⊢
  refine supA_fn (ta := ta) U lk Sc hks hpar hp0 hsup hn (fun vs H Q E h => ?_) F3 fun A outer s H E hr => ?_
  · obtain ⟨G, M, ds, R, r, _, hs, _⟩ := h
    rw [r.length]
    exact len ds M R hs
  · obtain ⟨q1, q2, q3, q4, q5⟩ := hbody f c cc A outer s H E hr
    exact ⟨q1, q2, q3, q4, t, q5, fun vs Q h => sup_start hN len htell h⟩
theorem m_supB {x m qual name b : Str} {st : Stmt} {N ps ps2 : List Str} {k : Nat} {S S2 : DS} {re : Expr} {p0 p1 p2 p3 bp rp : Pos} {ar : Arg} {r2 : R2} {te : TE} (T : MTp P K mg x m qual st ps name b) (Sc : NScope N ps ["__class__"] (defScope st))
    (hb : defBody st = [.Return (some (.BinOp (.Call (.Attribute (.Call (.Name "super" p0) [] [] p1) name p2) [] [] p3) .Add re bp)) rp]) (hN : ps.length + 1 ≤ N.length) (hks : (defScope st).names.lookup ("super" : Str) = some .globalImplicit)
    (hpar : ((defArgs st).posonlyargs ++ (defArgs st).args).head? = some ar) (hp0 : ps[0]? = some ar.arg) (hsup : mg "super" = none) (hn : (name == ("__class__" : Str)) = false) (len : ∀ ds M R, S ds M R → ds.length = ps.length) (G2 : GMt P w K mg base k b name ps2 S2)
    (hbody : ∀ (f c cc : Addr) (A : Around) (outer : List Env) (s : Shared) (H : Hp) (E : XK), Room k (A.deeper (envF (supNF m qual (defArgs st) [.Return (some (.BinOp (.Call (.Attribute (.Call (.Name "super" p0) [] [] p1) name p2) [] [] p3) .Add re bp)) rp] (defScope st) cc c) f s.heap.objs.size)) →
      SupW (supX P w K mg base N m qual (defArgs st) [.Return (some (.BinOp (.Call (.Attribute (.Call (.Name "super" p0) [] [] p1) name p2) [] [] p3) .Add re bp)) rp] (defScope st) f c cc A outer s H E) name p0 p1 p2 p3 [] ∧
      PE (supX P w K mg base N m qual (defArgs st) [.Return (some (.BinOp (.Call (.Attribute (.Call (.Name "super" p0) [] [] p1) name p2) [] [] p3) .Add re bp)) rp] (defScope st) f c cc A outer s H E) re te ∧
      OpR (supX P w K mg base N m qual (defArgs st) [.Return (some (.BinOp (.Call (.Attribute (.Call (.Name "super" p0) [] [] p1) name p2) [] [] p3) .Add re bp)) rp] (defScope st) f c cc A outer s H E) (binaryOp .Add) r2)
    (htell : ∀ ds M R, S ds M R → Xs0 K (tRet (tOp r2 (tSup (clsA mg x) (spOf K S2) tNil) te)) { nx := fun _ M' => R .non M', rt := R } (startD N ds) M) : GMt P w K mg base (k + 1) x m ps S := by
  obtain ⟨f, c, cc, f2, oc, dV, kV, doc, pm, ct, od, an, osl, lk, U, hM, hB, fb⟩ := T.ex
  obtain ⟨f3, F3, fb3, _⟩ := G2.fnR
  rw [fb] at fb3
  cases fb3
  refine ⟨f, _, ?_, hM, hB⟩
  rw [hb] at lk ⊢
  refine supB_fn (te := te) (r2 := r2) U lk Sc hks hpar hp0 hsup hn (fun vs H Q E h => ?_) F3 fun A outer s H E hr => ?_
  · obtain ⟨G, M, ds, R, r, _, hs, _⟩ := h
    rw [r.length]
    exact len ds M R hs
  · obtain ⟨q1, q2, q3⟩ := hbody f c cc A outer s H E hr
    exact ⟨q1, q2, q3, fun vs Q h => sup_start hN len htell h⟩
end
section
variable {K : PySem.W.Frag} [Bs K] {ρ : Rho} {M : Mm} {R : RD}
theorem xe_sup {C : Addr} {S2 : DS} {ta : TA} {x : D} (h0 : ρ[0]? = some (some x)) (hx : IsC C x M) (h : Xa K ta ρ M fun ds M1 => S2 (x :: ds) M1 R) : Xe K (tSup C (spOf K S2) ta) ρ M R := by
  intro σ G H Q s w k
  obtain ⟨v, h1, h2⟩ := s.at_ 0 _ h0
  obtain ⟨a, dx, xs, rfl, ha⟩ := hx.at h2 w
  refine ⟨a, dx, xs, h1, ha, ?_⟩
  refine h σ G H _ s w fun vs ds G1 M1 H1 e1 rs w1 q => ?_
  exact ⟨G1, M1, x :: ds, R, .cons (h2.up e1) rs, w1.toWd0, q, sp_back w1.bs k e1⟩
end
/-! ### bool(x), x of an own class -/
def cBoolC (C : Addr) (sp : Sp) : List V → Hp → VK → Prop := fun xs H Q => ∃ a dx fs, xs = [V.ref a] ∧ H a = some (.ins C dx fs) ∧ sp [.ref a] H (fun v H' => ∃ b, v = .bl b ∧ Q (.bl b) H') L2.E0
theorem c_boolC {X : Cx} {K : PySem.W.Frag} {mg : Str → Option Value} {k : Nat} {x : Str} {ps : List Str} {S : DS} (G : GMt X.prog X.w K mg X.base k x "__bool__" ps S) (hr : Room (k + 2) X.A) (h : X.K = K := by rfl) (hmg : X.mg = mg := by rfl) : CallR X (.type "bool") (cBoolC (clsA mg x) (spOf K S)) := by
  subst h
  subst hmg
  obtain ⟨f, h1, h2, h3⟩ := G.fnR
  intro pins s σ H xs us Q I r h
  obtain ⟨a, dx, fs, rfl, ha, h⟩ := h
  cases r with
  | cons r1 r2 =>
    cases r2
    cases r1
    obtain ⟨od, J⟩ := ins_at I ha
    obtain ⟨m, hF⟩ := I.fr
    refine call_bool_own ?_
    refine PySem.W.truthy_K hF I.ok.mod.kin J h2 h3 (wpAny_mono (wpAny_call (SlX.run_at (us := [.ref a]) (ws := [.ref a]) h1 hr.in1.in1 I.env0.in1.in1 pass0 I (.cons rfl .nil) h)) (fun v s' z => ?_) fun _ _ z => z)
    obtain ⟨v', H', I', rv, b, rfl, hq⟩ := z
    cases (show v = Value.bool b from rv)
    exact ⟨.bl b, H', I', rfl, hq⟩
section
variable {K : PySem.W.Frag} [Bs K] {ρ : Rho} {M : Mm} {R : RD}
theorem xc_boolC {C : Addr} {S : DS} {x : D} (hx : IsC C x M) (h : S [x] M fun d M' => ∃ b, d = .bl b ∧ R (.bl b) M') : Xc K (cBoolC C (spOf K S)) [x] M R := by
  intro vs G H Q r w k
  cases r with
  | cons r1 r2 =>
    cases r2
    obtain ⟨a, dx, xs, rfl, h1⟩ := hx.at r1 w
    refine ⟨a, dx, xs, rfl, h1, G, M, [x], _, .cons r1 .nil, w.toWd0, h, ?_⟩
    intro v d G' M' H' e rv w' hq
    obtain ⟨b, rfl, hq⟩ := hq
    cases rv
    exact ⟨b, rfl, k (.bl b) (.bl b) G' M' H' e (.bl b) ⟨w', w.bs.trans e⟩ hq⟩
/-- isinstance of own classes: what the order of classes says -/
structure KitO (K : PySem.W.Frag) (mg : Str → Option Value) (x y : Str) (b : Bool) : Prop where
  kit : PySem.W.kitOne K (.ref (clsA mg x)) (.ref (clsA mg y)) = some b
theorem KitO.mk' {mg : Str → Option Value} {h : Heap} (X : K.In h) (G : h.Ns mainGlobals mg) {x y : Str} {C D : Addr} {b : Bool} (a : PySem.W.nsIn K mainGlobals x = some (some (.ref C))) (a2 : PySem.W.nsIn K mainGlobals y = some (some (.ref D)))
    (kt : PySem.W.kitOne K (.ref C) (.ref D) = some b) : KitO K mg x y b := by
  have e1 := clsA_of (PySem.W.mg_of X G a)
  have e2 := clsA_of (PySem.W.mg_of X G a2)
  exact ⟨by rw [e1, e2]; exact kt⟩
theorem xc_isiO {mg : Str → Option Value} {n y : Str} {b : Bool} {x : D} (c : CK K mg n) (i : IsK K mg n) (kt : KitO K mg n y b) (hx : IsC (clsA mg n) x M) (r : R (.bl b) M) : Xc K (rIsi K) [x, .ref (clsA mg y)] M R := by
  intro vs G H Q rs w k
  cases rs with
  | cons r1 rs =>
    cases rs with
    | cons r2 rs =>
      cases rs
      cases r2
      obtain ⟨a, dx, xs, rfl, h1⟩ := hx.at r1 w
      exact ⟨.ref a, .ref (clsA mg y), _, _, b, rfl, .own _, .base (.ins h1 c.cls i.ca i.cn i.ct i.ob), kt.kit, k _ _ G M H (Ex.refl G) (.bl _) w r⟩
end
end XD

/-! XE28: an exception that leaves a comprehension: the block's dict C is let go, the exception flies on in the def's own frame. -/
namespace XX
open PySem PySem.Spec PyProof.Rows L2
section
variable {P : Program} {w : World} {l : List Env} {H : Hp} {s : Shared} {E : XK} {u : Value} {s' : Shared} {C : Addr}
abbrev hid (h : Heap) (C : Addr) : Heap := PySem.W.hideAll h [C]
theorem hid_of {h : Heap} {C b : Addr} {o : Obj} (e : (hid h C).get? b = some o) : h.get? b = some o ∧ b ≠ C := by
  refine ⟨PySem.W.of_hideAll _ e, fun z => ?_⟩
  rw [z, PySem.W.hideAll_none [C] (List.mem_singleton.mpr rfl)] at e
  cases e
theorem hid_get {h : Heap} {C b : Addr} {o : Obj} (e : h.get? b = some o) (n : b ≠ C) : (hid h C).get? b = some o := PySem.W.hideAll_get _ e (by simpa using n)
theorem hid_none {h : Heap} {C b : Addr} (e : h.get? b = none) : (hid h C).get? b = none := by
  cases q : (hid h C).get? b with
  | none => rfl
  | some o => rw [(hid_of q).1] at e; cases e
/-- the ground of a call's exception may go without C -/
theorem cx_hide (c : CX P w l H s E u s') (hC : H C = none) (hs : ∃ o, s.heap.get? C = some o) (hf : C ∉ frs l) :
    ∃ (a : Addr) (B : Heap) (H' : Hp) (cls : Value) (d : Option Addr), u = .ref a ∧ HandSPX.FlyingZ B l a (Zc cls d) s'.heap ∧ HOk P w H' B ∧ UB (frs l) H H' (hid s.heap C) B s'.heap ∧ H' a = none ∧ s'.os = s.os ∧ AllBare s'.gens ∧ E cls d H' ∧ B.get? C = none ∧ a ≠ C := by
  obtain ⟨a, B, H', cls, d, rfl, ⟨f1, f2, f3, f4⟩, hok, ub, na, os, ag, hE⟩ := c
  obtain ⟨oC, hoC⟩ := hs
  have hC' : H' C = none := ub.free C oC hoC hC
  refine ⟨a, hid B C, H', cls, d, rfl, ⟨fun b o e => f1 b o (hid_of e).1, hid_none f2, funFrames_none f3 fun L hL => ?_, ?_⟩, fun b o q => ?_, ⟨fun b o e n hb => ?_, fun b o e hb => ?_, fun b o e n => ?_, fun b o e hb => ?_, ub.tups, ub.frzs, ub.tbls⟩, na, os, ag, hE, ?_, fun z => ?_⟩
  · obtain ⟨h1, _⟩ := f3.mem hL
    exact hid_none h1
  · obtain ⟨oe, vs, T, oT, ts, he, hz, hd, h1, hnT, hTe, hT, hdT, h3⟩ := f4
    exact ⟨oe, vs, T, oT, ts, he, hz, hd, h1, hid_none hnT, hTe, hT, hdT, h3⟩
  · refine (hok b o q).stay (fun c v hc r => hid_get r fun z => ?_) (fun _ r => r) fun _ _ r => r
    subst z
    rcases hc with hc | hc
    · rw [hc, q] at hC'; cases hC'
    · rw [hc] at hC'; cases hC'
  · obtain ⟨e1, e2⟩ := hid_of e
    exact hid_get (ub.keep b o e1 n hb) e2
  · exact ub.slot b o (hid_of e).1 hb
  · exact ub.free b o (hid_of e).1 n
  · obtain ⟨e1, e2⟩ := hid_of e
    obtain ⟨o', q⟩ := ub.there b o e1 hb
    exact ⟨o', hid_get q e2⟩
  · cases q : (hid B C).get? C with
    | none => rfl
    | some o => exact absurd rfl (hid_of q).2
  · rw [z, ub.keep C oC hoC hC hf] at f2
    cases f2
end
section
variable {X : Cx} {pins : List (Addr × Obj)} {σ : L2.St} {H : Hp} {s s' : Shared} {E : XK} {W : WX} {u : Value} {C : Addr}
/-- in the air of X, and the ground has no C -/
def XEc (X : Cx) (W : WX) (C : Addr) (held : Bool) (u : Value) (s' : Shared) : Prop :=
  ∃ (a : Addr) (B : Heap) (sI : Shared) (pins : List (Addr × Obj)) (σ : L2.St) (H : Hp) (cls : Value) (d : Option Addr),
    u = .ref a ∧ Inv X pins σ H sI ∧ (∀ b o, sI.heap.get? b = some o → b ∉ frs X.stack → B.get? b = some o) ∧ sI.heap.UpToSlots s'.heap ∧
      (if held then HandSPX.HeldZ B X.stack a (Zc cls d) X.env.locals s'.heap else HandSPX.FlyingZ B X.stack a (Zc cls d) s'.heap) ∧ H a = none ∧ s'.os = sI.os ∧ AllBare s'.gens ∧ W cls d σ H ∧
      B.get? C = none ∧ sI.heap.get? C = none ∧ a ≠ C ∧ C ∉ frs X.stack
theorem XEc.xe (h : XEc X W C true u s') : XE X W u s' := by
  obtain ⟨a, B, sI, pins, σ, H, cls, d, e1, e2, e3, e4, e5, e6, e7, e8, e9, _⟩ := h
  exact ⟨a, B, sI, pins, σ, H, cls, d, e1, e2, e3, e4, .inr (.inr e5), e6, e7, e8, e9⟩
theorem XEc.of_call (I : Inv X pins σ H s) (hW : ∀ cls d H', E cls d H' → W cls d σ H') (f : FpOk X pins H C) (hs : ∃ o, s.heap.get? C = some o) (hf : C ∉ frs X.stack) (c : CX X.prog X.w X.stack H s E u s') : XEc X W C false u s' := by
  have I2 : Inv X pins σ H { s with heap := hid s.heap C } := by
    obtain ⟨g0, g1, g2, g3, g4, g5⟩ := f
    exact I.turned (t' := s.toks) (fun b o hb e => hid_get e hb) g0 g1 g3 g4 g5
  obtain ⟨a, B, H', cls, d, rfl, fl, hok, ub, na, os, ag, hE, hBC, haC⟩ := cx_hide c f.1 hs hf
  obtain ⟨G, g1, g2⟩ := restrict s'.heap fun b => (B.get? b).isSome || decide (b ∈ frs X.stack)
  have st : B.StaysIn s'.heap := fl.1
  have gB : ∀ b o, B.get? b = some o → G.get? b = some o := fun b o e => by
    rw [g1 b (by simp [e])]
    exact st b o e
  have gF : ∀ b, b ∈ frs X.stack → G.get? b = s'.heap.get? b := fun b hb => g1 b (by simp [hb])
  have og : ∀ b o, G.get? b = some o → s'.heap.get? b = some o ∧ ((B.get? b).isSome = true ∨ b ∈ frs X.stack) := fun b o e => by
    cases q : ((B.get? b).isSome || decide (b ∈ frs X.stack)) with
    | false => rw [g2 b q] at e; cases e
    | true =>
      rw [g1 b q] at e
      exact ⟨e, by simpa [Bool.or_eq_true] using q⟩
  refine ⟨a, B, { s with heap := G, gens := s'.gens, drawn := s'.drawn, toks := s'.toks }, pins, σ, H', cls, d, rfl, ?_, fun b o e hb => ?_, Heap.UpToSlots.of_keeps fun b o e => (og b o e).1, fl, na, os, ag, hW _ _ _ hE, hBC, g2 C (by simp [hBC, hf]), haC, hf⟩
  · show Inv X pins σ H' { ({ s with heap := hid s.heap C } : Shared) with heap := G, gens := s'.gens, drawn := s'.drawn, toks := s'.toks }
    refine I2.call (ch := []) ⟨fun b o e n hb _ => gB b o (ub.keep b o e n hb), fun b o e n hb _ => ?_, fun b o e n _ => ub.free b o e n, fun b o e _ => ?_, ub.tups, ub.frzs, ub.tbls⟩ (hok.kept gB) ag (fun _ z => nomatch z)
    · obtain ⟨sl, q⟩ := ub.slot b o e hb
      exact ⟨sl, by rw [gF b hb]; exact q⟩
    · by_cases hb : b ∈ frs X.stack
      · obtain ⟨sl, q⟩ := ub.slot b o e hb
        exact ⟨_, by rw [gF b hb]; exact q⟩
      · obtain ⟨o', q⟩ := ub.there b o e hb
        exact ⟨o', gB b o' q⟩
  · obtain ⟨e', h⟩ := og b o e
    rcases h with h | h
    · obtain ⟨o', q⟩ := Option.isSome_iff_exists.mp h
      have z := st b o' q
      rw [e'] at z; cases z
      exact q
    · exact absurd h hb
/-- noted in the def's own frame -/
theorem XEc.note (hs : X.stack = X.env :: X.outer) (hf : X.env.frame = some X.env.locals) {E1 : Value → Shared → Prop} {Q : Unit → Shared → Prop} (x : XEc X W C false u s') (h : ∀ s2, XEc X W C true u s2 → s'.heap.UpToSlots s2.heap → Q () s2) :
    wpAny (model X.prog X.w) X.A (noteFrame u X.env) Q E1 s' := by
  obtain ⟨a, B, sI, pins, σ, H, cls, d, rfl, I, e3, e4, fl, e6, e7, e8, e9, e10, e11, e12, e13⟩ := x
  have hfr : X.A.frames = some (X.env :: X.outer) := by rw [I.ok.frames, hs]
  have fl : HandSPX.FlyingZ B (X.env :: X.outer) a (Zc cls d) s'.heap := hs ▸ fl
  refine HandSPX.looks_onZ Zc.steady hfr hf fl fun h' hh up => h _ ⟨a, B, sI, pins, σ, H, cls, d, rfl, I, e3, e4.trans up, ?_, e6, e7, e8, e9, e10, e11, e12, e13⟩ up
  show HandSPX.HeldZ B X.stack a (Zc cls d) X.env.locals h'
  rw [hs]
  exact hh
theorem funFrames_drop {B h h' : Heap} {C : Addr} (k : ∀ b o, b ≠ C → h.get? b = some o → h'.get? b = some o) : ∀ {l : List Env}, h.FunFrames B l → C ∉ frs l → h'.FunFrames B l
  | [], _, _ => trivial
  | env :: l, h0, hn => by
    obtain ⟨hk, ⟨L, o, hf, hb, ho, hd⟩, hr⟩ := h0
    refine ⟨hk, ⟨L, o, hf, hb, k L o (fun z => hn ?_) ho, hd⟩, funFrames_drop k hr fun z => hn ?_⟩
    · exact List.mem_filterMap.mpr ⟨env, List.mem_cons_self, by rw [← z]; exact hf⟩
    · obtain ⟨e, he, q⟩ := List.mem_filterMap.mp z
      exact List.mem_filterMap.mpr ⟨e, List.mem_cons_of_mem _ he, q⟩
/-- C is let go -/
theorem XEc.drop {h' : Heap} (x : XEc X W C true u s') (hn : ∃ m, s'.heap.Ns C m) (hs : Heap.SameBut C s'.heap h') : XEc X W C true u { s' with heap := h' } := by
  obtain ⟨a, B, sI, pins, σ, H, cls, d, rfl, I, e3, e4, ⟨f1, f2, f3, f4⟩, e6, e7, e8, e9, e10, e11, e12, e13⟩ := x
  have keep : ∀ b o, b ≠ C → s'.heap.get? b = some o → h'.get? b = some o := fun b o hb e => (hs.2 b hb).trans e
  have nC : ∀ {b : Addr} {o : Obj}, B.get? b = some o → b ≠ C := fun e z => by rw [z, e10] at e; cases e
  refine ⟨a, B, sI, pins, σ, H, cls, d, rfl, I, e3, fun b o e hd => ?_, ⟨fun b o e => keep b o (nC e) (f1 b o e), f2, ?_, ?_⟩, e6, e7, e8, e9, e10, e11, e12, e13⟩
  · obtain ⟨sl, q⟩ := e4 b o e hd
    exact ⟨sl, keep b _ (fun z => by rw [z, e11] at e; cases e) q⟩
  · exact funFrames_drop keep f3 e13
  · obtain ⟨oe, vs, T, oT, ts, he, hz, hd, h1, hnT, hTe, hT, hdT, h3⟩ := f4
    refine ⟨oe, vs, T, oT, ts, keep _ _ e12 he, hz, hd, h1, hnT, hTe, keep _ _ (fun z => ?_) hT, hdT, h3⟩
    obtain ⟨m, o, es, ep, ho, hdo, _⟩ := hn
    rw [z, ho] at hT
    cases hT
    rw [hdo] at hdT
    cases hdT
/-- the flight set to the def's own frame: it goes on -/
theorem XEc.pass (hf : X.env.frame = some X.env.locals) {ce : Env} (hce : ce.frame = X.env.frame) {what : String} {E1 : Value → Shared → Prop} (x : XEc X W C true u s') (h : ∀ s2, XEc X W C true u s2 → E1 u s2) :
    wpAny (model X.prog X.w) X.A (PySem.passOn what u ce : Sem Value) (fun _ _ => False) E1 s' := by
  obtain ⟨a, B, sI, pins, σ, H, cls, d, rfl, I, e3, e4, hh, e6, e7, e8, e9, e10, e11, e12, e13⟩ := x
  have hh0 : HandSPX.HeldZ B X.stack a (Zc cls d) X.env.locals s'.heap := hh
  obtain ⟨f1, f2, f3, oe, vs, T, oT, ts, he, hz, hd, h1, hnT, hTe, hT, hdT, h3⟩ := hh0
  unfold PySem.passOn
  refine wpAny_bind (wpAny_field he hd h1 ?_)
  rw [if_neg (show ¬ ((Value.ref T == Value.none) = true) from by simp)]
  rw [hce, hf]
  refine wpAny_bind (HandSPX.setFlight_onZ hh fun h' hh' up => ?_)
  refine wpAny_throw (h _ ⟨a, B, sI, pins, σ, H, cls, d, rfl, I, e3, e4.trans up, hh', e6, e7, e8, e9, e10, e11, e12, e13⟩)
theorem ns_slots {h h' : Heap} {C : Addr} (hn : ∃ m, h.Ns C m) (up : h.UpToSlots h') : ∃ m, h'.Ns C m := by
  obtain ⟨m, o, es, ep, ho, hd, r⟩ := hn
  obtain ⟨sl, q⟩ := up C o ho (fun vs z => by rw [hd] at z; cases z)
  exact ⟨m, _, es, ep, q, hd, r⟩
theorem note_frame {u : Value} {e1 e2 : Env} (h : e1.frame = e2.frame) : noteFrame u e1 = noteFrame u e2 := by
  unfold PySem.noteFrame PySem.frameOf
  rw [h]
/-- a call's exception leaves a comprehension whose dict is C -/
theorem comp_raise (I : Inv X pins σ H s) (hW : ∀ cls d H', E cls d H' → W cls d σ H') (f : FpOk X pins H C) (hn : ∃ m, s.heap.Ns C m) (hf : C ∉ frs X.stack) (hs : X.stack = X.env :: X.outer) (hfr : X.env.frame = some X.env.locals) (tk : Takes X W) {ce : Env}
    (hce : ce.frame = X.env.frame) (hcl : ce.locals = C) (c : CX X.prog X.w X.stack H s E u s') : notedBy (model X.prog X.w) X.A ce (CompFails (model X.prog X.w) X.A X.xe ce) u s' := by
  have hn' : ∃ m, s'.heap.Ns C m := by
    obtain ⟨a1, B1, H1, cls1, d1, rfl, fl1, hok1, ub1, _⟩ := c
    obtain ⟨m, o, es, ep, ho, r⟩ := hn
    exact ⟨m, o, es, ep, fl1.1 C o (ub1.keep C o ho f.1 hf), r⟩
  have hs0 : ∃ o, s.heap.get? C = some o := let ⟨m, o, es, ep, ho, _⟩ := hn; ⟨o, ho⟩
  unfold notedBy
  rw [note_frame hce]
  refine (XEc.of_call I hW f hs0 hf c).note hs hfr fun s2 x up => ?_
  obtain ⟨m, hm⟩ := ns_slots hn' up
  refine ⟨m, hcl ▸ hm, fun h' m' _ sb => ?_⟩
  exact (x.drop ⟨m, hm⟩ (hcl ▸ sb)).pass hfr hce fun s3 y => tk _ _ y.xe
end
section
variable {X : Cx}
/-- the block's context, with the wish that what leaves the block is taken by the def -/
abbrev blkE (X : Cx) (s : Shared) (H : Hp) (scope : Scope) (ce : Env) (fp : List Addr) : Cx := (X.blk s H scope ce fp).wish (notedBy (model X.prog X.w) X.A ce (CompFails (model X.prog X.w) X.A X.xe ce))
/-- [elt for target in iter], whose element may let out what E says -/
theorem lcE_core {pins : List (Addr × Obj)} {s : Shared} {σ : L2.St} {H : Hp} {Q : VK} {elt tg iter : Expr} {scope : Scope} {own : List (Str × Nat)} {pos pos2 : Pos} {wi : TI} {g : TG} {te : TE} {E : XK} {use : Option (Value → Sem Unit)} {Qf : Value → Shared → Prop} (hc : X.calm = true) (hN : X.N.Nodup) (I : Inv X pins σ H s) (hi : PI X tg iter wi) (ok : BlkOk X.N X.env.scope scope own)
    (hstk : X.stack = X.env :: X.outer) (hfr : X.env.frame = some X.env.locals) (tk : Takes X fun cls d _ H => E cls d H)
    (hg : ∀ (s : Shared) (H : Hp) (C : Addr) (cl : List (Str × Addr)) (fp : List Addr), PG (X.blk s H scope (compEnvC scope cl C X.env) fp) tg g)
    (he : ∀ (s : Shared) (H : Hp) (C : Addr) (cl : List (Str × Addr)) (fp : List Addr), Passes (L2.CX X.prog X.w) (blkE X s H scope (compEnvC scope cl C X.env) fp) E → PE (blkE X s H scope (compEnvC scope cl C X.env) fp) elt te)
    (hs : ∀ x, foldedSetIterable iter X.env x = pure x) (h : tLc wi g tYes te (own.map (·.2)) σ H Q)
    (hRR : ∀ (D C : Addr) (cl : List (Str × Addr)) (s' : Shared) (m : Str → Option Value) (H' : Hp), Inv X pins σ H' s' → Q (.ref D) H' → s'.heap.Ns C m → FpOk X pins H' C → compEnds (model X.prog X.w) X.A X.xe use Qf (.ref D) (compEnvC scope cl C X.env) (.ok .next) s') :
    wpAny (model X.prog X.w) X.A (comprehension (.ListComp elt [⟨tg, iter, [], 0⟩] scope pos) scope X.env pos2 (newList []) false (eval iter X.env) use) Qf X.xe s := by
  generalize hvs : own.map (·.2) = vs at *
  have hfree : ∀ y ∈ scope.names, y.2 = .free → ∃ c, X.env.cells.lookup y.1 = some c := fun y hy e => I.ok.has _ (ok.free y hy e)
  refine comprehension_at (use := use) rfl hs (closure_ok hfree) ok.kind (fun y hy e => by rw [ok.uniq y hy, e]) (thn (hi.run pins s σ H _ I h) fun xv s1 hx => thn hx fun itv s2 h2 => ?_)
  obtain ⟨it, fp, tn, J, H2, rfl, I2, T, st2, f2, q⟩ := h2
  refine wpAny_newObj_type (newEnv_comp ?_) (Nat.zero_le _)
  have hDn : H2 s2.heap.objs.size = none := I2.hok.fresh (Nat.le_refl _)
  obtain ⟨W, ⟨m0, w0⟩, turn⟩ := q _ hDn
  generalize hD : s2.heap.objs.size = D at hDn w0 turn ⊢
  generalize hH3 : upd H2 D (.lst []) = H3 at w0
  generalize hs3 : ({ s2 with heap := s2.heap.push { cls := .type "list", data := .seq ([] : List Value).toArray } } : Shared) = s3
  have e3 : s3.heap = s2.heap.push { cls := .type "list", data := .seq ([] : List Value).toArray } := by rw [← hs3]
  have I3 : Inv X pins σ H3 s3 := by
    subst hH3 hs3 hD
    exact I2.laid (t' := s2.toks) (fun b o e => Heap.get?_push_of_some _ e) (Nat.le_refl _) ⟨Nat.zero_le _, [], 0, .nil, Heap.get?_push_size _ rfl⟩
  have f3 : ∀ b ∈ fp, FpOk X pins H3 b ∧ b < s3.heap.objs.size := fun b hb => by
    obtain ⟨o, e, _⟩ := T.obj _ _ st2 b hb
    have hlt : b < s2.heap.objs.size := Heap.lt_size e
    refine ⟨⟨?_, (f2 b hb).2⟩, by rw [e3, Heap.size_push]; exact Nat.lt_succ_of_lt hlt⟩
    rw [← hH3, upd_ne (hD ▸ Nat.ne_of_lt hlt)]
    exact (f2 b hb).1
  have st3 : tn 0 s3.heap := T.keep _ _ _ st2 fun b _ o e => by
    rw [e3]
    exact Heap.get?_push_of_some _ e
  have I4 := block_start I3 ok hN f3
  generalize hcl : cellsFrom (s3.heap.objs.size + 1) scope.names (cloFrom X.env.cells scope.names []) = cl at I4
  show codeAny _ _ (.compStart (.ListComp elt [⟨tg, iter, [], 0⟩] scope pos) 0 (.ref it) (.ref D) (compEnvC scope cl s3.heap.objs.size X.env)) (compEnds (model X.prog X.w) X.A X.xe use Qf (.ref D) (compEnvC scope cl s3.heap.objs.size X.env)) { s3 with heap := pushCells (s3.heap.push { cls := .type "dict", data := .dict #[] }) scope.names }
  have pg := hg s3 H3 s3.heap.objs.size cl fp
  have back : ∀ {pins' : List (Addr × Obj)} {σ' : L2.St} {H' : Hp} {s' : Shared}, Inv (X.blk s3 H3 scope (compEnvC scope cl s3.heap.objs.size X.env) fp) pins' σ' H' s' → Inv X pins σ H' s' := fun I' => I3.call' (ch := fp) I'.os I'.base I'.hok I'.bare fun b hb => let z := (f3 b hb).1.2; ⟨z.2.2.1, z.1, z.2.2.2.1, z.2.2.2.2⟩
  have frC : s3.heap.objs.size ∉ frs X.stack := fun z => by
    obtain ⟨_, o, e, _⟩ := I3.stack.mem z
    exact absurd (Heap.lt_size e) (Nat.lt_irrefl _)
  have pe := he s3 H3 s3.heap.objs.size cl fp fun pins' σ' H' s5 u s6 I5 c5 => by
    have I5 := I5.unwish
    obtain ⟨m, hm, _⟩ := I5.loc
    exact comp_raise (C := s3.heap.objs.size) (W := fun cls d _ H => E cls d H) (back I5) (fun _ _ _ h => h) (I3.fpOk (Nat.le_refl _) I5.free) ⟨m, hm⟩ frC hstk hfr tk rfl rfl c5
  have nfp : ∀ b ∈ fp, H3 b = none := fun b hb => (f3 b hb).1.1
  generalize hs4 : ({ s3 with heap := pushCells (s3.heap.push { cls := .type "dict", data := .dict #[] }) scope.names } : Shared) = s4 at I4 ⊢
  have st4 : tn 0 s4.heap := T.keep _ _ _ st3 fun b _ o e => by
    rw [← hs4]
    exact pushCells_keeps _ _ _ _ (Heap.get?_push_of_some _ e)
  generalize hce : compEnvC scope cl s3.heap.objs.size X.env = ce at I4 pg pe ⊢
  have cL : ce.locals = s3.heap.objs.size := by rw [← hce]; rfl
  rw [hvs] at I4
  have fpB : ∀ {σ' : L2.St} {H' : Hp} {s' : Shared}, Inv (X.blk s3 H3 scope ce fp) [] σ' H' s' → (∀ b ∈ fp, H' b = none) → ∀ b ∈ fp, FpOk (X.blk s3 H3 scope ce fp) [] H' b := fun I' hn b hb =>
    ⟨hn b hb, (I'.ok.exf b hb).1, I'.ok.exfs b hb, .inl hb, (I'.ok.exf b hb).2, fun p hp => nomatch (show p ∈ ([] : List (Addr × Obj)) ++ [] from hp)⟩
  let Bk := X.blk s3 H3 scope ce fp
  have backC : ∀ {pins' : List (Addr × Obj)} {σ' : L2.St} {H' : Hp} {s' : Shared}, Inv Bk pins' σ' H' s' → Inv X pins σ H' s' := by
    intro pins' σ' H' s' I'
    subst hce
    exact back I'
  have loop : codeAny (model X.prog X.w) X.A (.compLoop (.ListComp elt [⟨tg, iter, [], 0⟩] scope pos) 0 (.ref it) (.ref D) ce) (compEnds (model X.prog X.w) X.A X.xe use Qf (.ref D) ce) s4 := by
    refine compLoop_any (fun n s' => ∃ (i : Nat) (H' : Hp), Inv Bk [] (wipe σ vs) H' s' ∧ tn i s'.heap ∧ (∀ b ∈ fp, H' b = none) ∧ W i n H') (fun n s5 hI => ?_) m0 ⟨0, H3, I4, st4, nfp, w0⟩
    obtain ⟨i, H5, I5, st5, n5, w5⟩ := hI
    rcases turn i n H5 w5 with ⟨stop, qq⟩ | ⟨go, Nx, hNx, step⟩
    · refine thnF (T.done Bk rfl rfl rfl hc i [] s5 _ H5 (fun _ _ => False) I5 (fpB I5 n5) st5 stop) fun r s6 hr => ?_
      obtain ⟨rfl, I6⟩ := hr
      obtain ⟨m, hn, _⟩ := I6.loc
      have hn : s6.heap.Ns ce.locals m := hn
      rw [← hce]
      exact hRR D _ cl s6 m H5 (backC I6) qq (cL ▸ hn) (I3.fpOk (Nat.le_refl _) (cL ▸ I6.free))
    · refine thnF (T.item Bk rfl rfl rfl hc i [] s5 _ H5 (fun _ _ => False) I5 (fpB I5 n5) st5 go) fun r s6 hr => ?_
      obtain ⟨u, rfl, h6⟩ := hr
      refine thnF h6 fun _ s7 h7 => ?_
      obtain ⟨x, H7, I7, r7, y7, st7, n7⟩ := h7
      have P7 := I7.pinned (fpB I7 n7) (T.obj _ _ st7)
      refine thnF (pg.run _ s7 _ H7 x u _ P7 r7 (step x H7 y7)) fun _ s8 h8 => ?_
      obtain ⟨σ8, H8, I8, hw8, q8⟩ := h8
      refine wpAny_tests_nil ?_
      have q8 : te σ8 H8 fun y H4 => ∃ acc, H4 D = some (.lst acc) ∧ acc.length < sizeLine ∧ Nx (upd H4 D (.lst (acc ++ [y]))) := q8
      simp only [if_true]
      refine thn (pe.run _ s8 σ8 H8 _ (I8.wish _) q8) fun z s10 h10 => ?_
      obtain ⟨y, H10, I10, r10, acc, hD10, hz10, nx⟩ := h10
      have I10 := I10.unwish
      refine app_ok (X := Bk) I10 hD10 hz10 r10 fun s11 I11 => ?_
      obtain ⟨m', hm, w'⟩ := hNx _ nx
      have held : ∀ b ∈ fp, ∀ o, s7.heap.get? b = some o → s11.heap.get? b = some o ∧ upd H10 D (.lst (acc ++ [y])) b = none := fun b hb o e =>
        let z := I11.pin (b, o) (List.mem_append_right _ (List.mem_append_right _ (mem_pinsAt hb e)))
        ⟨z.1, z.2.1⟩
      refine ⟨m', hm, i + 1, _, (I11.unpinned (pins := [])).weak (by rw [← hw8, wipe_length]) (fun j v e => ?_), T.keep _ _ _ st7 fun b hb o e => (held b hb o e).1, fun b hb => ?_, w'⟩
      · rw [← hw8] at e
        exact (wipe_some e).1
      · obtain ⟨o, e, _⟩ := T.obj _ _ st7 b hb
        exact (held b hb o e).2
  exact codeAny_compStart_list loop (T.self X.A 0 _ _ _ st4 loop)
section
variable {elt tg iter : Expr} {scope : Scope} {own : List (Str × Nat)} {pos : Pos} {wi : TI} {g : TG} {te : TE} {E : XK}
theorem pe_lcE (hc : X.calm = true) (hN : X.N.Nodup) (hi : PI X tg iter wi) (ok : BlkOk X.N X.env.scope scope own) (hstk : X.stack = X.env :: X.outer) (hfr : X.env.frame = some X.env.locals) (tk : Takes X fun cls d _ H => E cls d H)
    (hg : ∀ (s : Shared) (H : Hp) (C : Addr) (cl : List (Str × Addr)) (fp : List Addr), PG (X.blk s H scope (compEnvC scope cl C X.env) fp) tg g)
    (he : ∀ (s : Shared) (H : Hp) (C : Addr) (cl : List (Str × Addr)) (fp : List Addr), Passes (L2.CX X.prog X.w) (blkE X s H scope (compEnvC scope cl C X.env) fp) E → PE (blkE X s H scope (compEnvC scope cl C X.env) fp) elt te)
    (hs : ∀ x, foldedSetIterable iter X.env x = pure x := by intro _; rfl) : PE X (.ListComp elt [⟨tg, iter, [], 0⟩] scope pos) (tLc wi g tYes te (own.map (·.2))) := by
  constructor
  intro pins s σ H Q I h
  rw [eval_ListComp]
  refine lcE_core (use := none) hc hN I hi ok hstk hfr tk hg he hs h fun D C cl s' m H' I' q hn f => ?_
  obtain ⟨a0, a1, a2, a3, a4, a5⟩ := f
  exact ⟨m, hn, fun h'' sb => ⟨.ref D, H', I'.turned (t' := s'.toks) (fun b o hb e => (sb.2 b hb).trans e) a0 a1 a3 a4 a5, rfl, q⟩⟩
/-- y = [..], y a local -/
theorem ps_setLcE {i : Nat} {y : Str} {py spos : Pos} (hc : X.calm = true) (hN : X.N.Nodup) (hy : X.N[i]? = some y) (hyl : X.env.scope.names.lookup y = some .local)
    (hsw : swapsWith (.ListComp elt [⟨tg, iter, [], 0⟩] scope pos) (some (.Name y py)) spos.line X.env = pure true) (hi : PI X tg iter wi) (ok : BlkOk X.N X.env.scope scope own)
    (hstk : X.stack = X.env :: X.outer) (hfr : X.env.frame = some X.env.locals) (tk : Takes X fun cls d _ H => E cls d H)
    (hg : ∀ (s : Shared) (H : Hp) (C : Addr) (cl : List (Str × Addr)) (fp : List Addr), PG (X.blk s H scope (compEnvC scope cl C X.env) fp) tg g)
    (he : ∀ (s : Shared) (H : Hp) (C : Addr) (cl : List (Str × Addr)) (fp : List Addr), Passes (L2.CX X.prog X.w) (blkE X s H scope (compEnvC scope cl C X.env) fp) E → PE (blkE X s H scope (compEnvC scope cl C X.env) fp) elt te)
    (hs : ∀ x, foldedSetIterable iter X.env x = pure x := by intro _; rfl) : PS X (.Assign [.Name y py] (.ListComp elt [⟨tg, iter, [], 0⟩] scope pos) spos) (tAsg (tLc wi g tYes te (own.map (·.2))) (gName i)) := by
  constructor
  intro pins s σ H D I h
  have h : tLc wi g tYes te (own.map (·.2)) σ H (fun x H1 => gName i x σ H1 D.nx) := h
  rw [exec_Assign_Name_used _ _ _ _ hsw]
  refine wpAny_bind (wpAny_standAt (wpAny_bind ?_))
  show wpAny _ X.A (comprehension (.ListComp elt [⟨tg, iter, [], 0⟩] scope pos) scope X.env (firstIterPos [⟨tg, iter, [], 0⟩] pos) (newList []) false (eval iter X.env) (some (assign (.Name y py) X.env)) >>= fun _ => _) _ _ s
  refine wpAny_bind (thn (lcE_core (Qf := fun _ s' => SP X pins D .next s') hc hN I hi ok hstk hfr tk hg he hs h fun L C cl s' m H' I' q hn f => ?_) fun _ s' hq => wpAny_pure (wpAny_pure hq))
  obtain ⟨a0, a1, a2, a3, a4, a5⟩ := f
  show wpAny _ _ (assign (.Name y py) X.env (.ref L)) _ _ _
  refine wpAny_assign_Name (store_ok2 (v := V.ref L) I' hN hy (.inl hyl) rfl (fun s2 I2 hz => ?_) (.inr hyl))
  obtain ⟨a, sb, ha⟩ := hz
  have ne : C ≠ a := ha.elim (fun z => z ▸ a1) fun z e => a4 y a z e.symm
  refine ⟨m, hn.sameBut sb ne, fun h3 sb3 => ⟨_, H', ?_, q⟩⟩
  exact I2.turned (t' := s2.toks) (fun b o hb e => (sb3.2 b hb).trans e) a0 a1 a3 a4 a5
end
end
end XX

/-! XE29: a static method that may raise. -/
namespace XD
open PySem PySem.Spec PyProof.Rows L2 XX
structure GSmx (P : Program) (w : World) (K : PySem.W.Frag) (mg : Str → Option Value) (base : Heap) (k : Nat) (x m : Str) (ps : List Str) (S : DX) : Prop where
  ex : ∃ f fd mc p rest, FnOk P w K mg base (L2.CX P w) k f fd ps (spX K S) ∧ ClX.CRead K (clsA mg x) mc ∧ PySem.W.findCls K (.ref (clsA mg x)) mc m = some (.get (.builtin "staticmethod.__get__") (.ref p) .none (.ref (clsA mg x))) ∧
    PySem.W.recIn K p "staticmethod" = some (.ref f :: rest) ∧ PySem.W.keepIn K (.ref f) = true ∧ Binds K fd ps []
theorem GSmx.mono {P : Program} {w : World} {K : PySem.W.Frag} {mg : Str → Option Value} {base : Heap} {j k : Nat} {x m : Str} {ps : List Str} {S : DX} (h : GSmx P w K mg base j x m ps S) (hk : j ≤ k) : GSmx P w K mg base k x m ps S := by
  obtain ⟨f, fd, mc, p, rest, h1, h2⟩ := h.ex
  exact ⟨f, fd, mc, p, rest, h1.mono hk, h2⟩
theorem smx_ok {P : Program} {w : World} {K : PySem.W.Frag} {mg : Str → Option Value} {base : Heap} {x m qual : Str} {st : Stmt} {N ps : List Str} {k : Nat} {S : DX} (T : SM K mg x m qual st ps) (Sc : FnScope N ps (defScope st)) (len : ∀ ds M R Z, S ds M R Z → ds.length = ps.length)
    (hbody : ∀ (f : Addr) (cdv : Value) (A : Around) (outer : List Env) (s : Shared) (H : Hp) (E : XK), Room k (A.deeper (PyProof.Rows.envOfC qual (defScope st) s.heap.objs.size f cdv)) →
      ∃ t, PSs (cxOf (L2.CX P w) P w K mg base N qual (defScope st) f cdv A outer s H E) (defBody st) t ∧ BodyX K S N E t) : GSmx P w K mg base (k + 1) x m ps S := by
  obtain ⟨f, fd, mc, p, rest, F, h⟩ := T.ex
  exact ⟨f, fd, mc, p, rest, fnx_ok F Sc len (hbody f), h⟩
theorem pe_smX {X : Cx} {K : PySem.W.Frag} {mg : Str → Option Value} {k : Nat} {x m : Str} {ps : List Str} {S : DX} {E : XK} {e : Expr} {es : List Expr} {t : TA} {p0 apos pos : Pos} {pl : Sem Bool} (c : CK K mg x) (Gm : GSmx X.prog X.w K mg X.base k x m ps S) (hr : Room k X.A) (ha : PA X (e :: es) t)
    (hx : Passes (L2.CX X.prog X.w) X E := by exact passes_call (takes_of rfl rfl rfl rfl) fun _ _ _ _ h => h) (h : X.K = K := by rfl) (hmg : X.mg = mg := by rfl) (hg : Gl X x := by rfl) (hdb : (x == ("__debug__" : Str)) = false := by decide)
    (hst : starEach (e :: es) X.env = (false, eval e X.env) :: starEach es X.env := by rfl) (hpl : (backTo pos (starEach es X.env)).any (·.1) = false := by rfl)
    (ht : eval (.Call (.Attribute (.Name x p0) m apos) (e :: es) [] pos) X.env = (do let ov ← eval (.Name x p0) X.env; standAt apos.atName; let (f, first) ← holding [ov] (getMethod ov m pl); callWith pos f first (backTo pos (starEach (e :: es) X.env)) (backToKw pos (keywordEach [] X.env))) := by rfl) :
    PE X (.Call (.Attribute (.Name x p0) m apos) (e :: es) [] pos) (tCall (spX K S) [] E t) := by
  subst h
  subst hmg
  obtain ⟨f, fd, mc, p, rest, h1, rd, at_, rc, kp, bd⟩ := Gm.ex
  have he : PE X (.Name x p0) (tC (.ref (clsA X.mg x))) := pe_glob hg c.at_ rfl hdb
  refine ⟨fun pins s σ H Q I hq => ?_⟩
  refine PySem.W.methodCall_KW (pl := pl) (thn (he.run pins s σ H (fun v H' => v = .ref (clsA X.mg x) ∧ t σ H' fun vs H1 => spX X.K S (vs ++ []) H1 Q E) I ⟨rfl, hq⟩) fun u s1 hz => ?_) ht
  obtain ⟨v, H1, I1, rv, rfl, q⟩ := hz
  cases (show u = Value.ref (clsA X.mg x) from rv)
  refine PySem.W.method_cls I1.kIn rd.ga ?_
  refine PySem.W.cls_bind I1.kIn rd.rd at_ ?_
  refine wpAny_call (PySem.W.sm_get (s := { s1 with toks := s1.toks + 1 }) I1.kIn rc (PySem.W.handed_on rfl ?_))
  have I2 : Inv X pins σ H1 { s1 with toks := s1.toks + 1 } := I1.tok (s1.toks + 1)
  refine PySem.W.callWith_K (h₀ := X.base) I.ok.mod.kin kp (thn (ha.run pos pins _ σ H1 _ I2 q) fun us s3 hy => ?_) hst hpl
  obtain ⟨vs, H3, I3, r, q3⟩ := hy
  exact ⟨I3.kIn, run_fn h1 hr bd .nil hx I3 r q3⟩
end XD

/-! XE30: a static method called by keywords alone. -/
namespace XD
open PySem PySem.Spec PyProof.Rows L2 XX
structure SMk (K : PySem.W.Frag) (mg : Str → Option Value) (x m qual : Str) (st : Stmt) (ps : List Str) : Prop where
  ex : ∃ f fd mc p rest, Fun K m qual st f fd ∧ ClX.CRead K (clsA mg x) mc ∧ PySem.W.findCls K (.ref (clsA mg x)) mc m = some (.get (.builtin "staticmethod.__get__") (.ref p) .none (.ref (clsA mg x))) ∧
    PySem.W.recIn K p "staticmethod" = some (.ref f :: rest) ∧ PySem.W.keepIn K (.ref f) = true ∧ Binds K fd ps [] ∧ KBn K fd ps 0 ps (fun us ws => us ++ ws) (fun vs zs => vs ++ zs)
theorem SMk.mk' {K : PySem.W.Frag} [Bs K] {mg : Str → Option Value} {h : Heap} (X : K.In h) (G : h.Ns mainGlobals mg) {x m qual : Str} {st : Stmt} {ps : List Str} {C f p : Addr} {rest : List Value} {mc oc : Value} {od an : Option Addr} {osl : Array (Option Value)} {kV doc pm cdv ct : Value}
    (a : PySem.W.nsIn K mainGlobals x = some (some (.ref C))) (rd : PySem.W.readsIn K C mc = true) (ga : PySem.W.specialIn K (.ref C) "__getattribute__" = some (some (.builtin "type.__getattribute__")))
    (at_ : PySem.W.findCls K (.ref C) mc m = some (.get (.builtin "staticmethod.__get__") (.ref p) .none (.ref C))) (rc : PySem.W.recIn K p "staticmethod" = some (.ref f :: rest))
    (l : K.lookup f = some ⟨oc, od, .func (PySem.W.fnOf m qual (defArgs st) (defBody st) (defScope st) .none kV doc pm an cdv ct), osl⟩) (c : PySem.W.codeIn K cdv qual = true) (k : PySem.W.keepIn K (.ref f) = true)
    (hb : ∀ (kV doc pm : Value) (an : Option Addr) (cdv ct : Value) (us : List Value), us.length = ps.length → bindArgs (PySem.W.fnOf m qual (defArgs st) (defBody st) (defScope st) .none kV doc pm an cdv ct) ⟨us, []⟩ = pure (ps.zip us))
    (hb1 : ∀ (kV doc pm : Value) (an : Option Addr) (cdv ct : Value) (ws : List Value), ws.length = ps.length → bindArgs (PySem.W.fnOf m qual (defArgs st) (defBody st) (defScope st) .none kV doc pm an cdv ct) ⟨[], ps.zip ws⟩ = pure (ps.zip ws)) : SMk K mg x m qual st ps := by
  have e2 := clsA_of (PySem.W.mg_of X G a)
  have F := fun_mk (st := st) l c k
  refine ⟨f, _, mc, p, rest, F, by rw [e2]; exact ⟨rd, ga⟩, by rw [e2]; exact at_, rc, k, F.binds hb, ⟨fun s us ws X2 l1 l2 => ?_, fun r1 r2 => r1.append r2⟩⟩
  match us, l1 with
  | [], _ => exact .of_eq (hb1 kV doc pm an cdv ct ws l2)
theorem SMk.sm {K : PySem.W.Frag} {mg : Str → Option Value} {x m qual : Str} {st : Stmt} {ps : List Str} (T : SMk K mg x m qual st ps) : SM K mg x m qual st ps := by
  obtain ⟨f, fd, mc, p, rest, F, h1, h2, h3, h4, h5, _⟩ := T.ex
  exact ⟨f, fd, mc, p, rest, F, h1, h2, h3, h4, h5⟩
structure GSmk (P : Program) (w : World) (K : PySem.W.Frag) (mg : Str → Option Value) (base : Heap) (k : Nat) (x m : Str) (ps : List Str) (S : DX) : Prop where
  ex : ∃ f fd mc p rest, FnOk P w K mg base (L2.CX P w) k f fd ps (spX K S) ∧ ClX.CRead K (clsA mg x) mc ∧ PySem.W.findCls K (.ref (clsA mg x)) mc m = some (.get (.builtin "staticmethod.__get__") (.ref p) .none (.ref (clsA mg x))) ∧
    PySem.W.recIn K p "staticmethod" = some (.ref f :: rest) ∧ PySem.W.keepIn K (.ref f) = true ∧ Binds K fd ps [] ∧ KBn K fd ps 0 ps (fun us ws => us ++ ws) (fun vs zs => vs ++ zs)
theorem GSmk.pos {P : Program} {w : World} {K : PySem.W.Frag} {mg : Str → Option Value} {base : Heap} {k : Nat} {x m : Str} {ps : List Str} {S : DX} (h : GSmk P w K mg base k x m ps S) : GSmx P w K mg base k x m ps S := by
  obtain ⟨f, fd, mc, p, rest, F, h1, h2, h3, h4, h5, _⟩ := h.ex
  exact ⟨f, fd, mc, p, rest, F, h1, h2, h3, h4, h5⟩
theorem smk_ok {P : Program} {w : World} {K : PySem.W.Frag} {mg : Str → Option Value} {base : Heap} {x m qual : Str} {st : Stmt} {N ps : List Str} {k : Nat} {S : DX} (T : SMk K mg x m qual st ps) (Sc : FnScope N ps (defScope st)) (len : ∀ ds M R Z, S ds M R Z → ds.length = ps.length)
    (hbody : ∀ (f : Addr) (cdv : Value) (A : Around) (outer : List Env) (s : Shared) (H : Hp) (E : XK), Room k (A.deeper (PyProof.Rows.envOfC qual (defScope st) s.heap.objs.size f cdv)) →
      ∃ t, PSs (cxOf (L2.CX P w) P w K mg base N qual (defScope st) f cdv A outer s H E) (defBody st) t ∧ BodyX K S N E t) : GSmk P w K mg base (k + 1) x m ps S := by
  obtain ⟨f, fd, mc, p, rest, F, h⟩ := T.ex
  exact ⟨f, fd, mc, p, rest, fnx_ok F Sc len (hbody f), h⟩
theorem pe_smXk {X : Cx} {K : PySem.W.Frag} {mg : Str → Option Value} {k : Nat} {x m : Str} {ps : List Str} {S : DX} {E : XK} {kws : List Keyword} {tk : TA} {p0 apos pos : Pos} {pl : Sem Bool} (c : CK K mg x) (Gm : GSmk X.prog X.w K mg X.base k x m ps S) (hr : Room k X.A) (hkw : PK X kws tk)
    (hx : Passes (L2.CX X.prog X.w) X E := by exact passes_call (takes_of rfl rfl rfl rfl) fun _ _ _ _ h => h) (h : X.K = K := by rfl) (hmg : X.mg = mg := by rfl) (hg : Gl X x := by rfl) (hdb : (x == ("__debug__" : Str)) = false := by decide)
    (hall : (backToKw pos (keywordEach kws X.env)).all (·.1.isSome) = true := by rfl) (hks : (backToKw pos (keywordEach kws X.env)).filterMap (·.1) = ps := by rfl)
    (hpl : ((backTo pos (starEach [] X.env)).any (·.1) || (backToKw pos (keywordEach kws X.env)).any (·.1.isNone)) = false := by rfl)
    (ht : eval (.Call (.Attribute (.Name x p0) m apos) [] kws pos) X.env = (do let ov ← eval (.Name x p0) X.env; standAt apos.atName; let (f, first) ← holding [ov] (getMethod ov m pl); callWith pos f first (backTo pos (starEach [] X.env)) (backToKw pos (keywordEach kws X.env))) := by rfl) :
    PE X (.Call (.Attribute (.Name x p0) m apos) [] kws pos) (tCallN 0 ps.length (spX K S) (fun vs zs => vs ++ zs) E tNil tk) := by
  subst h
  subst hmg
  obtain ⟨f, fd, mc, p, rest, h1, rd, at_, rc, kp, bd, kb⟩ := Gm.ex
  have he : PE X (.Name x p0) (tC (.ref (clsA X.mg x))) := pe_glob hg c.at_ rfl hdb
  refine ⟨fun pins s σ H Q I hq => ?_⟩
  have hq : tk σ H fun zs H2 => ([] : List V).length = 0 ∧ zs.length = ps.length ∧ spX X.K S ([] ++ zs) H2 Q E := hq
  refine PySem.W.methodCall_KW (pl := pl) (thn (he.run pins s σ H (fun v H' => v = .ref (clsA X.mg x) ∧ tk σ H' fun zs H2 => ([] : List V).length = 0 ∧ zs.length = ps.length ∧ spX X.K S ([] ++ zs) H2 Q E) I ⟨rfl, hq⟩) fun u s1 hz => ?_) ht
  obtain ⟨v, H1, I1, rv, rfl, q⟩ := hz
  cases (show u = Value.ref (clsA X.mg x) from rv)
  refine PySem.W.method_cls I1.kIn rd.ga ?_
  refine PySem.W.cls_bind I1.kIn rd.rd at_ ?_
  refine wpAny_call (PySem.W.sm_get (s := { s1 with toks := s1.toks + 1 }) I1.kIn rc (PySem.W.handed_on rfl ?_))
  have I2 : Inv X pins σ H1 { s1 with toks := s1.toks + 1 } := I1.tok (s1.toks + 1)
  refine PySem.W.callWith_KW0 (h₀ := X.base) I.ok.mod.kin kp hall (thn (hkw.run pos pins _ σ H1 _ I2 q) fun ws s3 hy => ?_) hpl
  obtain ⟨zs, H3, I3, rz, l1, l2, q3⟩ := hy
  refine ⟨I3.kIn, ?_⟩
  rw [hks]
  exact run_fnN (us := []) (vs := []) h1 hr kb hx I3 .nil rz l1 l2 q3
end XD

/-! XE31: dicts with tuple keys: read, written, frozen, walked. -/
namespace XD
open PySem PySem.Spec PyProof.Rows L2 XX
/-- a tuple key as data -/
abbrev tD (k : List Key) : D := .tup (k.map kD)
theorem rpA_keys {K : PySem.W.Frag} [Bs K] {G : Hp} : ∀ {k : List Key} {vs : List V}, RpA K G vs (k.map kD) → vs = k.map kV
  | [], _, h => by cases h; rfl
  | k :: ks, _, h => by
    cases h with
    | cons h r => rw [rp_keyD h, rpA_keys r]; rfl
theorem rpA_kV {K : PySem.W.Frag} [Bs K] {G : Hp} : ∀ k : List Key, RpA K G (k.map kV) (k.map kD)
  | [] => .nil
  | k :: ks => .cons (rp_key k) (rpA_kV ks)
theorem rp_tD {K : PySem.W.Frag} [Bs K] {G : Hp} {v : V} {k : List Key} (h : Rp K G v (tD k)) : ∃ b, v = .ref b ∧ G b = some (.tup (k.map kV)) := by
  cases h with
  | tup h r => exact ⟨_, rfl, by rw [← rpA_keys r]; exact h⟩
section
variable {K : PySem.W.Frag} [Bs K] {G : Hp}
theorem RpT.val {k : List Key} : ∀ {xs : List (List Key × V)} {ds : List (List Key × D)}, RpT K G xs ds → (valD ds k = none ∧ valV xs k = none) ∨ ∃ d v, valD ds k = some d ∧ valV xs k = some v ∧ Rp K G v d := by
  intro xs
  induction xs with
  | nil => intro ds h; cases h; exact .inl ⟨rfl, rfl⟩
  | cons x xs ih =>
    intro ds h
    cases h with
    | @cons k' v _ d ds h r =>
      by_cases q : k' = k
      · refine .inr ⟨d, v, ?_, ?_, h⟩
        · simp [valD, q]
        · simp [valV, q]
      · rcases ih r with ⟨h1, h2⟩ | ⟨d2, v2, h1, h2, h3⟩
        · refine .inl ⟨?_, ?_⟩
          · simpa [valD, q] using h1
          · simpa [valV, q] using h2
        · refine .inr ⟨d2, v2, ?_, ?_, h3⟩
          · simpa [valD, q] using h1
          · simpa [valV, q] using h2
theorem RpT.length : ∀ {xs : List (List Key × V)} {ds : List (List Key × D)}, RpT K G xs ds → xs.length = ds.length := by
  intro xs
  induction xs with
  | nil => intro ds h; cases h; rfl
  | cons x xs ih => intro ds h; cases h with | cons h r => simp [ih r]
theorem RpT.any {k : List Key} : ∀ {xs : List (List Key × V)} {ds : List (List Key × D)}, RpT K G xs ds → (xs.any fun kv => decide (kv.1 = k)) = (ds.any fun kv => decide (kv.1 = k)) := by
  intro xs
  induction xs with
  | nil => intro ds h; cases h; rfl
  | cons x xs ih => intro ds h; cases h with | cons h r => simp [ih r]
theorem RpT.mapPut {k : List Key} {v : V} {d : D} (hv : Rp K G v d) : ∀ {xs : List (List Key × V)} {ds : List (List Key × D)}, RpT K G xs ds → RpT K G (xs.map fun kv => if kv.1 = k then (kv.1, v) else kv) (ds.map fun kv => if kv.1 = k then (kv.1, d) else kv) := by
  intro xs
  induction xs with
  | nil => intro ds h; cases h; exact .nil
  | cons x xs ih =>
    intro ds h
    cases h with
    | @cons k' u _ e ds h r =>
      simp only [List.map_cons]
      by_cases q : k' = k
      · rw [if_pos q, if_pos q]; exact .cons hv (ih r)
      · rw [if_neg q, if_neg q]; exact .cons h (ih r)
theorem RpT.snoc {k : List Key} {v : V} {d : D} (hv : Rp K G v d) : ∀ {xs : List (List Key × V)} {ds : List (List Key × D)}, RpT K G xs ds → RpT K G (xs ++ [(k, v)]) (ds ++ [(k, d)]) := by
  intro xs
  induction xs with
  | nil => intro ds h; cases h; exact .cons hv .nil
  | cons x xs ih => intro ds h; cases h with | cons h r => exact .cons h (ih r)
theorem RpT.put {k : List Key} {v : V} {d : D} (hv : Rp K G v d) {xs : List (List Key × V)} {ds : List (List Key × D)} (h : RpT K G xs ds) : RpT K G (putK xs k v) (putKD ds k d) := by
  unfold putK putKD
  rw [h.any]
  split
  · exact h.mapPut hv
  · exact h.snoc hv
theorem RpT.getV {i : Nat} {k : List Key} {v : V} : ∀ {xs : List (List Key × V)} {ds : List (List Key × D)} {i : Nat}, RpT K G xs ds → xs[i]? = some (k, v) → ∃ d, ds[i]? = some (k, d) ∧ Rp K G v d := by
  intro xs
  induction xs with
  | nil => intro ds i h e; simp at e
  | cons x xs ih =>
    intro ds i h e
    cases h with
    | cons h r =>
      cases i with
      | zero => simp at e; obtain ⟨rfl, rfl⟩ := e; exact ⟨_, rfl, h⟩
      | succ i => exact ih (i := i) r (by simpa using e)
end
section
variable {K : PySem.W.Frag} [Bs K] {ρ : Rho} {M M' : Mm} {R : RD} {nx bk ct : RS} {rt : RD} {RB : Bool → Mm → Prop}
/-- x is a dict with tuple keys that holds kvs -/
inductive DcT (M : Mm) : D → List (List Key × D) → Prop
  | fr (a : Addr) (kvs : List (List Key × D)) : DcT M (.dt a kvs) kvs
  | mt {a : Addr} {kvs : List (List Key × D)} (h : Has M a (.dt kvs)) : DcT M (.ref a) kvs
theorem DcT.at {G H : Hp} {x : D} {v : V} {kvs : List (List Key × D)} (t : DcT M x kvs) (r : Rp K G v x) (w : Wd K G M H) : ∃ a xs, v = .ref a ∧ Rd H a (.dT xs) ∧ RpT K G xs kvs := by
  cases t with
  | fr a kvs =>
    cases r with
    | dt h r => exact ⟨_, _, rfl, w.rd h, r⟩
  | mt hm =>
    cases r
    obtain ⟨_, xs, h1, h2⟩ := w.get hm
    exact ⟨_, xs, rfl, .inl h1, h2⟩
theorem xe_dgetT {td ty : TE} (h : Xe K td ρ M fun x M1 => Xe K ty ρ M1 fun y M2 => ∃ kvs k d, DcT M2 x kvs ∧ y = tD k ∧ valD kvs k = some d ∧ R d M2) : Xe K (tDGet td ty) ρ M R := by
  intro σ G H Q s w k
  refine h σ G H _ s w fun v x G1 M1 H1 e1 r1 w1 q => ?_
  refine q σ G1 H1 _ (s.up e1) w1 fun u y G2 M2 H2 e2 r2 w2 q2 => ?_
  obtain ⟨kvs, ky, d, t, rfl, hv, q2⟩ := q2
  obtain ⟨a, xs, rfl, hd, rk⟩ := t.at (r1.up e2) w2
  obtain ⟨b, rfl, hb⟩ := rp_tD r2
  rcases rk.val (k := ky) with ⟨h1, _⟩ | ⟨d2, v2, h1, h2, h3⟩
  · rw [h1] at hv; cases hv
  · have ed : d2 = d := Option.some.inj (h1.symm.trans hv)
    subst ed
    exact ⟨a, v2, rfl, .inr ⟨xs, ky, b, hd, rfl, w2.tup hb, h2.symm⟩, k v2 _ G2 M2 H2 (e1.trans e2) h3 w2 q2⟩
theorem val_someT {G : Hp} {xs : List (List Key × V)} {ds : List (List Key × D)} {k : List Key} (rk : RpT K G xs ds) : (valV xs k).isSome = (valD ds k).isSome := by
  rcases rk.val (k := k) with ⟨h1, h2⟩ | ⟨d2, v2, h1, h2, h3⟩ <;> rw [h1, h2] <;> rfl
theorem xe_dinT {td ty : TE} (h : Xe K ty ρ M fun y M1 => Xe K td ρ M1 fun x M2 => ∃ kvs k, DcT M2 x kvs ∧ y = tD k ∧ R (.bl (valD kvs k).isSome) M2) : Xe K (tDIn ty td) ρ M R := by
  intro σ G H Q s w k
  refine h σ G H _ s w fun v y G1 M1 H1 e1 r1 w1 q => ?_
  refine q σ G1 H1 _ (s.up e1) w1 fun u x G2 M2 H2 e2 r2 w2 q2 => ?_
  obtain ⟨kvs, ky, t, rfl, q2⟩ := q2
  obtain ⟨a, xs, rfl, hd, rk⟩ := t.at r2 w2
  obtain ⟨b, rfl, hb⟩ := rp_tD r1
  refine ⟨a, valV xs ky, rfl, .inr ⟨xs, ky, b, hd, rfl, w2.tup (e2 _ _ hb), rfl⟩, ?_⟩
  rw [val_someT rk]
  exact k _ _ G2 M2 H2 (e1.trans e2) (.bl _) w2 q2
theorem xe_dnotinT {td ty : TE} (h : Xe K ty ρ M fun y M1 => Xe K td ρ M1 fun x M2 => ∃ kvs k, DcT M2 x kvs ∧ y = tD k ∧ R (.bl (!(valD kvs k).isSome)) M2) : Xe K (tDNotIn ty td) ρ M R := by
  intro σ G H Q s w k
  refine h σ G H _ s w fun v y G1 M1 H1 e1 r1 w1 q => ?_
  refine q σ G1 H1 _ (s.up e1) w1 fun u x G2 M2 H2 e2 r2 w2 q2 => ?_
  obtain ⟨kvs, ky, t, rfl, q2⟩ := q2
  obtain ⟨a, xs, rfl, hd, rk⟩ := t.at r2 w2
  obtain ⟨b, rfl, hb⟩ := rp_tD r1
  refine ⟨a, valV xs ky, rfl, .inr ⟨xs, ky, b, hd, rfl, w2.tup (e2 _ _ hb), rfl⟩, ?_⟩
  rw [val_someT rk]
  exact k _ _ G2 M2 H2 (e1.trans e2) (.bl _) w2 q2
theorem ys_dputT {td ty tv : TE} (h : Xe K tv ρ M fun v M1 => Xe K td ρ M1 fun x M2 => Xe K ty ρ M2 fun y M3 => ∃ a kvs k M4, x = .ref a ∧ y = tD k ∧ Has M3 a (.dt kvs) ∧ kvs.length < 16000000 ∧ Put M3 a (.dt (putKD kvs k v)) M4 ∧ nx ρ M4) : Xs K (sDPut td ty tv) ⟨nx, rt, bk, ct⟩ ρ M := by
  intro σ G H D s w k
  refine h σ G H _ s w fun v d G1 M1 H1 e1 r1 w1 q => ?_
  refine q σ G1 H1 _ (s.up e1) w1 fun u x G2 M2 H2 e2 r2 w2 q2 => ?_
  refine q2 σ G2 H2 _ (s.up (e1.trans e2)) w2 fun z y G3 M3 H3 e3 r3 w3 q3 => ?_
  obtain ⟨a, kvs, ky, M4, rfl, rfl, hm, hl, hp, q3⟩ := q3
  cases r2
  obtain ⟨b, rfl, hb⟩ := rp_tD r3
  obtain ⟨g0, xs, h1, rk⟩ := w3.get hm
  refine ⟨a, _, rfl, .inr ⟨xs, ky, b, h1, rfl, w3.tup hb, ?_, rfl⟩, ?_⟩
  · rw [rk.length]; exact Nat.lt_of_lt_of_le hl (by decide)
  · exact k.nx σ G3 _ ρ M4 ((e1.trans e2).trans e3) (s.up ((e1.trans e2).trans e3)) (w3.put hp g0 ⟨g0, _, upd_same, rk.put (r1.up (e2.trans e3))⟩) q3

/-- d.get(k, x) -/
theorem xe_dget2T {td ty tx : TE} (h : Xe K td ρ M fun x M1 => (∃ kvs, DcT M1 x kvs) ∧ Xe K ty ρ M1 fun y M2 => Xe K tx ρ M2 fun z M3 => ∃ kvs k, DcT M3 x kvs ∧ y = tD k ∧ R ((valD kvs k).getD z) M3) : Xe K (tDGet2 td ty tx) ρ M R := by
  intro σ G H Q s w k
  refine h σ G H _ s w fun v x G1 M1 H1 e1 r1 w1 q => ?_
  obtain ⟨⟨kv0, t0⟩, q⟩ := q
  obtain ⟨a, xs0, rfl, hd0, _⟩ := t0.at r1 w1
  refine ⟨a, rfl, .inr ⟨xs0, hd0⟩, ?_⟩
  refine q σ G1 H1 _ (s.up e1) w1 fun u y G2 M2 H2 e2 r2 w2 q2 => ?_
  refine q2 σ G2 H2 _ (s.up (e1.trans e2)) w2 fun z0 z G3 M3 H3 e3 r3 w3 q3 => ?_
  obtain ⟨kvs, ky, t, rfl, q3⟩ := q3
  obtain ⟨a', xs, ea, hd, rk⟩ := t.at (r1.up (e2.trans e3)) w3
  cases ea
  obtain ⟨b, rfl, hb⟩ := rp_tD r2
  refine ⟨valV xs ky, .inr ⟨xs, ky, b, hd, rfl, w3.tup (e3 _ _ hb), rfl⟩, ?_⟩
  rcases rk.val (k := ky) with ⟨h1, h2⟩ | ⟨d2, v2, h1, h2, h3⟩
  · rw [h2]
    rw [h1] at q3
    exact k z0 z G3 M3 H3 ((e1.trans e2).trans e3) r3 w3 q3
  · rw [h2]
    rw [h1] at q3
    exact k v2 d2 G3 M3 H3 ((e1.trans e2).trans e3) h3 w3 q3
theorem cut_nlck {G H : Hp} {a : Addr} {m : MO} (w : Wd K G M H) (hc : Cut M a m M') : ∀ od, (a, MO.lck od) ∉ M' := fun od z => hc.ne w.nd _ z rfl
theorem xs_frzT {t : TS} {E : En} {a : Addr} {kvs : List (List Key × D)} {ρ' : Rho} (hc : Cut M a (.dt kvs) M') (hs : SubA a (.dt a kvs) ρ ρ') (h : (∀ od, (a, MO.lck od) ∉ M') → Xs K t E ρ' M') : Xs K t E ρ M := by
  intro σ G H D s w k
  obtain ⟨_, xs, h1, h2⟩ := w.mo _ hc.mem
  obtain ⟨e, w'⟩ := w.cut hc rfl h1
  exact h (cut_nlck w hc) σ _ H D ((s.up e).sub hs (.dt upd_same (h2.up e))) w' (k.up e)
/-- a value that is a dict which was written: frozen -/
theorem xe_frzVT {te : TE} (h : Xe K te ρ M fun x M1 => ∃ p kvs M2, x = .ref p ∧ Cut M1 p (.dt kvs) M2 ∧ ((∀ od, (p, MO.lck od) ∉ M2) → R (.dt p kvs) M2)) : Xe K te ρ M R := by
  intro σ G H Q s w k
  refine h σ G H _ s w fun v x G1 M1 H1 e1 r1 w1 q => ?_
  obtain ⟨p, kvs, M2, rfl, hc, q⟩ := q
  cases r1
  obtain ⟨_, xs, h1, h2⟩ := w1.mo _ hc.mem
  obtain ⟨e, w'⟩ := w1.cut hc rfl h1
  exact k (.ref p) (.dt p kvs) _ M2 H1 (e1.trans e) (.dt upd_same (h2.up e)) w' (q (cut_nlck w1 hc))
end
end XD

/-! XE32: d.items() of a dict with tuple keys, walked by a loop. -/
namespace XX
open PySem PySem.Spec PyProof.Rows L2 DT
variable {X : Cx} {pins : List (Addr × Obj)} {σ : L2.St} {H : Hp} {s : Shared} {d : Addr} {o : Obj}
theorem frzTV {kvs : List (List Key × V)} (I : Inv X pins σ H s) (h : H d = some (.frz o (.dT kvs))) :
    (d == sysModules) = false ∧ s.heap.get? d = some o ∧ o.ExactDict ∧ ∃ (es : Array DictEntry) (ep : Nat), o.data = .dict es ep ∧ es.size = kvs.length ∧
      ∀ (i : Nat) (k : List Key) (v : V), kvs[i]? = some (k, v) → ∃ (en : DictEntry) (q : Addr), es[i]? = some en ∧ en.key = .ref q ∧ H q = some (.tup (k.map kV)) ∧ RelV v en.val := by
  obtain ⟨hd, z, hs, xs, pr, o', es, ep, ho, hx, hdt, he, _⟩ := I.hok d _ h
  rw [hd] at ho
  cases ho
  refine ⟨hs, hd, hx, es, ep, hdt, ?_, fun i k v e => ?_⟩
  · have l1 : es.size = xs.length := size_of_entries he
    have l2 : kvs.length = xs.length := Paired.length pr
    omega
  · obtain ⟨b, hb, e1, e2, e3⟩ := paired_get pr e
    have q := entry_at he i
    rw [hb] at q
    exact ⟨_, b.2.1, q, rfl, e2, e3⟩
/-- the pairs, each a new tuple of the key's own tuple and the value -/
def Itit (d : Addr) (o : Obj) (kvs : List (List Key × V)) : It :=
  ⟨fun i H => H d = some (.frz o (.dT kvs)) ∧ i < kvs.length, fun i H x H' => ∃ T k v q, kvs[i]? = some (k, v) ∧ x = .ref T ∧ H T = none ∧ H q = some (.tup (k.map kV)) ∧ H' = upd H T (.tup [.ref q, v]), fun i H => H d = some (.frz o (.dT kvs)) ∧ kvs.length ≤ i⟩
theorem turn_itemsT {P : Program} {w : World} {K : PySem.W.Frag} {es : Array DictEntry} {ep : Nat} {kvs : List (List Key × V)} {elts : List Expr} {kk : Nat} {tpos : Pos} (it : Addr) (hod : o.data = .dict es ep) :
    Turn P w K (.Tuple elts kk tpos) (Itit d o kvs) [it] it (fun i h => ∃ ok ov, IsItemIter h it d i kvs.length ep ok ov) where
  mem := by simp
  obj := fun i h st b hb => by
    have e : b = it := by simpa using hb
    subst e
    obtain ⟨ok, ov, e⟩ := st
    exact ⟨_, e, fun v z => nomatch z⟩
  keep := fun i h h' st k => let ⟨ok, ov, e⟩ := st; ⟨ok, ov, k it (by simp) _ e⟩
  item := by
    intro X hP hw hK hc i pins s σ H E I hf st hg
    subst hP hw hK
    obtain ⟨hd, hi⟩ := hg
    obtain ⟨hs, hgd, hx, es', ep', hdt, hsz, ent⟩ := frzTV I hd
    obtain ⟨rfl, rfl⟩ := dict_ep hod hdt
    obtain ⟨⟨k, v⟩, hkv⟩ : ∃ p, kvs[i]? = some p := ⟨kvs[i], List.getElem?_eq_getElem hi⟩
    obtain ⟨en, q, hen, hkey, hq, ru⟩ := ent i k v hkv
    obtain ⟨ok, ov, he⟩ := st
    have hie : i < es'.size := by omega
    have een : es'[i] = en := by
      have := Array.getElem?_eq_getElem hie
      rw [hen] at this
      exact (Option.some.inj this).symm
    rw [← hsz] at he
    have hlt : it < s.heap.objs.size := Heap.lt_size he
    refine nextI he ⟨o, hgd, hx, hdt⟩ hie fun h' ho hT hz hk => ?_
    rw [een, hkey] at ho hT
    refine ⟨_, rfl, wpAny_letOwnedTupleGo_items (s := { s with heap := h' }) ho fun h'' he' sb => ?_⟩
    have hT2 : h''.get? s.heap.objs.size = some { cls := .type "tuple", data := .seq #[.ref q, en.val] } := (sb.2 _ (Nat.ne_of_gt hlt)).trans hT
    have new : ObjOk X.prog X.w (upd H s.heap.objs.size (.tup [.ref q, v])) h'' s.heap.objs.size (.tup [.ref q, v]) :=
      ⟨by show 2 ≤ sizeLine; decide, [.ref q, en.val], .cons rfl (.cons ru .nil), ⟨_, hT2, rfl, _, rfl⟩⟩
    have I1 : Inv X pins σ (upd H s.heap.objs.size (.tup [.ref q, v])) { s with heap := h'' } :=
      I.turnedNew (t' := s.toks) (ch := [it]) (fun b ob hb e => (sb.2 b (by simpa using hb)).trans (hk b ob (by simpa using hb) e)) hf (Nat.le_refl _) new
    refine ⟨.ref s.heap.objs.size, _, I1, rfl, ⟨_, k, v, q, hkv, rfl, I.hok.fresh (Nat.le_refl _), hq, rfl⟩, ⟨.ref q, en.val, ?_⟩, fun b hb => ?_⟩
    · rw [← hsz]; exact he'
    · have e : b = it := by simpa using hb
      rw [e, upd_ne (Nat.ne_of_lt hlt)]
      exact (hf it (by simp)).1
  done := by
    intro X hP hw hK hc i pins s σ H E I hf st hg
    subst hP hw hK
    obtain ⟨hd, hi⟩ := hg
    obtain ⟨f0, f1, f2, f3, f4, f5⟩ := hf it (by simp)
    obtain ⟨hs, hgd, hx, es', ep', hdt, hsz, ent⟩ := frzTV I hd
    obtain ⟨rfl, rfl⟩ := dict_ep hod hdt
    obtain ⟨ok, ov, he⟩ := st
    rw [← hsz] at he
    exact endI (I.ok.hd hc) he ⟨o, hgd, hx, hdt⟩ (by omega) fun h' eb => ⟨rfl, I.turned (t' := s.toks) (fun b ob hb e => eb b ob hb e) f0 f1 f3 f4 f5⟩
  self := fun A i s Q E st h => let ⟨_, _, e⟩ := st; PySem.W.kcp_self e h
def iItemsT (td : TE) : TI := fun σ H R => td σ H fun x H1 => ∃ d o kvs, x = .ref d ∧ H1 d = some (.frz o (.dT kvs)) ∧ R (Itit d o kvs) H1
theorem pi_itemsT {e : Expr} {td : TE} {apos cpos : Pos} {elts : List Expr} {kk : Nat} {tpos : Pos} (he : PE X e td) (hbase : attributeBase e "items" X.env (eval e X.env) = eval e X.env := by rfl) (hline : (apos.endLine == cpos.line) = true := by rfl) :
    PI X (.Tuple elts kk tpos) (.Call (.Attribute e "items" apos) [] [] cpos) (iItemsT td) := by
  refine ⟨fun pins s σ H R I h => ?_⟩
  refine wpAny_Call_method (T := "dict") (id := "dict.items") hbase rfl hline PySem.F.plainAttrs_dict PySem.F.slot_dict_items PySem.F.type_dict_items (thn (he.run pins s σ H _ I h) fun u s1 ⟨x, H1, I1, rx, d, o, kvs, ex, hd, q⟩ => ?_)
  subst ex
  obtain rfl : u = Value.ref d := rx
  obtain ⟨hs, hgd, hx, es, ep, hdt, hsz, ent⟩ := frzTV I1 hd
  have raw : DT.Raw s1.heap d es ep := ⟨o, hgd, hx, hdt⟩
  refine ⟨raw.typeIs, fun b q => by cases q; exact ⟨o, hgd, hx.2.1⟩, ?_⟩
  have I2 : Inv X pins σ H1 { s1 with heap := s1.heap.push { cls := .type "dict_items", data := .fields #[.ref d] } } := I1.kept (t' := s1.toks) fun b ob q => Heap.get?_push_of_some _ q
  have fin : wpAny (model X.prog X.w) X.A (pyIter (.ref s1.heap.objs.size)) (PIE X pins σ (.Tuple elts kk tpos) R) X.xe { s1 with heap := s1.heap.push { cls := .type "dict_items", data := .fields #[.ref d] } } := by
    refine DT.iterI (d := d) (es := es) (ep := ep) ⟨_, Heap.get?_push_size _ rfl, rfl, rfl⟩ (raw.push _) (pi_one (tk := s1.toks) I2 _ (turn_itemsT _ hdt) ⟨.none, .none, ?_⟩ q)
    rw [← hsz]
    exact Heap.get?_push_size _ rfl
  show wpAny _ _ (callWith cpos (.builtin "dict.items") [.ref d] [] []) _ X.xe s1
  exact method_meetsIn PySem.F.slot_dict_items PySem.F.entry_dict_items rfl (PySem.evalArgs_none ⟨rfl, raw.typeIs, PySem.F.args_dict_items_1 _, _, DT.meetsItems (es := es) (ep := ep) hs, ⟨raw, fin⟩⟩)
end XX

/-! XE33: loops over dicts with tuple keys, told over (rho, M). -/
namespace XD
open PySem PySem.Spec PyProof.Rows L2 XX
theorem MoOk.ntup {K : PySem.W.Frag} {G H : Hp} {a : Addr} {m : MO} (h : MoOk K G H a m) (xs : List V) : H a ≠ Option.some (HO.tup xs) := by
  intro z
  cases m with
  | lck od => obtain ⟨o, h1, h2, h3⟩ := h; rw [z] at h3; cases h3
  | tab q => obtain ⟨ps, h1, _⟩ := h; rw [z] at h1; cases h1
  | lst ds => obtain ⟨_, xs, h1, h2⟩ := h; rw [z] at h1; cases h1
  | dk ds => obtain ⟨_, xs, h1, h2⟩ := h; rw [z] at h1; cases h1
  | dt ds => obtain ⟨_, xs, h1, h2⟩ := h; rw [z] at h1; cases h1
  | ins C fs => obtain ⟨_, dx, xs, h1, h2⟩ := h; rw [z] at h1; cases h1
  | feed => obtain ⟨_, c, i, b, s, ns, h1, h2, h3⟩ := h; rw [z] at h1; cases h1
/-- a tuple that stands is known from now on -/
theorem Wd.seen {K : PySem.W.Frag} [Bs K] {G H : Hp} {M : Mm} (w : Wd K G M H) {q : Addr} {xs : List V} (h : H q = some (.tup xs)) : ∃ G', Ex G G' ∧ Wd K G' M H ∧ G' q = some (.tup xs) := by
  cases e : G q with
  | some o =>
    rcases w.ex q o e with e2 | ⟨_, od, e2, _⟩
    · rw [h] at e2
      cases e2
      exact ⟨G, Ex.refl G, w, e⟩
    · rw [h] at e2
      cases e2
  | none =>
    refine ⟨upd G q (.tup xs), Ex.new e, ⟨⟨fun a u z => ?_, fun p hp => ?_, w.nd, nt_upd w.nt (by intro ps z; cases z)⟩, w.bs.trans (Ex.new e)⟩, upd_same⟩
    · by_cases za : a = q
      · rw [za, upd_same] at z
        cases z
        rw [za]
        exact .inl h
      · rw [upd_ne za] at z
        exact w.ex a u z
    · have ok : MoOk K G H p.1 p.2 := w.mo p hp
      have hne : p.1 ≠ q := fun z => ok.ntup xs (z ▸ h)
      exact ok.up (Ex.new e) rfl fun l => by rw [upd_ne hne]; exact ok.gnone l
section
variable {K : PySem.W.Frag} [Bs K] {G H : Hp} {M M' : Mm}
/-- a dict of the frozen part, told of what the slots and things hold -/
def KnT (K : PySem.W.Frag) [Bs K] (ρ : Rho) (M : Mm) (a : Addr) (kvs : List (List Key × D)) : Prop := ∀ (σ : L2.St) (G H : Hp), RpS K G σ ρ → Wd K G M H → ∃ xs, G a = some (.dT xs) ∧ RpT K G xs kvs
theorem kn_varT {ρ : Rho} {i : Nat} {a : Addr} {kvs : List (List Key × D)} (h : ρ[i]? = some (some (.dt a kvs))) : KnT K ρ M a kvs := by
  intro σ G H s w
  obtain ⟨v, h1, h2⟩ := s.at_ i _ h
  cases h2 with
  | dt h r => exact ⟨_, h, r⟩
theorem kn_fldT {ρ : Rho} {i : Nat} {C a : Addr} {f : Str} {fs : List (Str × D)} {kvs : List (List Key × D)} (h : ρ[i]? = some (some (.ins C fs))) (l : fs.lookup f = some (.dt a kvs)) : KnT K ρ M a kvs := by
  intro σ G H s w
  obtain ⟨v, h1, h2⟩ := s.at_ i _ h
  cases h2 with
  | ins h r =>
    obtain ⟨u, h3, h4⟩ := r.lookup l
    cases h4 with
    | dt h r => exact ⟨_, h, r⟩
theorem kn_fldTM {ρ : Rho} {C a s0 : Addr} {f : Str} {fs : List (Str × D)} {kvs : List (List Key × D)} (h : Has M s0 (.ins C fs)) (l : fs.lookup f = some (.dt a kvs)) : KnT K ρ M a kvs := by
  intro σ G H s w
  obtain ⟨_, dx, xs, h1, r⟩ := w.get h
  obtain ⟨u, h3, h4⟩ := r.lookup l
  cases h4 with
  | dt h r => exact ⟨_, h, r⟩
end
section
variable {K : PySem.W.Frag} [Bs K] {ρ : Rho} {M M' : Mm} {R : RD} {nx bk ct : RS} {rt : RD} {t : TS} {te : TE}
theorem ys_lockT {a : Addr} {kvs : List (List Key × D)} (hk : KnT K ρ M a kvs) (hn : ∀ od, (a, MO.lck od) ∉ M)
    (h : ∀ od, Xs K t ⟨fun ρ' M' => ∃ M'', Cut M' a (.lck od) M'' ∧ nx ρ' M'', fun d M' => ∃ M'', Cut M' a (.lck od) M'' ∧ rt d M'', fun ρ' M' => ∃ M'', Cut M' a (.lck od) M'' ∧ bk ρ' M'', fun ρ' M' => ∃ M'', Cut M' a (.lck od) M'' ∧ ct ρ' M''⟩ ρ ((a, .lck od) :: M)) :
    Xs K (tLock t) ⟨nx, rt, bk, ct⟩ ρ M := by
  intro σ G H D s w k
  obtain ⟨xs, hg, rk⟩ := hk σ G H s w
  refine ⟨a, .dT xs, w.free hg hn, trivial, fun od => ?_⟩
  have w2 := w.lock (o := .dT xs) trivial hg (nin_of w hg hn) od
  have lift : ∀ {E : RS} {Dn : L2.St → Hp → Prop}, SK K G E Dn → SK K G (fun ρ' M' => ∃ M'', Cut M' a (.lck od) M'' ∧ E ρ' M'') (fun σ' H' => H' a = some (.frz od (.dT xs)) ∧ Dn σ' (upd H' a (.dT xs))) := by
    intro E Dn kk σ' G' H' ρ' M' e s' w' q
    obtain ⟨M'', hc, q⟩ := q
    obtain ⟨h1, w3⟩ := w'.unlockC hc (e _ _ hg)
    exact ⟨h1, kk σ' G' _ ρ' M'' e s' w3 q⟩
  refine h od σ G _ _ s w2 ⟨lift k.nx, ?_, lift k.bk, lift k.ct⟩
  intro v d G' M' H' e r w' q
  obtain ⟨M'', hc, q⟩ := q
  obtain ⟨h1, w3⟩ := w'.unlockC hc (e _ _ hg)
  exact ⟨h1, k.rt v d G' M'' _ e r w3 q⟩
theorem xe_lockT {a : Addr} {kvs : List (List Key × D)} (hk : KnT K ρ M a kvs) (hn : ∀ od, (a, MO.lck od) ∉ M) (h : ∀ od, Xe K te ρ ((a, .lck od) :: M) fun d M' => ∃ M'', Cut M' a (.lck od) M'' ∧ R d M'') : Xe K (tLockE te) ρ M R := by
  intro σ G H Q s w k
  obtain ⟨xs, hg, rk⟩ := hk σ G H s w
  refine ⟨a, .dT xs, w.free hg hn, trivial, fun od => ?_⟩
  have w2 := w.lock (o := .dT xs) trivial hg (nin_of w hg hn) od
  refine h od σ G _ _ s w2 fun v d G' M' H' e r w' q => ?_
  obtain ⟨M'', hc, q⟩ := q
  obtain ⟨h1, w3⟩ := w'.unlockC hc (e _ _ hg)
  exact ⟨h1, k v d G' M'' _ e r w3 q⟩

theorem xi_keysT {td : TE} {RI : Nat → (Nat → D → Prop) → (Mm → Prop) → Mm → Prop} (h : Xe K td ρ M fun d M1 => ∃ a kvs od, d = .dt a kvs ∧ Has M1 a (.lck od) ∧ RI kvs.length (fun i x => ∃ k v, kvs[i]? = some (k, v) ∧ x = tD k) (fun M => Has M a (.lck od)) M1) : Xi K (iKeys td) ρ M RI := by
  intro σ G H Q s w k
  refine h σ G H _ s w fun v d G1 M1 H1 e1 r w1 q => ?_
  obtain ⟨a, kvs, od, rfl, hm, q⟩ := q
  cases r with
  | @dt a xs _ hg rk =>
    refine ⟨a, od, rfl, .inr ⟨xs, lck_at w1 hm hg, k _ _ _ _ G1 M1 H1 e1 w1 ⟨fun i G M H hi e w hm => ?_, fun G M H e w hm => ?_, fun i G M H x H' hi e w hm y => ?_⟩ q⟩⟩
    · exact ⟨lck_at w hm (e _ _ hg), by rw [rk.length]; exact hi⟩
    · exact ⟨lck_at w hm (e _ _ hg), by rw [rk.length]; exact Nat.le_refl _⟩
    · obtain ⟨rfl, ky, v, b, h1, rfl, hb⟩ := y
      obtain ⟨d, h2, h3⟩ := rk.getV (k := ky) (v := v) (i := i) h1
      obtain ⟨G', e', w', hG⟩ := w.seen hb
      exact ⟨G', tD ky, e', w', .tup hG (rpA_kV ky), ky, d, h2, rfl⟩
theorem xi_itemsT {td : TE} {RI : Nat → (Nat → D → Prop) → (Mm → Prop) → Mm → Prop} (h : Xe K td ρ M fun d M1 => ∃ a kvs od, d = .dt a kvs ∧ Has M1 a (.lck od) ∧ RI kvs.length (fun i x => ∃ k v, kvs[i]? = some (k, v) ∧ x = .tup [tD k, v]) (fun M => Has M a (.lck od)) M1) : Xi K (iItemsT td) ρ M RI := by
  intro σ G H Q s w k
  refine h σ G H _ s w fun v d G1 M1 H1 e1 r w1 q => ?_
  obtain ⟨a, kvs, od, rfl, hm, q⟩ := q
  cases r with
  | @dt a xs _ hg rk =>
    refine ⟨a, od, xs, rfl, lck_at w1 hm hg, k _ _ _ _ G1 M1 H1 e1 w1 ⟨fun i G M H hi e w hm => ?_, fun G M H e w hm => ?_, fun i G M H x H' hi e w hm y => ?_⟩ q⟩
    · exact ⟨lck_at w hm (e _ _ hg), by rw [rk.length]; exact hi⟩
    · exact ⟨lck_at w hm (e _ _ hg), by rw [rk.length]; exact Nat.le_refl _⟩
    · obtain ⟨T, ky, v, b, h1, rfl, hT, hb, rfl⟩ := y
      obtain ⟨d, h2, h3⟩ := rk.getV (k := ky) (v := v) (i := i) h1
      obtain ⟨G2, e2, w2, hG⟩ := w.seen hb
      obtain ⟨G', e', r', w'⟩ := w2.newT hT (.cons (.tup hG (rpA_kV ky)) (.cons ((h3.up e).up e2) .nil))
      exact ⟨G', _, e2.trans e', w', r', ky, d, h2, rfl⟩
end
end XD

/-! XE34: dicts with tuple keys at the machine: dict(d), d.pop(k), list(d.items()). -/
namespace XX
open PySem PySem.Spec PyProof.Rows L2 DT PyProof.V
section
variable {prog : Program} {w : World} {K : Type} [DecidableEq K] {knd : HeapKind prog w K} {A : Around} {E : Value → Shared → Prop} {s : Shared}
/-- dict(d), keys that are objects -/
theorem call_dictH {o : Addr} {more : List (K × Addr × Value)} {Q : Value → Shared → Prop} (hu : knd.room A.in1.in1) (hoS : (o == sysModules) = false) (ho : s.heap.DictOfH knd o more) (hsz : more.length ≤ sizeLine)
    (hpu : ∀ x ∈ more, knd.is (s.heap.push { cls := .type "dict", data := .dict #[] }) x.1 x.2.1) (hty : ∀ x ∈ more, s.TypeIs (.ref x.2.1) "tuple") (hap : (more.map fun x => knd.hash x.1).Nodup)
    (h : ∀ h', h'.DictOfH knd s.heap.objs.size more → Heap.SameBut s.heap.objs.size (s.heap.push { cls := .type "dict", data := .dict #[] }) h' → Q (.ref s.heap.objs.size) { s with heap := h' }) :
    wpAny (model prog w) A (call (.type "dict") [.ref o]) Q E s := by
  refine callType_codes (Q₁ := fun obj s₁ => obj = .ref s.heap.objs.size ∧ s₁ = { s with heap := s.heap.push { cls := .type "dict", data := .dict #[] } }) PySem.F.kt_called_dict (PySem.F.kt_typeCall_dict_1 _) PySem.F.entry_dict_init (kt_code_dict_new _ ⟨rfl, rfl⟩) ?_
  rintro obj s₁ ⟨rfl, rfl⟩
  have hnew : (s.heap.push { cls := .type "dict", data := .dict #[] }).DictOfH knd s.heap.objs.size [] := ⟨_, #[], 0, Heap.get?_push_size _ rfl, ⟨rfl, rfl, rfl⟩, rfl, rfl, (fun _ h => nomatch h), List.nodup_nil⟩
  have ho' : (s.heap.push { cls := .type "dict", data := .dict #[] }).DictOfH knd o more := by
    obtain ⟨od, es, ep, h1, h2, h3, h4, h5, h6⟩ := ho
    exact ⟨od, es, ep, Heap.get?_push_of_some _ h1, h2, h3, h4, hpu, h6⟩
  have hn : (more.map (·.1)).Nodup := ho.nodup
  have hdo : s.heap.objs.size ≠ o := by
    obtain ⟨_, _, _, hg, _⟩ := ho
    exact fun e => absurd (Heap.lt_size hg) (by rw [e]; exact Nat.lt_irrefl _)
  refine ⟨hnew.typeIs, PySem.F.args_dict_init_2 _ _, ?_⟩
  unfold Builtin.«dict.__init__»
  refine wpAny_bind ?_
  unfold Builtin.Dict.selfAndRest
  refine wpAny_bind (wpAny_notOrdered_dict hnew.typeIs ?_)
  show wpAny _ _ (pure (s.heap.objs.size, [Value.ref o])) _ _ _
  refine wpAny_pure ?_
  show wpAny _ _ (Builtin.Dict.updateFrom "dict.__init__" s.heap.objs.size (.ref o) [] .none) _ _ _
  refine updateFrom_dictH (A := A.in1) (R := wants (fun r s₂ => r = .none ∧ Q (.ref s.heap.objs.size) s₂) E) .none hu hdo hoS hnew ho' (.inr ⟨fun x hx => ?_, hap⟩) (by simpa using hsz) fun h' hd' _ hs' => ?_
  · obtain ⟨ot, h1, h2⟩ := hty x hx
    exact ⟨ot, Heap.get?_push_of_some _ h1, h2⟩
  · rw [storedAllH_nil_of_nodup more hn] at hd'
    exact ⟨rfl, h h' hd' hs'⟩
/-- d.pop(k), k is there -/
theorem meetsPop1 {d b : Addr} {k : K} (hd : (d == sysModules) = false) :
    MeetsIn prog w (Builtin.«dict.pop» ⟨[.ref d, .ref b], []⟩) (fun A R s => ∃ xs p, knd.room A.in1 ∧ knd.is s.heap k b ∧ s.heap.DictOfH knd d xs ∧ xs.length ≤ sizeLine ∧ atKey xs k = some p ∧
      ∀ h' tk, h'.DictOfH knd d (dropH xs k) → Heap.SameBut d s.heap h' → R (.ok (.ret p.2)) { s with heap := h', toks := tk }) :=
  .of_wp fun A R s ⟨xs, p0, hu, hkey, hm, hsz, hp0, hsome⟩ => by
    obtain ⟨o, es, ep, ho, hc, hdat, he, his, hn⟩ := id hm
    have hes : es.size = xs.length := size_of_entries he
    have hpart : (keyPart (Value.ref b)).isSome = false := rfl
    unfold Builtin.«dict.pop»
    refine wpAny_bind ?_
    unfold Builtin.Dict.keyAndDefault
    refine wpAny_bind (wpAny_notOrdered_dict hm.typeIs ?_)
    show wpAny _ _ (pure (d, Value.ref b, none)) _ _ s
    refine wpAny_pure ?_
    simp only [hpart, Bool.false_eq_true, if_false]
    refine wpAny_bind (wpAny_dictEntries ho hdat (wpAny_bind (wpAny_pure ?_)))
    cases hem : es.isEmpty with
    | true =>
      have h0 : xs = [] := by
        have z : es.size = 0 := by simpa using hem
        exact List.length_eq_zero_iff.mp (by omega)
      rw [h0] at hp0
      cases hp0
    | false =>
      simp only [Bool.false_eq_true, if_false]
      refine wpAny_bind (takeH hu hkey hm hsz (fun hno => by rw [hno] at hp0; cases hp0) fun p e hp hev h' hm' hs' => ?_)
      simp only [Option.isNone_some, Bool.false_eq_true, if_false]
      have ep : p = p0 := Option.some.inj (hp.symm.trans hp0)
      subst ep
      exact wpAny_bind (wpAny_letGo (wpAny_pure ⟨e.val, rfl, by rw [hev]; exact hsome h' _ hm' hs'⟩))
end
section
variable {X : Cx}
/-- the keys' hashes differ -/
def HashApart (P : Program) (w : World) (ks : List (List Key)) : Prop := (ks.map (tupleKind (mixKind P w)).hash).Nodup
theorem d_copyT {pins : List (Addr × Obj)} {σ : L2.St} {H : Hp} {s : Shared} {a : Addr} {kvs : List (List Key × V)} {A : Around} {E : Value → Shared → Prop} {Q : Value → Shared → Prop} (hu : A.units + 3 < cLine) (I : Inv X pins σ H s) (e : Rd H a (.dT kvs))
    (hap : HashApart X.prog X.w (kvs.map (·.1))) (h : ∀ p s', H p = none → Inv X pins σ (upd H p (.dT kvs)) s' → Q (.ref p) s') : wpAny (model X.prog X.w) A (call (.type "dict") [.ref a]) Q E s := by
  obtain ⟨z, hd, xs, rel, dd⟩ := dt_rd I.hok e
  have len : kvs.length = xs.length := Paired.length rel
  have keys : ∀ x ∈ xs, H x.2.1 = some (.tup (x.1.map kV)) := by
    intro x hx
    obtain ⟨j, hj⟩ := List.mem_iff_getElem?.mp hx
    obtain ⟨kv, hkv, r1, r2, r3⟩ := L2.DX.pget rel hj
    rw [← r1]
    exact r2
  have k1 : xs.map (·.1) = kvs.map (·.1) := by
    have : ∀ {l : List (List Key × V)} {m : List (List Key × Addr × Value)}, KT H l m → m.map (·.1) = l.map (·.1) := by
      intro l m q
      induction q with
      | nil => rfl
      | cons h t ih => rw [List.map_cons, List.map_cons, ih, h.1]
    exact this rel
  refine call_dictH (knd := tupleKind (mixKind X.prog X.w)) (tupleKind_room_in1 (A := A.in1) (by show A.units + 1 + 1 < cLine; omega)) hd dd (by omega) (fun x hx => ?_) (fun x hx => ?_) ?_ fun h' dd' hs => ?_
  · obtain ⟨ot, its, n, h1, h2⟩ := (show IsTupleKey (mixKind X.prog X.w) s.heap x.1 x.2.1 from key_of I.hok (keys x hx))
    exact ⟨ot, its, n, Heap.get?_push_of_some _ h1, h2⟩
  · obtain ⟨ot, its, n, h1, h2, _⟩ := (show IsTupleKey (mixKind X.prog X.w) s.heap x.1 x.2.1 from key_of I.hok (keys x hx))
    exact ⟨ot, h1, h2⟩
  · have : (xs.map fun x => (tupleKind (mixKind X.prog X.w)).hash x.1) = (kvs.map (·.1)).map (tupleKind (mixKind X.prog X.w)).hash := by rw [← k1, List.map_map]; rfl
    rw [this]
    exact hap
  · have new : ∀ H2 : Hp, (∀ b ys, H b = some (.tup ys) → H2 b = some (.tup ys)) → ObjOk X.prog X.w H2 h' s.heap.objs.size (.dT kvs) := fun H2 k => by
      obtain ⟨o, es, ep, h1, h2, h3, h4, _, h5⟩ := dd'
      exact ⟨z, beq_eq_false_iff_ne.mpr (Ne.symm (Nat.ne_of_lt I.big)), xs, rel.keeps k, o, es, ep, h1, h2, h3, h4, h5⟩
    have hf : H s.heap.objs.size = none := I.hok.fresh (Nat.le_refl _)
    exact h _ _ hf (I.laid (a := s.heap.objs.size) (o := .dT kvs) (t' := s.toks) (fun b q hq => (hs.2 b (Nat.ne_of_lt (Heap.lt_size hq))).trans (Heap.get?_push_of_some _ hq)) (Nat.le_refl _) (new _ fun b ys e => by rw [upd_ne (ne_of_none e hf)]; exact e))
def cDictT (P : Program) (w : World) : List V → Hp → VK → Prop := fun xs H Q => ∃ a kvs, xs = [.ref a] ∧ Rd H a (.dT kvs) ∧ HashApart P w (kvs.map (·.1)) ∧ ∀ p, H p = none → Q (.ref p) (upd H p (.dT kvs))
theorem cr_dictT (hu : X.A.units + 3 < cLine) : CallR X (.type "dict") (cDictT X.prog X.w) := by
  intro pins s σ H xs us Q I r h
  obtain ⟨a, kvs, rfl, hd, hap, q⟩ := h
  obtain rfl := Vals.ref1 r
  exact d_copyT hu I hd hap fun p s' hp I' => ⟨.ref p, _, I', rfl, q p hp⟩
/-- d.pop(k) -/
def rPop1T : V → List V → Hp → VK → Prop := fun x xs H Q => ∃ (a : Addr) (kvs : List (List L2.Key × V)) (k : List L2.Key) (b : Addr) (v : V), x = .ref a ∧ xs = [.ref b] ∧ H a = some (.dT kvs) ∧ H b = some (.tup (k.map kV)) ∧ valV kvs k = some v ∧ Q v (upd H a (.dT (dropK kvs k)))
theorem mt_pop1T (hu : X.A.units + 1 < cLine) : MtR X "dict.pop" rPop1T := by
  intro pins s σ H x xs v us Q I rx rxs h
  obtain ⟨a, kvs, k, b, v0, rfl, rfl, ha, hb, ev, q1⟩ := h
  cases rx
  obtain rfl := Vals.ref1 rxs
  obtain ⟨z, hd, xs', rel, dd⟩ := dt_of I.hok ha
  have hz : xs'.length ≤ sizeLine := by rw [← Paired.length rel]; exact z
  have r := rel.val k
  rw [ev] at r
  obtain ⟨p, hp, rv⟩ : ∃ p, atKey xs' k = some p ∧ RelV v0 p.2 := by
    cases e : atKey xs' k with
    | none => rw [e] at r; exact (show False from r).elim
    | some p => rw [e] at r; exact ⟨p, rfl, r⟩
  refine call_meetsIn PySem.F.slot_dict_pop dd.typeIs PySem.F.entry_dict_pop (PySem.F.args_dict_pop_2 _ _) (meetsPop1 (knd := tupleKind (mixKind X.prog X.w)) (k := k) hd)
    ⟨xs', p, tupleKind_room_in1 hu, key_of I.hok hb, dd, hz, hp, fun h' tk dd' hs => ?_⟩
  obtain ⟨o, es, ep, hq, h2, h3, h4, _, h5⟩ := dd'
  have I2 : Inv X pins σ (upd H a (.dT (dropK kvs k))) { s with heap := h', toks := tk } :=
    d_write I (by rw [ha]; exact True.intro) hs ⟨o, hq⟩ ⟨Nat.le_trans (dropK_le kvs k) z, hd, _, (L2.DX.KT_drop k rel).keeps (fun c ys ec => (by rw [upd_ne (ne_of ec ha (fun z => nomatch z))]; exact ec)), o, es, ep, hq, h2, h3, h4, h5⟩
  show EP X pins σ Q p.2 _
  exact ⟨v0, _, I2, rv, q1⟩
end
end XX

/-! XE35: list(d.items()), keys tuples. -/
namespace XX
open PySem PySem.Spec PyProof.Rows L2 L2.DX PyProof.V PySem.W
variable {X : Cx}
def cListItT : List V → Hp → VK → Prop := fun xs H Q => ∃ p a kvs, xs = [.ref p] ∧ H p = some (itemsO p a) ∧ H a = some (.dT kvs) ∧
  ∀ (l : Addr) (as : List Addr) (H' : Hp), H l = none → (∀ T ∈ as, H T = none) → (∀ b o, H b = some o → H' b = some o) → H' l = some (.lst (as.map V.ref)) →
    Paired (fun (kv : List L2.Key × V) (T : Addr) => ∃ q, H' T = some (.tup [.ref q, kv.2]) ∧ H q = some (.tup (kv.1.map kV))) kvs as → Q (.ref l) H'
theorem paired_of {α β : Type} {F : α → β → Prop} : ∀ {xs : List α} {ys : List β}, xs.length = ys.length → (∀ (j : Nat) (y : β), ys[j]? = some y → ∃ x, xs[j]? = some x ∧ F x y) → Paired F xs ys
  | [], [], _, _ => .nil
  | x :: xs, y :: ys, hl, h => by
    obtain ⟨x', h1, h2⟩ := h 0 y rfl
    cases h1
    exact .cons h2 (paired_of (Nat.succ.inj hl) fun j z hz => h (j + 1) z hz)
  | [], _ :: _, hl, _ => by cases hl
  | _ :: _, [], hl, _ => by cases hl
theorem cr_listItT (hc : X.calm = true) : CallR X (.type "list") cListItT := by
  intro pins s σ H xs us Q I r h
  obtain ⟨p, a, kvs, rfl, hp, ha, q⟩ := h
  obtain rfl := Vals.ref1 r
  have view : s.heap.IsItemsView p a := (show ObjOk X.prog X.w H s.heap p (itemsO p a) from I.hok p _ hp).1
  obtain ⟨z, hd, xs', rel, o, es, ep, ho, hx, hdat, hes, his, hn⟩ := dt_of I.hok ha
  have l1 : kvs.length = xs'.length := Paired.length rel
  have l2 : es.size = xs'.length := size_of_entries hes
  refine dil_call (es := es) (ep := ep) (I.ok.hd hc) view ⟨o, ho, hx, hdat⟩ (by omega) fun h' tk acc c as hk hS hl hG hacc => ?_
  have nd : as.Nodup := List.Pairwise.imp (fun h => Nat.ne_of_lt h) hG.rise
  have pr : ∀ (j : Nat) (b : Addr), as[j]? = some b → ∃ (kv : List L2.Key × V) (kq : Addr) (u : Value), kvs[j]? = some kv ∧ H kq = some (.tup (kv.1.map kV)) ∧ RelV kv.2 u ∧ h'.get? b = some { cls := .type "tuple", data := .seq #[Value.ref kq, u] } := by
    intro j b hj
    obtain ⟨hje, hg⟩ := hG.pairs j b hj
    have he : es[j]? = some es[j] := Array.getElem?_eq_getElem hje
    generalize es[j] = en at he hg
    rw [entry_at hes j] at he
    cases hxj : xs'[j]? with
    | none =>
      rw [hxj] at he
      exact nomatch (show (none : Option DictEntry) = some en from he)
    | some x =>
      rw [hxj] at he
      have een : entryOfKey (tupleKind (mixKind X.prog X.w)) x = en := Option.some.inj he
      obtain ⟨kv, hkv, r1, r2, r3⟩ := pget rel hxj
      refine ⟨kv, x.2.1, x.2.2, hkv, r2, r3, ?_⟩
      rw [hg, ← een]
      all_goals rfl
  have I1 : Inv X pins σ H { s with heap := h', toks := tk } := I.kept (t' := tk) fun b ob e => hk b ob e
  have hl0 : H s.heap.objs.size = none := I.hok.fresh (Nat.le_refl _)
  have lak : as.length = kvs.length := by omega
  have I2 : Inv X pins σ (upd H s.heap.objs.size (.lst (as.map V.ref))) { s with heap := h', toks := tk } :=
    I1.take (h' := h') (t' := tk) (fun b ob _ e => e) (I.fpOk (Nat.le_refl _) hl0) ⟨by rw [List.length_map]; omega, acc.toList, c, by rw [hacc]; exact vals_refs _, by rw [Array.toArray_toList]; exact hS⟩
  obtain ⟨H2, I3, g, qq⟩ := takeT (P := fun b vs => ∃ (j : Nat) (kv : List L2.Key × V) (kq : Addr), as[j]? = some b ∧ kvs[j]? = some kv ∧ vs = [.ref kq, kv.2] ∧ H kq = some (.tup (kv.1.map kV))) I as _ I2 nd fun b hb => by
    have hab := hG.above b hb
    obtain ⟨j, hj⟩ := List.mem_iff_getElem?.mp hb
    obtain ⟨kv, kq, u, h1, h2, h3, h4⟩ := pr j b hj
    refine ⟨Nat.le_of_lt hab, ?_, [.ref kq, kv.2], ⟨j, kv, kq, hj, h1, rfl, h2⟩, fun H2 => ⟨by show 2 ≤ sizeLine; decide, [.ref kq, u], .cons rfl (.cons h3 .nil), ⟨_, h4, rfl, _, rfl⟩⟩⟩
    rw [upd_ne (Nat.ne_of_gt hab)]
    exact I.hok.fresh (Nat.le_of_lt hab)
  refine ⟨.ref s.heap.objs.size, H2, I3, rfl, q s.heap.objs.size as H2 hl0 (fun T hT => I.hok.fresh (Nat.le_of_lt (hG.above T hT))) (fun b o e => g b o (by rw [upd_ne (ne_of_none e hl0)]; exact e)) (g _ _ upd_same) ?_⟩
  refine paired_of (by omega) fun j b hj => ?_
  obtain ⟨vs, ⟨j', kv, kq, h1, h2, rfl, h3⟩, h4⟩ := qq b (List.mem_of_getElem? hj)
  have ej : j' = j := by
    obtain ⟨hj1, e1⟩ := List.getElem?_eq_some_iff.mp h1
    obtain ⟨hj2, e2⟩ := List.getElem?_eq_some_iff.mp hj
    have nd2 := List.pairwise_iff_getElem.mp (List.nodup_iff_pairwise_ne.mp nd)
    rcases Nat.lt_trichotomy j' j with z | z | z
    · exact absurd (e1.trans e2.symm) (nd2 j' j hj1 hj2 z)
    · exact z
    · exact absurd (e2.trans e1.symm) (nd2 j j' hj2 hj1 z)
  subst ej
  exact ⟨kv, h2, kq, h4, h3⟩
end XX

/-! XE36: dict(d), d.pop(k), {}, list(d), list(d.items()), len(d) told over (rho, M), keys tuples. -/
namespace XD
open PySem PySem.Spec PyProof.Rows L2 L2.DX XX
section
variable {K : PySem.W.Frag} [Bs K] {ρ : Rho} {M M' : Mm} {R : RD}
/-- what stands stays, more stands -/
theorem Wd.ext {G H H' : Hp} (w : Wd K G M H) (e : ∀ b o, H b = some o → H' b = some o) : Wd K G M H' := by
  refine ⟨⟨fun a o h => ?_, fun p hp => ?_, w.nd, w.nt⟩, w.bs⟩
  · rcases w.ex a o h with q | ⟨d, od, q, m⟩
    · exact .inl (e _ _ q)
    · exact .inr ⟨d, od, e _ _ q, m⟩
  · have ok : MoOk K G H p.1 p.2 := w.mo p hp
    obtain ⟨o, ho⟩ := ok.some
    exact ok.up (Ex.refl G) ((e _ _ ho).trans ho.symm) ok.gnone
theorem Wd.seenL {G H : Hp} (w : Wd K G M H) {q : Addr} {xs : List V} (h : H q = some (.lst xs)) (n : q ∉ M.map (·.1)) : ∃ G', Ex G G' ∧ Wd K G' M H ∧ G' q = some (.lst xs) := by
  cases e : G q with
  | some o =>
    rcases w.ex q o e with e2 | ⟨_, od, e2, _⟩
    · rw [h] at e2
      cases e2
      exact ⟨G, Ex.refl G, w, e⟩
    · rw [h] at e2
      cases e2
  | none =>
    refine ⟨upd G q (.lst xs), Ex.new e, ⟨⟨fun a u z => ?_, fun p hp => ?_, w.nd, nt_upd w.nt (by intro ps z; cases z)⟩, w.bs.trans (Ex.new e)⟩, upd_same⟩
    · by_cases za : a = q
      · rw [za, upd_same] at z
        cases z
        rw [za]
        exact .inl h
      · rw [upd_ne za] at z
        exact w.ex a u z
    · have ok : MoOk K G H p.1 p.2 := w.mo p hp
      have hne : p.1 ≠ q := fun z => n (z ▸ List.mem_map_of_mem (f := (·.1)) hp)
      exact ok.up (Ex.new e) rfl fun l => by rw [upd_ne hne]; exact ok.gnone l
theorem RpT.keys {G : Hp} : ∀ {xs : List (List Key × V)} {ds : List (List Key × D)}, RpT K G xs ds → xs.map (·.1) = ds.map (·.1) := by
  intro xs
  induction xs with
  | nil => intro ds h; cases h; rfl
  | cons x xs ih => intro ds h; cases h with | cons h r => rw [List.map_cons, List.map_cons, ih r]
def dropKD {κ : Type} [DecidableEq κ] (kvs : List (κ × D)) (k : κ) : List (κ × D) := kvs.filter fun kv => decide (kv.1 ≠ k)
theorem RpT.drop {G : Hp} {k : List Key} : ∀ {xs : List (List Key × V)} {ds : List (List Key × D)}, RpT K G xs ds → RpT K G (dropK xs k) (dropKD ds k) := by
  intro xs
  induction xs with
  | nil => intro ds h; cases h; exact .nil
  | cons x xs ih =>
    intro ds h
    cases h with
    | @cons k' v _ d ds h r =>
      unfold dropK dropKD
      by_cases q : k' = k
      · rw [List.filter_cons_of_neg (by simp [q]), List.filter_cons_of_neg (by simp [q])]
        exact ih r
      · rw [List.filter_cons_of_pos (by simp [q]), List.filter_cons_of_pos (by simp [q])]
        exact .cons h (ih r)
/-- dict(d): a new dict that will change -/
theorem xc_dictT {P : Program} {w : World} {x : D} {kvs : List (List Key × D)} (t : DcT M x kvs) (ap : HashApart P w (kvs.map (·.1))) (r : ∀ p, R (.ref p) ((p, .dt kvs) :: M)) : Xc K (cDictT P w) [x] M R := by
  intro vs G H Q rs w' k
  cases rs with
  | cons h1 t2 =>
    cases t2
    obtain ⟨a, xs, rfl, hd, rk⟩ := t.at h1 w'
    refine ⟨a, xs, rfl, hd, by rw [rk.keys]; exact ap, fun p hp => ?_⟩
    exact k (.ref p) (.ref p) G _ _ (Ex.refl G) (.ref p) (w'.newM (m := .dt kvs) hp ⟨w'.gfree hp, xs, upd_same, rk⟩) (r p)
theorem xm_pop1T {a : Addr} {kvs : List (List Key × D)} {k : List Key} {d : D} (hm : Has M a (.dt kvs)) (hv : valD kvs k = some d) (hp : Put M a (.dt (dropKD kvs k)) M') (r : R d M') : Xm K rPop1T (.ref a) [tD k] M R := by
  intro vx vs G H Q rx rs w kk
  cases rx
  cases rs with
  | cons h1 t2 =>
    cases t2
    obtain ⟨b, rfl, hb⟩ := rp_tD h1
    obtain ⟨g0, xs, h2, rk⟩ := w.get hm
    rcases rk.val (k := k) with ⟨h3, _⟩ | ⟨d2, v2, h3, h4, h5⟩
    · rw [h3] at hv; cases hv
    · have ed : d2 = d := Option.some.inj (h3.symm.trans hv)
      subst ed
      exact ⟨a, xs, k, b, v2, rfl, rfl, h2, w.tup hb, h4, kk v2 _ G M' _ (Ex.refl G) h5 (w.put hp g0 ⟨g0, _, upd_same, rk.drop⟩) r⟩
theorem refs_seen {H : Hp} : ∀ {kvs : List (List Key × V)} {bs : List Addr} {G : Hp}, Wd K G M H → IsKeys H kvs bs → ∃ G', Ex G G' ∧ Wd K G' M H ∧ RpA K G' (bs.map V.ref) (kvs.map fun kv => tD kv.1)
  | [], [], G, w, _ => ⟨G, Ex.refl G, w, .nil⟩
  | kv :: kvs, b :: bs, G, w, h => by
    cases h with
    | cons h t =>
      obtain ⟨G1, e1, w1, hG⟩ := w.seen h
      obtain ⟨G2, e2, w2, r2⟩ := refs_seen w1 t
      exact ⟨G2, e1.trans e2, w2, .cons (.tup (e2 _ _ hG) (rpA_kV kv.1)) r2⟩
  | [], _ :: _, _, _, h => by cases h
  | _ :: _, [], _, _, h => by cases h
def cListT : List V → Hp → VK → Prop := fun xs H Q => ∃ d kvs, xs = [V.ref d] ∧ Rd H d (.dT kvs) ∧ ∀ p bs, H p = none → IsKeys H kvs bs → Q (.ref p) (upd H p (.lst (bs.map V.ref)))
theorem c_listT {X : Cx} (hc : X.calm = true := by rfl) : CallR X (.type "list") cListT := call_list_dT hc
/-- list(d): the keys -/
theorem xc_listT {x : D} {kvs : List (List Key × D)} (t : DcT M x kvs) (r : R (.lst (kvs.map fun kv => tD kv.1)) M) : Xc K cListT [x] M R := by
  intro vs G H Q rs w k
  cases rs with
  | cons h1 t2 =>
    cases t2
    obtain ⟨a, xs, rfl, hd, rk⟩ := t.at h1 w
    refine ⟨a, xs, rfl, hd, fun l bs hl ks => ?_⟩
    obtain ⟨G1, e1, w1, r1⟩ := refs_seen w ks
    have e := Ex.new (o := .lst (bs.map V.ref)) (w1.gfree hl)
    have ek : (xs.map fun kv => tD kv.1) = kvs.map fun kv => tD kv.1 := by
      have := congrArg (List.map tD) rk.keys
      rwa [List.map_map, List.map_map] at this
    exact k _ _ _ M _ (e1.trans e) (.lst upd_same (by rw [← ek]; exact r1.up e)) (w1.new hl) r
theorem pairs_seen {G0 H H' : Hp} (e : ∀ b o, H b = some o → H' b = some o) : ∀ {xs : List (List Key × V)} {kvs : List (List Key × D)} {as : List Addr} {G : Hp}, Ex G0 G → Wd K G M H' → RpT K G0 xs kvs →
    Paired (fun (kv : List Key × V) (T : Addr) => ∃ q, H' T = some (.tup [.ref q, kv.2]) ∧ H q = some (.tup (kv.1.map kV))) xs as → ∃ G', Ex G G' ∧ Wd K G' M H' ∧ RpA K G' (as.map V.ref) (kvs.map fun kv => .tup [tD kv.1, kv.2])
  | [], kvs, [], G, e0, w, rk, _ => by
    cases rk
    exact ⟨G, Ex.refl G, w, .nil⟩
  | (k, v) :: xs, kvs, a :: as, G, e0, w, rk, h => by
    cases rk with
    | cons hv rk =>
      cases h with
      | cons h t =>
        obtain ⟨q, h1, h2⟩ := h
        obtain ⟨G1, e1, w1, hG1⟩ := w.seen (e _ _ h2)
        obtain ⟨G2, e2, w2, hG2⟩ := w1.seen h1
        obtain ⟨G3, e3, w3, r3⟩ := pairs_seen e (e0.trans (e1.trans e2)) w2 rk t
        exact ⟨G3, (e1.trans e2).trans e3, w3, .cons (.tup (e3 _ _ hG2) (.cons (.tup (e3 _ _ (e2 _ _ hG1)) (rpA_kV k)) (.cons (hv.up (((e0.trans e1).trans e2).trans e3)) .nil))) r3⟩
  | [], _, _ :: _, _, _, _, _, h => by cases h
  | _ :: _, _, [], _, _, _, _, h => by cases h
/-- list(d.items()) -/
theorem xe_listIt {td : TE} (h : Xe K td ρ M fun x M1 => ∃ kvs, DcT M1 x kvs ∧ (∀ a ks od, x = .dt a ks → (a, MO.lck od) ∉ M1) ∧ R (.lst (kvs.map fun kv => .tup [tD kv.1, kv.2])) M1) : Xe K (tCB cListItT (tCons (tBM0 K "dict" rItemsT td) tNil)) ρ M R := by
  intro σ G H Q s w k
  refine h σ G H _ s w fun v x G1 M1 H1 e1 r1 w1 q => ?_
  obtain ⟨kvs, t, nl, q⟩ := q
  obtain ⟨a, xs, rfl, ha, rk⟩ : ∃ a xs, v = .ref a ∧ H1 a = some (.dT xs) ∧ RpT K G1 xs kvs := by
    cases t with
    | fr a kvs =>
      cases r1 with
      | dt h r => exact ⟨_, _, rfl, w1.free h fun od => nl a kvs od rfl, r⟩
    | mt hm =>
      cases r1
      obtain ⟨_, xs, h1, h2⟩ := w1.get hm
      exact ⟨_, xs, rfl, h1, h2⟩
  refine ⟨.inr (.inr (.inl ⟨rfl, .inr ⟨_, ha⟩⟩)), a, xs, rfl, rfl, ha, fun p hp => ?_⟩
  show cListItT [.ref p] (upd H1 p (itemsO p a)) Q
  have w2 : Wd K (upd G1 p (itemsO p a)) M1 (upd H1 p (itemsO p a)) := w1.new hp (by intro ps z; unfold itemsO at z; cases z)
  have eg := Ex.new (o := itemsO p a) (w1.gfree hp)
  refine ⟨p, a, xs, rfl, upd_same, by rw [upd_ne (ne_of_none ha hp)]; exact ha, fun l as H' hl has e hL pr => ?_⟩
  have w3 := w2.ext e
  obtain ⟨G3, e3, w4, r3⟩ := pairs_seen (G0 := G1) e (fun b o z => eg b o z) w3 rk pr
  have nin : l ∉ M1.map (·.1) := w2.nin hl
  obtain ⟨G4, e4, w5, hG4⟩ := w4.seenL hL nin
  exact k (.ref l) _ G4 M1 H' (((e1.trans eg).trans e3).trans e4) (.lst hG4 (r3.up e4)) w5 q
/-- len(d), d not locked -/
theorem xc_lenDT {x : D} {kvs : List (List Key × D)} (t : DcT M x kvs) (nl : ∀ a ks od, x = .dt a ks → (a, MO.lck od) ∉ M) (r : R (.int kvs.length) M) : Xc K rLenT [x] M R := by
  intro vs G H Q rs w k
  cases rs with
  | @cons v _ _ _ h1 t2 =>
    cases t2
    obtain ⟨a, xs, rfl, ha, rk⟩ : ∃ a xs, v = V.ref a ∧ H a = some (.dT xs) ∧ RpT K G xs kvs := by
      cases t with
      | fr a kvs =>
        cases h1 with
        | dt h r => exact ⟨_, _, rfl, w.free h fun od => nl a kvs od rfl, r⟩
      | mt hm =>
        cases h1
        obtain ⟨_, xs, h1, h2⟩ := w.get hm
        exact ⟨_, xs, rfl, h1, h2⟩
    exact ⟨a, xs, rfl, ha, by rw [rk.length]; exact k _ _ G M H (Ex.refl G) (.int _) w r⟩
end
end XD

/-! XE37: dict comprehensions whose keys are tuples (at the machine); after XE28's list comprehension. -/
namespace XX
open PySem PySem.Spec PyProof.Rows L2 L2.DX
theorem d_dictSetT {X : Cx} {pins : List (Addr × Obj)} {σ : L2.St} {H : Hp} {s : Shared} {E : Value → Shared → Prop} {D b : Addr} {kvs : List (List Key × V)} {k : List Key} {v : V} {u r : Value} {Q : Unit → Shared → Prop} (hu : X.A.units + 1 < cLine) (I : Inv X pins σ H s) (hD : H D = some (.dT kvs)) (hz : kvs.length < sizeLine)
    (eb : H b = some (.tup (k.map kV))) (ry : RelV (.ref b) u) (rv : RelV v r) (h : ∀ s', Inv X pins σ (upd H D (.dT (putK kvs k v))) s' → Q () s') : wpAny (model X.prog X.w) X.A (dictSet D u r) Q E s := by
  cases (show u = Value.ref b from ry)
  obtain ⟨z, hd, xs, rel, dd⟩ := dt_of I.hok hD
  have hz2 : xs.length ≤ sizeLine := by rw [← Paired.length rel]; exact z
  have hl : (putK kvs k v).length ≤ sizeLine := by have := length_putK kvs k v; omega
  refine wpAny_dictSet_heap (hsz := hz2) (knd := tupleKind (mixKind X.prog X.w)) (show X.A.units < cLine by omega) (key_of I.hok eb) dd fun h' dd' hs => h _ ?_
  obtain ⟨q, es, ep, hq, h2, h3, h4, _, h5⟩ := dd'
  refine d_write I (by rw [hD]; exact True.intro) hs ⟨q, hq⟩ ⟨hl, hd, _, (rel.put k eb rv).keeps fun c ys ec => ?_, q, es, ep, hq, h2, h3, h4, h5⟩
  rw [upd_ne (ne_of ec hD (fun z => nomatch z))]
  exact ec
/-- {k: v for g in w if t}, keys tuples: C the new dict -/
def tDcT (wi : TI) (g : TG) (tt : TT) (tk tv : TE) (vs : List Nat) : TE := fun σ H Q => wi σ H fun J H1 => ∀ C, H1 C = none → ∃ W : Nat → Nat → Hp → Prop, (∃ m, W 0 m (upd H1 C (.dT []))) ∧ ∀ i m H, W i m H →
  (J.stop i H ∧ Q (.ref C) H) ∨ (J.go i H ∧ ∃ Nx : Hp → Prop, (∀ H', Nx H' → ∃ m', m' < m ∧ W (i + 1) m' H') ∧ ∀ x H', J.yld i H x H' → g x (wipe σ vs) H' fun σ2 H2 => wipe σ2 vs = wipe σ vs ∧ tt σ2 H2 fun b H3 =>
    if b = true then tk σ2 H3 fun y H4 => tv σ2 H4 fun z H5 => ∃ kvs k b, y = .ref b ∧ H5 b = some (.tup (k.map kV)) ∧ H5 C = some (.dT kvs) ∧ kvs.length < sizeLine ∧ Nx (upd H5 C (.dT (putK kvs k z))) else Nx H3)
section
variable {X : Cx}
theorem dcT_core {pins : List (Addr × Obj)} {s : Shared} {σ : L2.St} {H : Hp} {Q : VK} {kx vx tg iter : Expr} {ifs : List Expr} {scope : Scope} {own : List (Str × Nat)} {pos pos2 : Pos} {wi : TI} {g : TG} {tt : TT} {tk tv : TE} {use : Option (Value → Sem Unit)} {Qf : Value → Shared → Prop} (hu : X.A.units + 1 < cLine) (hc : X.calm = true) (hN : X.N.Nodup) (I : Inv X pins σ H s) (hi : PI X tg iter wi) (ok : BlkOk X.N X.env.scope scope own)
    (hg : ∀ (s : Shared) (H : Hp) (C : Addr) (cl : List (Str × Addr)) (fp : List Addr), PG (X.blk s H scope (compEnvC scope cl C X.env) fp) tg g)
    (ht : ∀ (s : Shared) (H : Hp) (C : Addr) (cl : List (Str × Addr)) (fp : List Addr), PTs (X.blk s H scope (compEnvC scope cl C X.env) fp) ifs tt)
    (hk : ∀ (s : Shared) (H : Hp) (C : Addr) (cl : List (Str × Addr)) (fp : List Addr), PE (X.blk s H scope (compEnvC scope cl C X.env) fp) kx tk)
    (he : ∀ (s : Shared) (H : Hp) (C : Addr) (cl : List (Str × Addr)) (fp : List Addr), PE (X.blk s H scope (compEnvC scope cl C X.env) fp) vx tv)
    (hs : ∀ x, foldedSetIterable iter X.env x = pure x) (h : tDcT wi g tt tk tv (own.map (·.2)) σ H Q)
    (hRR : ∀ (D C : Addr) (cl : List (Str × Addr)) (s' : Shared) (m : Str → Option Value) (H' : Hp), Inv X pins σ H' s' → Q (.ref D) H' → s'.heap.Ns C m → FpOk X pins H' C → compEnds (model X.prog X.w) X.A X.xe use Qf (.ref D) (compEnvC scope cl C X.env) (.ok .next) s') :
    wpAny (model X.prog X.w) X.A (comprehension (.DictComp kx vx [⟨tg, iter, ifs, 0⟩] scope pos) scope X.env pos2 newDict false (eval iter X.env) use) Qf X.xe s := by
  generalize hvs : own.map (·.2) = vs at *
  have hfree : ∀ y ∈ scope.names, y.2 = .free → ∃ c, X.env.cells.lookup y.1 = some c := fun y hy e => I.ok.has _ (ok.free y hy e)
  refine comprehension_at (use := use) rfl hs (closure_ok hfree) ok.kind (fun y hy e => by rw [ok.uniq y hy, e]) (thn (hi.run pins s σ H _ I h) fun xv s1 hx => thn hx fun itv s2 h2 => ?_)
  obtain ⟨it, fp, tn, J, H2, rfl, I2, T, st2, f2, q⟩ := h2
  refine wpAny_newObj_type (newEnv_comp ?_)
  have hDn : H2 s2.heap.objs.size = none := I2.hok.fresh (Nat.le_refl _)
  obtain ⟨W, ⟨m0, w0⟩, turn⟩ := q _ hDn
  generalize hD : s2.heap.objs.size = D at hDn w0 turn ⊢
  generalize hH3 : upd H2 D (.dT []) = H3 at w0
  generalize hs3 : ({ s2 with heap := s2.heap.push { cls := .type "dict", data := .dict #[] } } : Shared) = s3
  have e3 : s3.heap = s2.heap.push { cls := .type "dict", data := .dict #[] } := by rw [← hs3]
  have I3 : Inv X pins σ H3 s3 := by
    subst hH3 hs3 hD
    exact I2.laid (t' := s2.toks) (fun b o e => Heap.get?_push_of_some _ e) (Nat.le_refl _) (dt_empty s2.heap I2.big)
  have f3 : ∀ b ∈ fp, FpOk X pins H3 b ∧ b < s3.heap.objs.size := fun b hb => by
    obtain ⟨o, e, _⟩ := T.obj _ _ st2 b hb
    have hlt : b < s2.heap.objs.size := Heap.lt_size e
    refine ⟨⟨?_, (f2 b hb).2⟩, by rw [e3, Heap.size_push]; exact Nat.lt_succ_of_lt hlt⟩
    rw [← hH3, upd_ne (hD ▸ Nat.ne_of_lt hlt)]
    exact (f2 b hb).1
  have st3 : tn 0 s3.heap := T.keep _ _ _ st2 fun b _ o e => by
    rw [e3]
    exact Heap.get?_push_of_some _ e
  have I4 := block_start I3 ok hN f3
  generalize hcl : cellsFrom (s3.heap.objs.size + 1) scope.names (cloFrom X.env.cells scope.names []) = cl at I4
  show codeAny _ _ (.compStart (.DictComp kx vx [⟨tg, iter, ifs, 0⟩] scope pos) 0 (.ref it) (.ref D) (compEnvC scope cl s3.heap.objs.size X.env)) (compEnds (model X.prog X.w) X.A X.xe use Qf (.ref D) (compEnvC scope cl s3.heap.objs.size X.env)) { s3 with heap := pushCells (s3.heap.push { cls := .type "dict", data := .dict #[] }) scope.names }
  have pg := hg s3 H3 s3.heap.objs.size cl fp
  have back : ∀ {pins' : List (Addr × Obj)} {σ' : L2.St} {H' : Hp} {s' : Shared}, Inv (X.blk s3 H3 scope (compEnvC scope cl s3.heap.objs.size X.env) fp) pins' σ' H' s' → Inv X pins σ H' s' := fun I' => I3.call' (ch := fp) I'.os I'.base I'.hok I'.bare fun b hb => let z := (f3 b hb).1.2; ⟨z.2.2.1, z.1, z.2.2.2.1, z.2.2.2.2⟩
  have pt := ht s3 H3 s3.heap.objs.size cl fp
  have pk := hk s3 H3 s3.heap.objs.size cl fp
  have pe := he s3 H3 s3.heap.objs.size cl fp
  have nfp : ∀ b ∈ fp, H3 b = none := fun b hb => (f3 b hb).1.1
  generalize hs4 : ({ s3 with heap := pushCells (s3.heap.push { cls := .type "dict", data := .dict #[] }) scope.names } : Shared) = s4 at I4 ⊢
  have st4 : tn 0 s4.heap := T.keep _ _ _ st3 fun b _ o e => by
    rw [← hs4]
    exact pushCells_keeps _ _ _ _ (Heap.get?_push_of_some _ e)
  generalize hce : compEnvC scope cl s3.heap.objs.size X.env = ce at I4 pg pt pk pe ⊢
  have cL : ce.locals = s3.heap.objs.size := by rw [← hce]; rfl
  rw [hvs] at I4
  have fpB : ∀ {σ' : L2.St} {H' : Hp} {s' : Shared}, Inv (X.blk s3 H3 scope ce fp) [] σ' H' s' → (∀ b ∈ fp, H' b = none) → ∀ b ∈ fp, FpOk (X.blk s3 H3 scope ce fp) [] H' b := fun I' hn b hb =>
    ⟨hn b hb, (I'.ok.exf b hb).1, I'.ok.exfs b hb, .inl hb, (I'.ok.exf b hb).2, fun p hp => nomatch (show p ∈ ([] : List (Addr × Obj)) ++ [] from hp)⟩
  let Bk := X.blk s3 H3 scope ce fp
  have backC : ∀ {pins' : List (Addr × Obj)} {σ' : L2.St} {H' : Hp} {s' : Shared}, Inv Bk pins' σ' H' s' → Inv X pins σ H' s' := by
    intro pins' σ' H' s' I'
    subst hce
    exact back I'
  have loop : codeAny (model X.prog X.w) X.A (.compLoop (.DictComp kx vx [⟨tg, iter, ifs, 0⟩] scope pos) 0 (.ref it) (.ref D) ce) (compEnds (model X.prog X.w) X.A X.xe use Qf (.ref D) ce) s4 := by
    refine compLoop_anyD (fun n s' => ∃ (i : Nat) (H' : Hp), Inv Bk [] (wipe σ vs) H' s' ∧ tn i s'.heap ∧ (∀ b ∈ fp, H' b = none) ∧ W i n H') (fun n s5 hI => ?_) m0 ⟨0, H3, I4, st4, nfp, w0⟩
    obtain ⟨i, H5, I5, st5, n5, w5⟩ := hI
    rcases turn i n H5 w5 with ⟨stop, qq⟩ | ⟨go, Nx, hNx, step⟩
    · refine thnF (T.done Bk rfl rfl rfl hc i [] s5 _ H5 (fun _ _ => False) I5 (fpB I5 n5) st5 stop) fun r s6 hr => ?_
      obtain ⟨rfl, I6⟩ := hr
      obtain ⟨m, hn, _⟩ := I6.loc
      have hn : s6.heap.Ns ce.locals m := hn
      rw [← hce]
      exact hRR D _ cl s6 m H5 (backC I6) qq (cL ▸ hn) (I3.fpOk (Nat.le_refl _) (cL ▸ I6.free))
    · refine thnF (T.item Bk rfl rfl rfl hc i [] s5 _ H5 (fun _ _ => False) I5 (fpB I5 n5) st5 go) fun r s6 hr => ?_
      obtain ⟨u, rfl, h6⟩ := hr
      refine thnF h6 fun _ s7 h7 => ?_
      obtain ⟨x, H7, I7, r7, y7, st7, n7⟩ := h7
      have P7 := I7.pinned (fpB I7 n7) (T.obj _ _ st7)
      refine thnF (pg.run _ s7 _ H7 x u _ P7 r7 (step x H7 y7)) fun _ s8 h8 => ?_
      obtain ⟨σ8, H8, I8, hw8, q8⟩ := h8
      refine thnF (pt.run _ s8 σ8 H8 _ I8 q8) fun b s9 h9 => ?_
      obtain ⟨H9, I9, q9⟩ := h9
      have turned : ∀ {s' : Shared} {H' : Hp}, Inv Bk ([] ++ pinsAt fp s7.heap) σ8 H' s' → Nx H' → ∃ m, m < n ∧ ∃ (i : Nat) (H' : Hp), Inv Bk [] (wipe σ vs) H' s' ∧ tn i s'.heap ∧ (∀ b ∈ fp, H' b = none) ∧ W i m H' := fun {s' H'} I' nx => by
        obtain ⟨m', hm, w'⟩ := hNx _ nx
        have held : ∀ b ∈ fp, ∀ o, s7.heap.get? b = some o → s'.heap.get? b = some o ∧ H' b = none := fun b hb o e =>
          let z := I'.pin (b, o) (List.mem_append_right _ (List.mem_append_right _ (mem_pinsAt hb e)))
          ⟨z.1, z.2.1⟩
        refine ⟨m', hm, i + 1, _, (I'.unpinned (pins := [])).weak (by rw [← hw8, wipe_length]) (fun j v e => ?_), T.keep _ _ _ st7 fun b hb o e => (held b hb o e).1, fun b hb => ?_, w'⟩
        · rw [← hw8] at e
          exact (wipe_some e).1
        · obtain ⟨o, e, _⟩ := T.obj _ _ st7 b hb
          exact (held b hb o e).2
      cases b with
      | false =>
        simp only [Bool.false_eq_true, if_false] at q9 ⊢
        exact turned I9 q9
      | true =>
        simp only [if_true] at q9 ⊢
        refine thnF (pk.run _ s9 σ8 H9 _ I9 q9) fun z s10 h10 => ?_
        obtain ⟨yk, H10, I10, r10, q10⟩ := h10
        refine thnF (pe.run _ s10 σ8 H10 _ I10 q10) fun z2 s11 h11 => ?_
        obtain ⟨yv, H11, I11, r11, kvs, k, bk, ek, hb11, hD11, hz11, nx⟩ := h11
        subst ek
        exact d_dictSetT (X := Bk) hu I11 hD11 hz11 hb11 r10 r11 fun s12 I12 => turned I12 nx
  exact codeAny_compStart_dict loop (T.self X.A 0 _ _ _ st4 loop)
theorem pe_dcT {kx vx tg iter : Expr} {ifs : List Expr} {scope : Scope} {own : List (Str × Nat)} {pos : Pos} {wi : TI} {g : TG} {tt : TT} {tk tv : TE} (hu : X.A.units + 1 < cLine) (hc : X.calm = true) (hN : X.N.Nodup) (hi : PI X tg iter wi) (ok : BlkOk X.N X.env.scope scope own)
    (hg : ∀ (s : Shared) (H : Hp) (C : Addr) (cl : List (Str × Addr)) (fp : List Addr), PG (X.blk s H scope (compEnvC scope cl C X.env) fp) tg g)
    (ht : ∀ (s : Shared) (H : Hp) (C : Addr) (cl : List (Str × Addr)) (fp : List Addr), PTs (X.blk s H scope (compEnvC scope cl C X.env) fp) ifs tt)
    (hk : ∀ (s : Shared) (H : Hp) (C : Addr) (cl : List (Str × Addr)) (fp : List Addr), PE (X.blk s H scope (compEnvC scope cl C X.env) fp) kx tk)
    (he : ∀ (s : Shared) (H : Hp) (C : Addr) (cl : List (Str × Addr)) (fp : List Addr), PE (X.blk s H scope (compEnvC scope cl C X.env) fp) vx tv) (hs : ∀ x, foldedSetIterable iter X.env x = pure x := by intro _; rfl) :
    PE X (.DictComp kx vx [⟨tg, iter, ifs, 0⟩] scope pos) (tDcT wi g tt tk tv (own.map (·.2))) := by
  constructor
  intro pins s σ H Q I h
  rw [arm_eval_DictComp]
  refine dcT_core (use := none) hu hc hN I hi ok hg ht hk he hs h fun D C cl s' m H' I' q hn f => ?_
  obtain ⟨a0, a1, a2, a3, a4, a5⟩ := f
  exact ⟨m, hn, fun h'' sb => ⟨.ref D, H', I'.turned (t' := s'.toks) (fun b o hb e => (sb.2 b hb).trans e) a0 a1 a3 a4 a5, rfl, q⟩⟩
end
end XX

/-! XE38: dict comprehensions with tuple keys told over (rho, M). -/
namespace XD
open PySem PySem.Spec PyProof.Rows L2 XX
section
variable {K : PySem.W.Frag} [Bs K] {ρ : Rho} {M M' : Mm} {R : RD}
/-- {k: v for g in w if t} -/
theorem xe_dcT {wi : TI} {g : TG} {tt : TT} {tk tv : TE} {vs : List Nat} (h : Xi K wi ρ M fun n it lk M1 => lk M1 ∧ (∀ p m, lk ((p, m) :: M1)) ∧ n ≤ 16000000 ∧ ∃ P : Nat → List (List Key × D) → Prop, P 0 [] ∧
    (∀ i d ys p, i < n → it i d → P i ys → Xg K vs g d (wipeD ρ vs) ((p, .dt ys) :: M1) fun ρ2 M2 => M2 = (p, .dt ys) :: M1 ∧
      Xt K tt ρ2 ((p, .dt ys) :: M1) fun b M3 => M3 = (p, .dt ys) :: M1 ∧ (b = true → Xe K tk ρ2 ((p, .dt ys) :: M1) fun y M4 => M4 = (p, .dt ys) :: M1 ∧ Xe K tv ρ2 ((p, .dt ys) :: M1) fun z M5 => M5 = (p, .dt ys) :: M1 ∧ ys.length < 16000000 ∧
        ∃ k, y = tD k ∧ P (i + 1) (putKD ys k z)) ∧ (b = false → P (i + 1) ys)) ∧
    (∀ ys p, P n ys → (∀ od, (p, MO.lck od) ∉ M1) → R (.dt p ys) M1)) : Xe K (tDcT wi g tt tk tv vs) ρ M R := by
  intro σ G H Q s w k
  refine h σ G H _ s w fun J n it lk G1 M1 H1 e1 w1 wk q => ?_
  obtain ⟨lk1, lk2, hn, P, p0, hs, hd⟩ := q
  intro Dl hD
  have hnl : ∀ od, (Dl, MO.lck od) ∉ M1 := fun od z => w1.nin hD (List.mem_map_of_mem (f := (·.1)) z)
  refine ⟨fun i m H => m = n - i ∧ i ≤ n ∧ ∃ G ys, Ex G1 G ∧ P i ys ∧ Wd K G ((Dl, .dt ys) :: M1) H, ⟨n, by simp, Nat.zero_le _, G1, [], Ex.refl _, p0, w1.newM hD ⟨w1.gfree hD, [], upd_same, .nil⟩⟩, ?_⟩
  rintro i m H' ⟨rfl, hi, G2, ys, e2, p2, w2⟩
  by_cases hlt : i < n
  · refine .inr ⟨wk.goes i G2 _ H' hlt e2 w2 (lk2 _ _), fun H => ∃ G ys, Ex G1 G ∧ P (i + 1) ys ∧ Wd K G ((Dl, .dt ys) :: M1) H, fun H3 c => ⟨n - (i + 1), by omega, rfl, hlt, c⟩, fun x H3 y => ?_⟩
    obtain ⟨G3, d, e3, w3, r3, hit⟩ := wk.yields i G2 _ H' x H3 hlt e2 w2 (lk2 _ _) y
    refine hs i d ys Dl hlt hit p2 x _ G3 H3 _ ((s.up ((e1.trans e2).trans e3)).wipe vs) w3 r3 fun σ4 G4 ρ4 M4 H4 e4 s4 w4 a4 q => ?_
    obtain ⟨rfl, q⟩ := q
    refine ⟨wipe_agr a4, ?_⟩
    refine q σ4 G4 H4 _ s4 w4 fun b G5 M5 H5 e5 w5 q5 => ?_
    obtain ⟨rfl, q5, q6⟩ := q5
    cases b with
    | true =>
      rw [if_pos rfl]
      refine q5 rfl σ4 G5 H5 _ (s4.up e5) w5 fun v z G6 M6 H6 e6 r6 w6 q7 => ?_
      obtain ⟨rfl, q7⟩ := q7
      refine q7 σ4 G6 H6 _ ((s4.up e5).up e6) w6 fun v2 z2 G7 M7 H7 e7 r7 w7 q8 => ?_
      obtain ⟨rfl, hl, ky, rfl, q8⟩ := q8
      obtain ⟨g0, xs, h1, h2⟩ := w7.get .head
      obtain ⟨bk, rfl, hbk⟩ := rp_tD r6
      refine ⟨xs, ky, bk, rfl, w7.tup (e7 _ _ hbk), h1, ?_, G7, putKD ys ky z2, ((((e2.trans e3).trans e4).trans e5).trans e6).trans e7, q8, ?_⟩
      · rw [h2.length]
        exact Nat.lt_of_lt_of_le hl (by decide)
      · exact w7.put .head g0 ⟨g0, _, upd_same, h2.put r7⟩
    | false =>
      rw [if_neg Bool.false_ne_true]
      exact ⟨G5, ys, (((e2.trans e3).trans e4).trans e5), q6 rfl, w5⟩
  · have e : i = n := by omega
    subst e
    refine .inl ⟨wk.stops G2 _ H' e2 w2 (lk2 _ _), ?_⟩
    obtain ⟨_, xs, h1, h2⟩ := w2.get .head
    obtain ⟨e3, w3⟩ := w2.cut .head rfl h1
    exact k (.ref Dl) (.dt Dl ys) _ M1 H' ((e1.trans e2).trans e3) (.dt upd_same (h2.up e3)) w3 (hd ys Dl p2 hnl)
end
end XD

/-! XE39: dict displays whose keys are tuples. -/
namespace XX
open PySem PySem.Spec PyProof.Rows L2 L2.DX PySem.W PyProof.V
def mergeT (kvs : List (List Key × V)) (more : List (List Key × Addr × V)) : List (List Key × V) := more.foldl (fun acc x => putK acc x.1 x.2.2) kvs
theorem mergeT_len : ∀ (more : List (List Key × Addr × V)) (kvs : List (List Key × V)), (mergeT kvs more).length ≤ kvs.length + more.length
  | [], _ => Nat.le_refl _
  | x :: r, kvs => by
    have h1 := mergeT_len r (putK kvs x.1 x.2.2)
    have h2 := length_putK kvs x.1 x.2.2
    show (mergeT (putK kvs x.1 x.2.2) r).length ≤ _
    rw [List.length_cons]
    omega
abbrev KR : List (List Key × Addr × V) → List (List Key × Addr × Value) → Prop := Paired fun x r => x.1 = r.1 ∧ x.2.1 = r.2.1 ∧ RelV x.2.2 r.2.2
theorem carriesT_of {P : Program} {w : World} {H : Hp} {h : Heap} (ok : HOk P w H h) : ∀ {kvs : List (List Key × Addr × V)} {ws : List (Value × Value)}, VV (kvs.map fun x => (.ref x.2.1, x.2.2)) ws → (∀ x ∈ kvs, H x.2.1 = some (.tup (x.1.map kV))) →
    ∃ rs, CarriesH (tupleKind (mixKind P w)) h ws rs ∧ KR kvs rs
  | [], ws, r, _ => by cases r; exact ⟨[], trivial, .nil⟩
  | x :: kvs, ws, r, hk => by
    rw [List.map_cons] at r
    cases r with
    | @cons a b as bs h t =>
      obtain ⟨rs, c, q⟩ := carriesT_of ok t fun y hy => hk y (List.mem_cons_of_mem _ hy)
      obtain ⟨b1, b2⟩ := b
      cases (show b1 = Value.ref x.2.1 from h.1)
      exact ⟨(x.1, x.2.1, b2) :: rs, ⟨rfl, rfl, key_of ok (hk x List.mem_cons_self), c⟩, .cons ⟨rfl, rfl, h.2⟩ q⟩
theorem kt_merge {H : Hp} : ∀ {more : List (List Key × Addr × V)} {rs : List (List Key × Addr × Value)} {kvs : List (List Key × V)} {xs : List (List Key × Addr × Value)}, KR more rs → (∀ x ∈ more, H x.2.1 = some (.tup (x.1.map kV))) → KT H kvs xs → KT H (mergeT kvs more) (storedAllH xs rs)
  | [], rs, kvs, xs, r, _, k => by cases r; exact k
  | x :: more, rs, kvs, xs, r, hk, k => by
    cases r with
    | @cons _ q _ qs h t =>
      obtain ⟨q1, q2, q3⟩ := q
      obtain ⟨h1, h2, h3⟩ := h
      cases h1
      cases h2
      have z := kt_merge (more := more) (rs := qs) t (fun y hy => hk y (List.mem_cons_of_mem _ hy)) (k.put x.1 (hk x List.mem_cons_self) h3)
      exact z
/-- {k: v, ..}, the keys tuples; the new dict stands empty while the pairs are made -/
def tDispT (trs : List (TE × TE)) : TE := fun σ H Q => ∀ p, H p = none → tPairs trs σ (upd H p (.dT [])) fun ps H2 => H2 p = some (.dT []) ∧ ∃ kvs : List (List Key × Addr × V), ps = kvs.map (fun x => (.ref x.2.1, x.2.2)) ∧ (∀ x ∈ kvs, H2 x.2.1 = some (.tup (x.1.map kV))) ∧ kvs.length ≤ 15 ∧ Q (.ref p) (upd H2 p (.dT (mergeT [] kvs)))
theorem pe_dispT {X : Cx} {pos : Pos} {keys : List (Option Expr)} {values : List Expr} {trs : List (TE × TE)} (hu : X.A.units < cLine) (h : PPs X pos keys values trs) (hall : keys.all (·.isSome) = true := by rfl) (hl : keys.length = values.length := by rfl) (h0 : keys ≠ [] := by intro z; cases z)
    (h15 : keys.length ≤ 15 := by decide) : PE X (.Dict keys values pos) (tDispT trs) := by
  refine ⟨fun pins s σ H Q I q => ?_⟩
  have hn := I.hok.fresh (Nat.le_refl s.heap.objs.size)
  have I1 := I.laid (a := s.heap.objs.size) (o := .dT []) (h' := s.heap.push { cls := .type "dict", data := .dict #[] }) (t' := s.toks) (fun _ _ q => Heap.get?_push_of_some _ q) (Nat.le_refl _) (dt_empty s.heap I.big)
  have ln := pairTrees_length keys values X.env pos hall hl
  have ne : pairTrees keys values X.env pos ≠ [] := fun e => by
    rw [e] at ln
    exact h0 (List.length_eq_zero_iff.mp ln.symm)
  rw [arm_eval_Dict, zip_pairTrees keys values X.env pos hall hl, dictDisplay_pairs _ ne (by omega)]
  refine wpAny_bind (wpAny_standAt (wpAny_bind (wpAny_subDictH (knd := tupleKind (mixKind X.prog X.w)) hu (by omega) (thn (h.run pins _ σ _ _ I1 (q _ hn)) fun ws s2 hz => ?_))))
  obtain ⟨ps, H2, I2, rel, e, kvs, ep, hk, lk, q2⟩ := hz
  subst ep
  obtain ⟨rs, c, rk⟩ := carriesT_of (P := X.prog) (w := X.w) I2.hok rel hk
  obtain ⟨z, hd, xs0, r0, dd⟩ := dt_of I2.hok e
  cases r0
  refine ⟨rs, c, dd, fun h' tk dd' hs => wpAny_pure ⟨.ref s.heap.objs.size, _, ?_, rfl, q2⟩⟩
  have hz : (mergeT [] kvs).length ≤ sizeLine := by
    have h1 := mergeT_len kvs []
    rw [List.length_nil] at h1
    rw [sizeLine_eq]
    omega
  obtain ⟨o, es, ep, h1, h2, h3, h4, _, h5⟩ := dd'
  refine d_write I2 (by rw [e]; exact True.intro) hs ⟨o, h1⟩ ⟨hz, hd, _, (kt_merge rk hk .nil).keeps fun c ys ec => ?_, o, es, ep, h1, h2, h3, h4, h5⟩
  rw [upd_ne (ne_of ec e (fun z => nomatch z))]
  exact ec
end XX

/-! XE40: sorted(.., key=f) where f is a def of the program: its calls may touch the slots of the frames F that wait, and nothing else. -/
namespace XX
open PySem PySem.Calls PyProof.Rows PySem.W
/-- h' keeps h but the object at a; the frames keep all but their slots -/
structure KeepF (F : List Addr) (a : Addr) (h h' : Heap) : Prop where
  keep : ∀ b o, b ≠ a → b ∉ F → h.get? b = some o → h'.get? b = some o
  slot : ∀ b o, b ∈ F → h.get? b = some o → ∃ sl, h'.get? b = some { o with slots := sl }
theorem KeepF.keepB {F : List Addr} {a : Addr} {h h' : Heap} (k : KeepF F a h h') : KeepsBut a (hideAll h F) h' := fun b o hb e =>
  k.keep b o hb (fun z => by rw [hideAll_none F z] at e; cases e) (of_hideAll F e)
/-- a call of f -/
structure CallF (F : List Addr) (J : Shared → Prop) (k : PyData) (s₁ : Shared) (v : Value) (s₂ : Shared) : Prop where
  ok : J s₂
  keep : ∀ b o, b ∉ F → s₁.heap.get? b = some o → s₂.heap.get? b = some o
  slot : ∀ b o, b ∈ F → s₁.heap.get? b = some o → ∃ sl, s₂.heap.get? b = some { o with slots := sl }
  reads : Reads (hideAll s₂.heap F) v k []
/-- says nothing of heap and tokens -/
def Apart (J : Shared → Prop) : Prop := ∀ s h tk, J s → J { s with heap := h, toks := tk }
theorem hide_mono {F : List Addr} {h h' : Heap} (k : ∀ b o, b ∉ F → h.get? b = some o → h'.get? b = some o) : ∀ b o, (hideAll h F).get? b = some o → (hideAll h' F).get? b = some o := fun b o e => by
  have hb : b ∉ F := fun z => by rw [hideAll_none F z] at e; cases e
  exact hideAll_get F (k b o hb (of_hideAll F e)) hb
section
variable {prog : Program} {w : World} {A : Around} {E : Value → Shared → Prop} {s : Shared} {a kS : Addr} {b : Bool} {vs : List Value} {e1 : Nat} {P : PySem.Fin → Shared → Prop} {kz : List PyData} {F : List Addr} {h₀ : Heap} {f : Value} {J : Shared → Prop}
theorem keyF_rest (hJ : Apart J) (j0 : J s) (kp : KeepF F a h₀ s.heap) (hkS : h₀.get? kS = none) (nk : s.heap.get? kS = some (seqObj "list" #[] 0)) (na : s.heap.get? a = some (seqObj "list" #[] e1)) (hka : kS ≠ a) (hkF : kS ∉ F) (haF : a ∉ F)
    (hlen : kz.length = vs.length) (hZ : vs.length ≤ sizeLine) (hal : AllAlike kz) (hsk : Sortable kz) (hu : ∀ d, d ∈ kz → A.units + d.depth < cLine)
    (turn : ∀ (i : Nat) (v : Value) (k : PyData), vs[i]? = some v → kz[i]? = some k → ∀ s₁ : Shared, J s₁ → KeepF F a h₀ s₁.heap → wpAny (model prog w) A (call f [v]) (CallF F J k s₁) (fun _ _ => False) s₁)
    (h : ∀ s' out c, J s' → KeepF F a h₀ s'.heap → s'.heap.get? a = some (seqObj "list" (List.toArray out) c) → KeyedOut b kz vs out → P (.done (.ret .none)) s') :
    wpAny (model prog w) A (ksk_rest a f b vs.toArray e1 (.ref kS)) P E s := by
  unfold ksk_rest
  refine wpAny_bind (wpAny_rule ?_)
  rw [List.forIn_toArray]
  refine wpAny_bind (ksk_fold (fun i s' => ∃ kA e, J s' ∧ KeepF F a h₀ s'.heap ∧ s'.heap.get? kS = some (seqObj "list" kA e) ∧ s'.heap.get? a = some (seqObj "list" #[] e1) ∧ EachIs (fun v k => Reads (hideAll s'.heap F) v k [] ∧ alike k k = true) kA.toList (kz.take i)) vs 0 s
    ⟨#[], 0, j0, kp, nk, na, by rw [List.take_zero]; exact EachIs.nil⟩ ?_ ?_)
  · rintro j x s' hx ⟨kA, e, j1, kp', nk', na', hk⟩
    simp only [Nat.zero_add] at hk ⊢
    have hj : j < vs.length := (List.getElem?_eq_some_iff.mp hx).1
    obtain ⟨k, hkj⟩ : ∃ k, kz[j]? = some k := ⟨_, List.getElem?_eq_getElem (by omega)⟩
    have hkk : alike k k = true := hal k (List.mem_of_getElem? hkj) k (List.mem_of_getElem? hkj)
    have hz : kA.size ≤ vs.length := by
      have l := hk.length
      rw [Array.length_toList, List.length_take] at l
      omega
    refine wpAny_bind (wpAny_attempt (wpAny_mono (turn j x k hx hkj s' j1 kp') (fun v s'' he => ?_) fun _ _ z => z.elim))
    obtain ⟨j2, hg, hgs, hr⟩ := he
    generalize hgg : s''.heap = g at hg hgs hr
    try dsimp only
    have nk2 : g.get? kS = some (seqObj "list" kA e) := hg _ _ hkF nk'
    have na2 : g.get? a = some (seqObj "list" #[] e1) := hg _ _ haF na'
    have s1 := Heap.SameBut.update g kS (Obj.mapSeq (·.push v))
    obtain ⟨c2, hc2⟩ : ∃ c2, (g.update kS (Obj.mapSeq (·.push v))).get? kS = some (seqObj "list" (kA.push v) c2) := ⟨_, get?_update_seq nk2 (·.push v)⟩
    refine wpAny_bind (listUpdate_at (s := s'') (by rw [hgg]; exact nk2) rfl ?_ (Nat.le_trans hz hZ) (Nat.le_trans (Nat.le_of_eq (Array.size_push ..)) (Nat.succ_le_succ (Nat.le_trans hz hZ))))
    have stay : ∀ (u : Value) (d : PyData), Reads (hideAll g F) u d [] ∧ alike d d = true → Reads (hideAll (g.update kS (Obj.mapSeq (·.push v))) F) u d [] ∧ alike d d = true := fun u d q => by
      refine ⟨Reads.keepBut (a := kS) (fun b o hb z => ?_) (fun o z => ?_) d u [] q.2 q.1 (by simp), q.2⟩
      · have hbF : b ∉ F := fun y => by rw [hideAll_none F y] at z; cases z
        exact hideAll_get F ((s1.2 b hb).trans (of_hideAll F z)) hbF
      · have z2 := of_hideAll F z
        rw [nk2] at z2
        rw [← Option.some.inj z2]
    have ne : ∀ {b : Addr} {o : Obj}, h₀.get? b = some o → b ≠ kS := fun {b o} z y => by rw [y, hkS] at z; cases z
    have kp2 : KeepF F a h₀ (g.update kS (Obj.mapSeq (·.push v))) := ⟨fun b o hb hbF z => (s1.2 b (ne z)).trans (hg b o hbF (kp'.keep b o hb hbF z)), fun b o hbF z => by
      obtain ⟨sl, h1⟩ := kp'.slot b o hbF z
      obtain ⟨sl2, h2⟩ := hgs b _ hbF h1
      exact ⟨sl2, (s1.2 b (ne z)).trans h2⟩⟩
    rw [hgg]
    refine wpAny_pure ⟨rfl, kA.push v, c2, hJ s'' _ s''.toks j2, kp2, hc2, (s1.2 a hka.symm).trans na2, ?_⟩
    rw [show (kA.push v).toList = kA.toList ++ [v] by simp, show kz.take (j + 1) = kz.take j ++ [k] by rw [List.take_add_one, hkj]; simp]
    refine each_snoc (R := fun (u : Value) (d : PyData) => Reads (hideAll (g.update kS (Obj.mapSeq (·.push v))) F) u d [] ∧ alike d d = true) (stay v k ⟨hr, hkk⟩) ?_
    exact hk.mono fun u d q => stay u d ⟨PyProof.Rows.Reads.keeps (hide_mono hg) q.1, q.2⟩
  · rintro s' ⟨kA, e, j1, kp', nk', na', hk⟩
    have hk' : EachIs (fun v k => ∃ as, Reads s'.heap v k as) kA.toList kz := by
      rw [show kz.take (0 + vs.length) = kz from List.take_of_length_le (by omega)] at hk
      exact hk.mono fun v k q => ⟨[], PyProof.Rows.Reads.keeps (fun b o z => of_hideAll F z) q.1⟩
    have hsz : kA.size = vs.length := by
      have l := hk'.length
      rw [Array.length_toList] at l
      omega
    try dsimp only
    refine wpAny_bind (listItems_at nk' rfl ?_)
    refine keyH_end (κ := dataKind s'.heap kz) (h₁ := hideAll s'.heap [kS]) (fun b o _ z => of_hideAll [kS] z) (hideAll_none [kS] (List.mem_singleton.mpr rfl)) nk' na' hka (SortsAt.data (s := s') hk' hal hsk hu) hsz hZ fun h3 tk3 c k3 n3 => ?_
    have ne : ∀ {b : Addr} {o : Obj}, h₀.get? b = some o → b ≠ kS := fun {b o} z y => by rw [y, hkS] at z; cases z
    have last : ∀ {b : Addr} {o o' : Obj}, b ≠ a → h₀.get? b = some o → s'.heap.get? b = some o' → h3.get? b = some o' := fun {b o o'} hb z y => k3 b o' hb (hideAll_get [kS] y (by simpa using ne z))
    refine h _ _ c (hJ s' h3 tk3 j1) ⟨fun b o hb hbF z => last hb z (kp'.keep b o hb hbF z), fun b o hbF z => ?_⟩ n3 ⟨s'.heap, kA.toList, hal, rfl, hk'⟩
    obtain ⟨sl, h1⟩ := kp'.slot b o hbF z
    exact ⟨sl, last (fun y => haF (y ▸ hbF)) z h1⟩
theorem keyF_tree {n : Nat} (hJ : Apart J) (j0 : J s) (ho : s.heap.get? a = some (seqObj "list" vs.toArray n)) (haF : a ∉ F) (hF : ∀ b ∈ F, b < s.heap.objs.size) (hlen : kz.length = vs.length) (hZ : vs.length ≤ sizeLine) (hal : AllAlike kz) (hsk : Sortable kz) (hu : ∀ d, d ∈ kz → A.units + d.depth < cLine)
    (turn : ∀ (i : Nat) (v : Value) (k : PyData), vs[i]? = some v → kz[i]? = some k → ∀ s₁ : Shared, J s₁ → KeepF F a s.heap s₁.heap → wpAny (model prog w) A (call f [v]) (CallF F J k s₁) (fun _ _ => False) s₁)
    (h : ∀ s' out c, J s' → KeepF F a s.heap s'.heap → s'.heap.get? a = some (seqObj "list" (List.toArray out) c) → KeyedOut b kz vs out → P (.done (.ret .none)) s') :
    wpAny (model prog w) A (ksk_tree a f b) P E s := by
  have ha : a < s.heap.objs.size := Heap.lt_size ho
  obtain ⟨e1, ho1⟩ : ∃ e1, (s.heap.update a (Obj.mapSeq fun _ => (#[] : Array Value))).get? a = some (seqObj "list" #[] e1) := ⟨_, get?_update_seq ho fun _ => #[]⟩
  have sz : ((s.heap.update a (Obj.mapSeq fun _ => (#[] : Array Value))).push (seqObj "tuple" vs.toArray 0)).objs.size = s.heap.objs.size + 1 := by rw [size_push', Heap.size_update]
  unfold ksk_tree
  refine wpAny_bind (listItems_at ho rfl ?_)
  refine wpAny_bind (listUpdate_at ho rfl ?_ (by rw [List.size_toArray]; exact hZ) (Nat.zero_le _))
  refine wpAny_bind (seqEpoch_at ho1 rfl ?_)
  refine wpAny_bind (wpAny_newTuple ?_ (by show vs.length ≤ _; exact hZ))
  refine wpAny_bind (wpAny_newList ?_ (Nat.zero_le _))
  refine wpAny_holding ?_
  have kp : KeepF F a s.heap (sortingHeap s.heap a vs) := ⟨fun b o hb _ q => sortingHeap_old hb q, fun b o hbF q => ⟨o.slots, sortingHeap_old (fun y => haF (y ▸ hbF)) q⟩⟩
  refine keyF_rest (kz := kz) (h₀ := s.heap) (s := { s with heap := ((s.heap.update a (Obj.mapSeq fun _ => (#[] : Array Value))).push (seqObj "tuple" vs.toArray 0)).push (seqObj "list" #[] 0) }) (kS := ((s.heap.update a (Obj.mapSeq fun _ => (#[] : Array Value))).push (seqObj "tuple" vs.toArray 0)).objs.size)
    hJ (hJ s _ _ j0) kp (Heap.get?_none_of_le (by rw [sz]; exact Nat.le_succ _)) (Heap.get?_push_size _ rfl) (Heap.get?_push_of_some _ (Heap.get?_push_of_some _ ho1)) (by rw [sz]; exact Nat.ne_of_gt (Nat.lt_succ_of_lt ha)) (fun z => ?_) haF hlen hZ hal hsk hu turn h
  exact absurd (Nat.lt_of_le_of_lt (Nat.le_of_eq sz.symm) (hF _ z)) (Nat.not_lt_of_le (Nat.le_succ _))
/-- sorted(xs, key=f, reverse=b) for a list -/
theorem sorted_keyF {β : Type} {bs : List β} {R : Value → β → Prop} {l : Addr} {kw : List (Str × Value)} {Q : Value → Shared → Prop} (hJ : Apart J) (j0 : J s) (k : β → PyData) (hl : s.heap.IsList l vs.toArray) (e : EachIs R vs bs) (hal : AllAlike (bs.map k)) (hk : Sortable (bs.map k)) (hL : bs.length ≤ sizeLine) (hF : ∀ b ∈ F, ∃ o, s.heap.get? b = some o)
    (hu : ∀ x, x ∈ bs → A.units + 2 + (k x).depth < cLine) (ha1 : argsOk "sorted" ⟨[.ref l], kw⟩) (ha2 : ∀ x, argsOk "list.sort" ⟨[.ref x], kw⟩) (ht : ∀ x, Builtin.«list.sort» ⟨[.ref x], kw⟩ = ksk_tree x f b)
    (turn : ∀ (v : Value) (x : β), R v x → x ∈ bs → ∀ s₁ : Shared, J s₁ → (∀ b o, b ∉ F → s.heap.get? b = some o → s₁.heap.get? b = some o) → (∀ b o, b ∈ F → s.heap.get? b = some o → ∃ sl, s₁.heap.get? b = some { o with slots := sl }) →
      wpAny (model prog w) A.in1.in1 (call f [v]) (CallF F J (k x) s₁) (fun _ _ => False) s₁)
    (h : ∀ out c s' p, J s' → s.heap.get? p = none → (∀ b o, b ∉ F → s.heap.get? b = some o → s'.heap.get? b = some o) → (∀ b o, b ∈ F → s.heap.get? b = some o → ∃ sl, s'.heap.get? b = some { o with slots := sl }) → s'.heap.get? p = some (seqObj "list" (List.toArray out) c) → EachIs R out (bs.mergeSort (dataLe b k)) →
      Q (.ref p) s') :
    wpAny (model prog w) A (call (.builtin "sorted") [.ref l] kw) Q E s := by
  have ne : ∀ {b : Addr} {o : Obj}, s.heap.get? b = some o → b ≠ s.heap.objs.size + 1 := fun q => Nat.ne_of_lt (Nat.lt_succ_of_lt (Heap.lt_size q))
  have up1 : ∀ {g : Heap}, KeepF F (s.heap.objs.size + 1) (copyHeap s.heap vs) g → ∀ b o, b ∉ F → s.heap.get? b = some o → g.get? b = some o := fun kp b o hb q => kp.keep b o (ne q) hb (copyHeap_old q)
  have up2 : ∀ {g : Heap}, KeepF F (s.heap.objs.size + 1) (copyHeap s.heap vs) g → ∀ b o, b ∈ F → s.heap.get? b = some o → ∃ sl, g.get? b = some { o with slots := sl } := fun kp b o hb q => kp.slot b o hb (copyHeap_old q)
  have hc : (copyHeap s.heap vs).get? (s.heap.objs.size + 1) = some (seqObj "list" vs.toArray 0) := copyHeap_at s.heap vs
  refine sorted_of_sort hl (by rw [e.length]; exact hL) ha1 ha2 fun E' => ?_
  rw [ht]
  refine keyF_tree (kz := bs.map k) (F := F) (s := { s with heap := copyHeap s.heap vs }) hJ (hJ s _ s.toks j0) hc (fun z => by obtain ⟨oz, hz⟩ := hF _ z; exact ne hz rfl) (fun b hb => by obtain ⟨ob, hob⟩ := hF b hb; exact Heap.lt_size (copyHeap_old (vs := vs) hob)) (by rw [List.length_map]; exact e.length.symm) (by rw [e.length]; exact hL) hal hk
    (fun d hd => ?_) (fun i v d hv hd s₁ j1 kp => ?_) fun s' out c j1 kp hD ko => ⟨rfl, h out c s' _ j1 (Heap.get?_none_of_le (Nat.le_succ _)) (up1 kp) (up2 kp) hD (keyedOut_each k ko e)⟩
  · obtain ⟨x, hx, rfl⟩ := List.mem_map.mp hd
    exact hu x hx
  · rw [List.getElem?_map] at hd
    obtain ⟨x, hx, rfl⟩ := Option.map_eq_some_iff.mp hd
    have hz : (v, x) ∈ vs.zip bs := List.mem_of_getElem? (i := i) (by rw [List.getElem?_zip_eq_some]; exact ⟨hv, hx⟩)
    exact turn v x (e.zip _ hz) (List.mem_of_getElem? hx) s₁ j1 (up1 kp) (up2 kp)
end
end XX

/-! XE41: sorted(d, key=f, reverse=b) for a dict d: its keys. -/
namespace XX
open PySem PySem.Calls PyProof.Rows PySem.W L2
section
variable {prog : Program} {w : World} {A : Around} {E : Value → Shared → Prop} {s : Shared} {b : Bool} {F : List Addr} {f : Value} {J : Shared → Prop}
theorem sortedD_keyF {β : Type} {bs : List β} {R : Value → β → Prop} {d : Addr} {o : Obj} {es : Array DictEntry} {ep : Nat} {kw : List (Str × Value)} {Q : Value → Shared → Prop} (hJ : Apart J) (j0 : J s) (k : β → PyData) (hd : (d == sysModules) = false) (ho : s.heap.get? d = some o) (hx : o.ExactDict) (hdat : o.data = .dict es ep) (hh : A.handled = none)
    (e : EachIs R (es.toList.map (·.key)) bs) (hal : AllAlike (bs.map k)) (hk : Sortable (bs.map k)) (hL : bs.length ≤ sizeLine) (hF : ∀ b ∈ F, ∃ o, s.heap.get? b = some o)
    (hu : ∀ x, x ∈ bs → A.units + 2 + (k x).depth < cLine) (ha1 : argsOk "sorted" ⟨[.ref d], kw⟩) (ha2 : ∀ x, argsOk "list.sort" ⟨[.ref x], kw⟩) (ht : ∀ x, Builtin.«list.sort» ⟨[.ref x], kw⟩ = ksk_tree x f b)
    (turn : ∀ (v : Value) (x : β), R v x → x ∈ bs → ∀ s₁ : Shared, J s₁ → (∀ b o, b ∉ F → s.heap.get? b = some o → s₁.heap.get? b = some o) → (∀ b o, b ∈ F → s.heap.get? b = some o → ∃ sl, s₁.heap.get? b = some { o with slots := sl }) →
      wpAny (model prog w) A.in1.in1 (call f [v]) (CallF F J (k x) s₁) (fun _ _ => False) s₁)
    (h : ∀ out c s' p, J s' → s.heap.get? p = none → (∀ b o, b ∉ F → s.heap.get? b = some o → s'.heap.get? b = some o) → (∀ b o, b ∈ F → s.heap.get? b = some o → ∃ sl, s'.heap.get? b = some { o with slots := sl }) → s'.heap.get? p = some (seqObj "list" (List.toArray out) c) → EachIs R out (bs.mergeSort (dataLe b k)) →
      Q (.ref p) s') :
    wpAny (model prog w) A (call (.builtin "sorted") [.ref d] kw) Q E s := by
  have hle : es.toList.length = bs.length := by
    have := e.length
    rwa [List.length_map] at this
  rw [Array.length_toList] at hle
  refine call_function_entry_kw kind_sorted plain_sorted entry_sorted ha1 ?_
  unfold Builtin.«sorted»
  refine wpAny_bind (m := checkCount "sorted" 1 1 _) (wpAny_pure ?_)
  refine wpAny_bind (kdu_collect (A := A.in1) (kdl_raw hd hx hdat) hh ho (by omega) fun h1 tk1 acc k1 it => ?_)
  have ea : acc.toList = es.toList.map (·.key) := by
    refine List.ext_getElem (by rw [Array.length_toList, it.1, List.length_map, Array.length_toList]) fun j j1 j2 => ?_
    have hj : acc[j]? = some acc.toList[j] := by
      rw [← Array.getElem?_toList]
      exact List.getElem?_eq_getElem j1
    obtain ⟨en, hen, hv⟩ := it.2 j _ hj
    rw [hv, List.getElem_map]
    have hj2 : j < es.toList.length := by simpa using j2
    have : es.toList[j]? = some en := by rw [Array.getElem?_toList]; exact hen
    rw [List.getElem?_eq_getElem hj2] at this
    rw [Option.some.inj this]
  have hl1 : acc.toList.length ≤ sizeLine := by rw [ea, List.length_map, Array.length_toList]; omega
  refine wpAny_bind (wpAny_newList ?_ hl1)
  have fr : ∀ {b : Addr} {o : Obj}, s.heap.get? b = some o → b ≠ h1.objs.size := fun q => Nat.ne_of_lt (Heap.lt_size (k1 _ _ q))
  have np : s.heap.get? h1.objs.size = none := by
    cases z : s.heap.get? h1.objs.size with
    | none => rfl
    | some oz => exact absurd rfl (fr z)
  have npF : h1.objs.size ∉ F := fun z => by
    obtain ⟨oz, hz⟩ := hF _ z
    exact fr hz rfl
  have hc : (h1.push (seqObj "list" acc.toList.toArray 0)).get? h1.objs.size = some (seqObj "list" acc.toList.toArray 0) := Heap.get?_push_size _ rfl
  have up1 : ∀ {g : Heap}, KeepF F h1.objs.size (h1.push (seqObj "list" acc.toList.toArray 0)) g → ∀ b o, b ∉ F → s.heap.get? b = some o → g.get? b = some o := fun kp b o hb q => kp.keep b o (fr q) hb (Heap.get?_push_of_some _ (k1 _ _ q))
  have up2 : ∀ {g : Heap}, KeepF F h1.objs.size (h1.push (seqObj "list" acc.toList.toArray 0)) g → ∀ b o, b ∈ F → s.heap.get? b = some o → ∃ sl, g.get? b = some { o with slots := sl } := fun kp b o hb q => kp.slot b o hb (Heap.get?_push_of_some _ (k1 _ _ q))
  refine wpAny_bind (wpAny_holding (wpAny_call_entry_kw slot_list_sort ⟨_, hc, rfl⟩ entry_list_sort ?_ (ha2 _)))
  show wpAny (model prog w) A.in1.in1 (Builtin.«list.sort» ⟨[.ref h1.objs.size], kw⟩) _ _ _
  rw [ht]
  rw [← ea] at e
  refine wpAny_mono (keyF_tree (P := fun fin s' => fin = .done (.ret .none) ∧ Q (.ref h1.objs.size) s') (E := fun _ _ => False) (kz := bs.map k) (F := F) (s := { s with heap := h1.push (seqObj "list" acc.toList.toArray 0), toks := tk1 }) hJ (hJ s _ _ j0) hc npF (fun b hb => by obtain ⟨ob, hob⟩ := hF b hb; exact Heap.lt_size (Heap.get?_push_of_some _ (k1 _ _ hob))) (by rw [List.length_map]; exact e.length.symm) hl1 hal hk
    (fun d hd => ?_) (fun i v d hv hd s₁ j1 kp => ?_) fun s' out c j1 kp hD ko => ⟨rfl, h out c s' h1.objs.size j1 np (up1 kp) (up2 kp) hD (keyedOut_each k ko e)⟩) (fun fin s' z => ?_) fun _ _ z => z.elim
  · obtain ⟨x, hx, rfl⟩ := List.mem_map.mp hd
    exact hu x hx
  · rw [List.getElem?_map] at hd
    obtain ⟨x, hx, rfl⟩ := Option.map_eq_some_iff.mp hd
    have hz : (v, x) ∈ acc.toList.zip bs := List.mem_of_getElem? (i := i) (by rw [List.getElem?_zip_eq_some]; exact ⟨hv, hx⟩)
    exact turn v x (e.zip _ hz) (List.mem_of_getElem? hx) s₁ j1 (up1 kp) (up2 kp)
  · obtain ⟨rfl, hq⟩ := z
    exact ⟨_, rfl, wpAny_pure ⟨_, rfl, hq⟩⟩
end
end XX

/-! XE42: a def of the program as the key of sorted: (sum(k), k) of tuples of ints. -/
namespace XX
open PySem PySem.Spec PyProof.Rows L2 PySem.W
/-- sum(xs) of a tuple of ints -/
def rSumT (K : PySem.W.Frag) : List V → Hp → VK → Prop := fun vs H Q => ∃ (a : Addr) (ns : List Int), vs = [V.ref a] ∧ SqT K H a (ns.map V.int) ∧ Q (.int ns.sum) H
theorem cr_sumT {X : Cx} (hc : X.calm = true) : CallR X (.builtin "sum") (rSumT X.K) := by
  intro pins s σ H vs us Q I r h
  obtain ⟨a, ns, rfl, hs, q⟩ := h
  obtain ⟨its, rv, hl, _⟩ := I.tuple hs
  rw [Vals.ref1 r]
  have hi := rv.ints
  obtain ⟨xs, e⟩ := hi.allInts.items
  have hn : numsOf (intItems xs).toList = ns := by rw [← e]; exact hi.numsOf
  rw [nums_intItems] at hn
  obtain ⟨o, ho, hc2, n, hd⟩ := hl
  have ht : s.heap.IsTuple a (intItems xs) := ⟨o, ho, hc2, n, by rw [hd, ← e]⟩
  refine ktm_sumG (I.ok.hd hc) ht fun h' tk t' hk => ⟨.int _, H, I.kept hk, ⟨_, rfl⟩, ?_⟩
  rw [preSum_eq, List.take_of_length_le (by simp), hn]
  exact q
/-- f(k) is the new tuple (sum(k), k) -/
def keySp : Sp := fun vs H Q _ => ∃ (q : Addr) (o : Obj) (ns : List Int), vs = [.ref q] ∧ H q = some (.frz o (.tup (ns.map V.int))) ∧ ∀ p, H p = none → Q (.ref p) (upd H p (.tup [.int ns.sum, .ref q]))
/-- what a call keeps of a state besides its heap -/
abbrev Still (s : Shared) : Shared → Prop := fun s' => s'.os = s.os ∧ AllBare s'.gens
theorem still_apart (s : Shared) : Apart (Still s) := fun _ _ _ h => h
section
variable {X : Cx} {pins : List (Addr × Obj)} {σ : L2.St} {H : Hp} {s : Shared} {k : Nat} {f : Addr} {fd : FuncData} {ps : List Str}
/-- the frames that run stand in the heap -/
theorem frs_there (I : Inv X pins σ H s) : ∀ b ∈ frs X.stack, ∃ o, s.heap.get? b = some o := fun b hb => by
  obtain ⟨_, o, ho, _⟩ := I.stack.mem hb
  exact ⟨o, ho⟩
theorem key_turn (I : Inv X pins σ H s) (Fn : FnOk X.prog X.w X.K X.mg X.base CX0 k f fd ps keySp) (hr : Room (k + 2) X.A) (hb : Binds X.K fd ps []) {q : Addr} {ns : List Int} (hq : H q = some (.tup (ns.map V.int))) {s₁ : Shared} (j1 : Still s s₁)
    (keep : ∀ b o, b ∉ frs X.stack → s.heap.get? b = some o → s₁.heap.get? b = some o) (slot : ∀ b o, b ∈ frs X.stack → s.heap.get? b = some o → ∃ sl, s₁.heap.get? b = some { o with slots := sl }) :
    wpAny (model X.prog X.w) X.A.in1.in1 (call (.ref f) [.ref q]) (CallF (frs X.stack) (Still s) (.tuple [.int ns.sum, .tuple (ns.map .int)]) s₁) (fun _ _ => False) s₁ := by
  have e0 := I.env0
  obtain ⟨hz, its, rv, ot, hot, hct, nt, hdt⟩ := (show ObjOk X.prog X.w H s.heap q (.tup (ns.map V.int)) from I.hok q _ hq)
  have qF : q ∉ frs X.stack := fun z => by rw [e0.frf q z] at hq; cases hq
  have hot1 : s₁.heap.get? q = some ot := keep q ot qF hot
  have baseF : ∀ b o, X.base.get? b = some o → b ∉ frs X.stack := fun b o e z => by
    obtain ⟨z1, _⟩ := I.stack.mem z
    rw [z1] at e
    cases e
  have base1 : ∀ b o, X.base.get? b = some o → s₁.heap.get? b = some o := fun b o e => keep b o (baseF b o e) (e0.bs b o e).1
  obtain ⟨H₀, hH⟩ : ∃ H₀ : Hp, H₀ = fun b => if b = q then some (.frz ot (.tup (ns.map V.int))) else none := ⟨_, rfl⟩
  have Hq : H₀ q = some (.frz ot (.tup (ns.map V.int))) := by rw [hH]; exact if_pos rfl
  have Hn : ∀ b, b ≠ q → H₀ b = none := fun b z => by rw [hH]; exact if_neg z
  have loc : ∃ o, s₁.heap.get? X.env.locals = some o := by
    obtain ⟨m, ⟨o, es, ep, ho, _⟩, _⟩ := I.loc
    by_cases z : X.env.locals ∈ frs X.stack
    · obtain ⟨sl, h1⟩ := slot _ _ z ho
      exact ⟨_, h1⟩
    · exact ⟨_, keep _ _ z ho⟩
  have e1 : Env0 X.prog X.w X.K X.mg X.base X.A.in1.in1 X.stack s₁ H₀ := by
    refine ⟨e0.in1.in1.frames, e0.mod, fun b o e => ⟨base1 b o e, Hn b fun z => ?_⟩, ?_, ?_, fun b hb => Hn b fun z => qF (z ▸ hb), fun a o z => ?_, j1.2⟩
    · have := (e0.bs b o e).2
      rw [z, hq] at this
      cases this
    · obtain ⟨o, ho⟩ := loc
      exact Nat.le_trans (Nat.le_trans I.ok.bsz I.ok.above) (Nat.le_of_lt (Heap.lt_size ho))
    · refine Heap.FunFrames.of_keeps (fun b o e _ => ?_) I.stack
      by_cases z : b ∈ frs X.stack
      · obtain ⟨sl, h1⟩ := slot b o z e
        exact ⟨_, h1, rfl⟩
      · exact ⟨_, keep b o z e, rfl⟩
    · by_cases za : a = q
      · subst za
        rw [Hq] at z
        cases z
        exact ⟨hot1, hz, its, rv, ot, hot1, hct, nt, hdt⟩
      · rw [Hn a za] at z
        cases z
  have kin1 : X.K.In s₁.heap := fun a o e => base1 a o (e0.mod.kin a o e)
  have sp : keySp [.ref q] H₀ (fun v H' => ∃ p, v = .ref p ∧ H₀ p = none ∧ H' = upd H₀ p (.tup [.int ns.sum, .ref q])) E0 := ⟨q, ot, ns, rfl, Hq, fun p hp => ⟨p, rfl, hp, rfl⟩⟩
  have hl : ([Value.ref q] ++ []).length = ps.length := Fn.len _ _ _ _ sp
  refine wpAny_call (codeAny_mono (Fn.run X.A.in1.in1 X.stack s₁ H₀ ⟨[.ref q], []⟩ [.ref q] [.ref q] _ E0 hr.in1.in1 e1 (hb s₁ [.ref q] kin1 hl) (.cons rfl .nil) sp) fun r s' hz' => ?_)
  cases r with
  | error e => exact hz'
  | ok fl =>
    cases fl with
    | next => exact False.elim hz'
    | brk => exact False.elim hz'
    | cont => exact False.elim hz'
    | ret u =>
      obtain ⟨v, H', os, bare, un, hok, ru, p, rfl, hp, rfl⟩ := hz'
      have pq : q ≠ p := fun z => by rw [← z, Hq] at hp; cases hp
      have hq' : s'.heap.get? q = some ot := by
        obtain ⟨h1, _⟩ := (show ObjOk X.prog X.w (upd H₀ p (.tup [.int ns.sum, .ref q])) s'.heap q (.frz ot (.tup (ns.map V.int))) from hok q _ (by rw [upd_ne pq]; exact Hq))
        exact h1
      refine ⟨⟨os.trans j1.1, bare⟩, fun b o hb e => ?_, fun b o hb e => ?_, ?_⟩
      · by_cases z : b = q
        · rw [z] at e ⊢
          rw [hot1] at e
          rw [hq', e]
        · exact un.keep b o e (Hn b z) hb (by simp)
      · exact un.slot b o e (Hn b fun z => qF (z ▸ hb)) hb (by simp)
      · obtain ⟨_, ips, rp, op, hop, hcp, np, hdp⟩ := (show ObjOk X.prog X.w (upd H₀ p (.tup [.int ns.sum, .ref q])) s'.heap p (.tup [.int ns.sum, .ref q]) from hok p _ upd_same)
        cases (show u = Value.ref p from ru)
        have pF : p ∉ frs X.stack := fun z => by
          have := un.free p
          obtain ⟨o, ho⟩ := frs_there I p z
          obtain ⟨sl, h1⟩ := slot p o z ho
          have h2 := un.free p _ h1 hp (by simp)
          rw [upd_same] at h2
          cases h2
        have rq : Reads (hideAll s'.heap (frs X.stack)) (.ref q) (.tuple (ns.map .int)) [] := .tuple (hideAll_get _ hq' qF) hct hdt (ints_readAll _ (by simpa using rv.ints))
        cases rp with
        | cons r1 t =>
          cases t with
          | cons r2 t2 =>
            cases t2
            obtain ⟨tk, rfl⟩ := r1
            cases (show _ = Value.ref q from r2)
            exact .tuple (hideAll_get _ hop pF) hcp hdp (.cons (.int _ _) (.cons rq .nil))
end
end XX

/-! XE43: sorted(xs, key=f, reverse=True) of tuples of ints, xs a list of them or a dict with such keys. -/
namespace XX
open PySem PySem.Spec PyProof.Rows L2 PySem.W PyProof.V
def keyOf (ns : List Int) : PyData := .tuple [.int ns.sum, .tuple (ns.map .int)]
abbrev TupI (H : Hp) (ns : List Int) (b : Addr) : Prop := H b = some (.tup (ns.map V.int))
abbrev sortK (nss : List (List Int)) : List (List Int) := nss.mergeSort (dataLe true keyOf)
def rSortKey (K : PySem.W.Frag) (f : Addr) : List V → List V → Hp → VK → Prop := fun vs zs H Q => zs = [.ref f, .bl true] ∧ ∃ (a : Addr) (nss : List (List Int)), vs = [.ref a] ∧ nss.length ≤ 1000 ∧
  ((∃ bs : List Addr, SqL K H a (bs.map V.ref) ∧ Paired (TupI H) nss bs) ∨ ∃ kvs, Rd H a (.dT kvs) ∧ kvs.map (·.1) = nss.map fun ns => ns.map Sum.inl) ∧
  ∀ (p : Addr) (bs : List Addr), H p = none → Paired (TupI H) (sortK nss) bs → Q (.ref p) (upd H p (.lst (bs.map V.ref)))
abbrev IsTI (H : Hp) (v : Value) (ns : List Int) : Prop := ∃ b, v = .ref b ∧ TupI H ns b
theorem alike_key (a b : List Int) : alike (keyOf a) (keyOf b) = true := by
  unfold keyOf
  simp [alike, alikeAll, alike_ints]
theorem depth_key (a : List Int) : (keyOf a).depth = 2 := by
  unfold keyOf
  simp [PyData.depth, PyData.depthAll, depth_ints]
theorem each_paired {H : Hp} : ∀ {out : List Value} {nss : List (List Int)}, EachIs (IsTI H) out nss → ∃ bs : List Addr, out = bs.map Value.ref ∧ Paired (TupI H) nss bs
  | [], [], _ => ⟨[], rfl, .nil⟩
  | v :: out, ns :: nss, h => by
    cases h with
    | cons h t =>
      obtain ⟨b, rfl, hb⟩ := h
      obtain ⟨bs, rfl, p⟩ := each_paired t
      exact ⟨b :: bs, rfl, .cons hb p⟩
  | [], _ :: _, h => by cases h
  | _ :: _, [], h => by cases h
theorem paired_each {H : Hp} : ∀ {nss : List (List Int)} {bs : List Addr}, Paired (TupI H) nss bs → EachIs (IsTI H) (bs.map Value.ref) nss
  | [], [], _ => .nil
  | ns :: nss, b :: bs, h => by
    cases h with
    | cons h t => exact .cons ⟨b, rfl, h⟩ (paired_each t)
  | [], _ :: _, h => by cases h
  | _ :: _, [], h => by cases h
section
variable {X : Cx} {pins : List (Addr × Obj)} {σ : L2.St} {H : Hp} {s : Shared}
theorem refs_vals : ∀ {bs : List Addr} {its : List Value}, Vals (bs.map V.ref) its → its = bs.map Value.ref
  | [], _, h => by cases h; rfl
  | b :: bs, _, h => by
    cases h with
    | cons h t => rw [refs_vals t, show _ = Value.ref b from h]; rfl
/-- behind the sort -/
theorem sort_after (I : Inv X pins σ H s) {s' : Shared} {p : Addr} {bs : List Addr} {c : Nat} {Q : VK} (j : Still s s') (hp : s.heap.get? p = none) (keep : ∀ b o, b ∉ frs X.stack → s.heap.get? b = some o → s'.heap.get? b = some o)
    (slot : ∀ b o, b ∈ frs X.stack → s.heap.get? b = some o → ∃ sl, s'.heap.get? b = some { o with slots := sl }) (hl : s'.heap.get? p = some (seqObj "list" (List.toArray (bs.map Value.ref)) c)) (hz : bs.length ≤ sizeLine) (q : H p = none → Q (.ref p) (upd H p (.lst (bs.map V.ref)))) :
    EP X pins σ Q (.ref p) s' := by
  have Hp0 : H p = none := I.hok.gone hp
  have nF : ∀ {a : Addr} {o : HO}, H a = some o → a ∉ frs X.stack := fun {a o} e z => by rw [I.env0.frf a z] at e; cases e
  refine I.after ⟨.ref p, upd H p (.lst (bs.map V.ref)), j.1, j.2, ⟨fun b o e _ hb _ => keep b o hb e, fun b o e _ hb _ => slot b o hb e, fun b o e n _ => ?_, fun b o e _ => ?_, fun b xs e => ?_, fun b o u e => ?_, fun b ps e => ⟨#[], ?_⟩⟩, fun a o e => ?_, rfl, q Hp0⟩
  · rw [upd_ne fun z => by rw [z, hp] at e; cases e]
    exact n
  · by_cases z : b ∈ frs X.stack
    · obtain ⟨sl, h1⟩ := slot b o z e
      exact ⟨_, h1⟩
    · exact ⟨_, keep b o z e⟩
  · rw [upd_ne (ne_of_none e Hp0)]; exact e
  · rw [upd_ne (ne_of_none e Hp0)]; exact e
  · rw [upd_ne (ne_of_none e Hp0), Array.append_empty]; exact e
  · by_cases z : a = p
    · rw [z, upd_same] at e
      cases e
      rw [z]
      exact ⟨by rw [List.length_map]; exact hz, bs.map Value.ref, c, vals_refs bs, hl⟩
    · rw [upd_ne z] at e
      refine (I.hok a o e).stay (fun b v hb r => keep b v ?_ r) (fun b r => by rw [upd_ne (ne_of_none r Hp0)]; exact r) fun b xs r => by rw [upd_ne (ne_of_none r Hp0)]; exact r
      rcases hb with rfl | hb
      · exact nF e
      · exact nF hb
theorem cr_sortKey {k : Nat} {f : Addr} {fd : FuncData} {ps : List Str} (hc : X.calm = true) (Fn : FnOk X.prog X.w X.K X.mg X.base CX0 k f fd ps keySp) (hr : Room (k + 2) X.A) (hb : Binds X.K fd ps []) : CallRK X (.builtin "sorted") [Str.ofString "key", Str.ofString "reverse"] (rSortKey X.K f) := by
  intro pins s σ H xs zs us ws Q I r rz h
  obtain ⟨rfl, a, nss, rfl, hlen, src, q⟩ := h
  obtain rfl := Vals.ref1 r
  obtain ⟨w1, w2, rfl, rw1, rw2⟩ := vals2 rz
  cases (show w1 = Value.ref f from rw1)
  cases (show w2 = Value.bool true from rw2)
  show wpAny _ _ (call (.builtin "sorted") [.ref a] [(Str.ofString "key", Value.ref f), (Str.ofString "reverse", Value.bool true)]) _ _ _
  have hsz : nss.length ≤ sizeLine := by rw [sizeLine_eq]; omega
  have fin : ∀ out c s' p, Still s s' → s.heap.get? p = none → (∀ b o, b ∉ frs X.stack → s.heap.get? b = some o → s'.heap.get? b = some o) → (∀ b o, b ∈ frs X.stack → s.heap.get? b = some o → ∃ sl, s'.heap.get? b = some { o with slots := sl }) →
      s'.heap.get? p = some (seqObj "list" (List.toArray out) c) → EachIs (IsTI H) out (sortK nss) → EP X pins σ Q (.ref p) s' := fun out c s' p j hp k1 k2 hl e => by
    obtain ⟨bs, rfl, pb⟩ := each_paired e
    have lb : bs.length = nss.length := by rw [← Paired.length pb, List.length_mergeSort]
    exact sort_after I j hp k1 k2 hl (by omega) fun hp0 => q p bs hp0 pb
  have turn : ∀ (v : Value) (x : List Int), IsTI H v x → x ∈ nss → ∀ s₁ : Shared, Still s s₁ → (∀ b o, b ∉ frs X.stack → s.heap.get? b = some o → s₁.heap.get? b = some o) → (∀ b o, b ∈ frs X.stack → s.heap.get? b = some o → ∃ sl, s₁.heap.get? b = some { o with slots := sl }) →
      wpAny (model X.prog X.w) X.A.in1.in1 (call (.ref f) [v]) (CallF (frs X.stack) (Still s) (keyOf x) s₁) (fun _ _ => False) s₁ := fun v x hv _ s₁ j1 k1 k2 => by
    obtain ⟨b, rfl, hb2⟩ := hv
    exact key_turn I Fn hr hb hb2 j1 k1 k2
  have un := hr.un
  rcases src with ⟨bs, hs, pb⟩ | ⟨kvs, hd, hk⟩
  · obtain ⟨its, rv, pl, _⟩ := I.list hs
    obtain rfl := refs_vals rv
    exact sorted_keyF (b := true) (F := frs X.stack) (still_apart s) ⟨rfl, I.bare⟩ keyOf pl.isList (paired_each pb) (AllAlike.of alike_key) (Sortable.tuples fun ns => ⟨_, _, rfl⟩) hsz (frs_there I) (fun x _ => by rw [depth_key]; omega) (ksk_s2 _ _ _) (fun _ => ksk_l2 _ _ _) (fun _ => ksk_t2 _ _ _) turn fin
  · obtain ⟨z, hs, ks, pr, o, es, ep, ho, hx, hdt, he, hn⟩ := (show ObjOk X.prog X.w H s.heap a (.dT kvs) from hd.ok I.hok)
    have ek : EachIs (IsTI H) (es.toList.map (·.key)) nss := by
      rw [he, List.map_map]
      have : ∀ {kvs : List (List Key × V)} {ks : List (List Key × Addr × Value)} {nss : List (List Int)}, KT H kvs ks → kvs.map (·.1) = nss.map (fun ns => ns.map Sum.inl) → EachIs (IsTI H) (ks.map ((·.key) ∘ entryOfKey (tupleKind (mixKind X.prog X.w)))) nss := by
        intro kvs ks nss q
        induction q generalizing nss with
        | nil =>
          intro e
          cases nss with
          | nil => exact .nil
          | cons n r => cases e
        | @cons p1 q1 ps1 qs1 h t ih =>
          intro e
          cases nss with
          | nil => cases e
          | cons n r =>
            rw [List.map_cons, List.map_cons] at e
            obtain ⟨e1, e2⟩ := List.cons.inj e
            refine .cons ⟨q1.2.1, rfl, ?_⟩ (ih e2)
            have := h.2.1
            rw [e1, List.map_map] at this
            exact this
      exact this pr hk
    exact sortedD_keyF (b := true) (F := frs X.stack) (still_apart s) ⟨rfl, I.bare⟩ keyOf hs ho hx hdt (I.ok.hd hc) ek (AllAlike.of alike_key) (Sortable.tuples fun ns => ⟨_, _, rfl⟩) hsz (frs_there I) (fun x _ => by rw [depth_key]; omega) (ksk_s2 _ _ _) (fun _ => ksk_l2 _ _ _) (fun _ => ksk_t2 _ _ _) turn fin
end
end XX

/-! XE44: sorted by a def, displays of one pair, the built-ins for dicts with tuple keys, told over (rho, M). -/
namespace XD
open PySem PySem.Spec PyProof.Rows L2 L2.DX XX
/-- a tuple of ints -/
abbrev tI (ns : List Int) : D := .tup (ns.map D.int)
abbrev kI (ns : List Int) : List Key := ns.map Sum.inl
theorem tD_kI (ns : List Int) : tD (kI ns) = tI ns := by
  show D.tup ((ns.map Sum.inl).map kD) = D.tup (ns.map D.int)
  rw [List.map_map]
  rfl
theorem kI_inj {a b : List Int} (h : kI a = kI b) : a = b := by
  induction a generalizing b with
  | nil => cases b with | nil => rfl | cons _ _ => cases h
  | cons x a ih =>
    cases b with
    | nil => cases h
    | cons y b =>
      obtain ⟨h1, h2⟩ := List.cons.inj h
      cases h1
      rw [ih h2]
section
variable {X : Cx} {K : PySem.W.Frag}
theorem k_sumT (K : PySem.W.Frag) (hc : X.calm = true := by rfl) (h : X.K = K := by rfl) : CallR X (.builtin "sum") (rSumT K) := h ▸ cr_sumT hc
theorem c_dictT (hu : X.A.units + 3 < cLine) : CallR X (.type "dict") (cDictT X.prog X.w) := cr_dictT hu
theorem c_lenDT : CallR X (.builtin "len") rLenT := call_len_dT
theorem c_listIt (hc : X.calm = true := by rfl) : CallR X (.type "list") cListItT := cr_listItT hc
theorem hu3_of {k : Nat} {A : Around} (hr : Room k A) : A.units + 3 < cLine := by have := hr.un; omega
theorem hu0_of {k : Nat} {A : Around} (hr : Room k A) : A.units < cLine := by have := hr.un; omega
/-- a def of the module whose value is (sum(k), k) -/
structure GKey (P : Program) (w : World) (K : PySem.W.Frag) (mg : Str → Option Value) (base : Heap) (k : Nat) (x : Str) : Prop where
  ex : ∃ fd ps, FnOk P w K mg base CX0 k (clsA mg x) fd ps keySp ∧ mg x = some (.ref (clsA mg x)) ∧ Binds K fd ps []
theorem gkey_ok {P : Program} {w : World} {K : PySem.W.Frag} {mg : Str → Option Value} {base : Heap} {x qual : Str} {st : Stmt} {N ps : List Str} {k : Nat} (T : FT K mg x qual st ps) (Sc : FnScope N ps (defScope st)) (hN : N.length = 1) (hp : ps.length = 1)
    (hbody : ∀ (f : Addr) (cdv : Value) (A : Around) (outer : List Env) (s : Shared) (H : Hp) (E : XK), Room k (A.deeper (PyProof.Rows.envOfC qual (defScope st) s.heap.objs.size f cdv)) →
      PSs (cxOf CX0 P w K mg base N qual (defScope st) f cdv A outer s H E).nox (defBody st) (tRet (tTup (tCons (tCB (rSumT K) (tCons (tVar 0) tNil)) (tCons (tVar 0) tNil))))) : GKey P w K mg base (k + 1) x := by
  obtain ⟨f, fd, F, h1, h2⟩ := T.ex
  have e := clsA_of h1
  rw [← e] at F h1
  refine ⟨fd, ps, F.ok Sc (fun vs H Q E h => ?_) (fun cdv A outer s H vs Q E hr h => ⟨_, hbody (clsA mg x) cdv A outer s H E hr, ?_⟩), h1, h2⟩
  · obtain ⟨q, o, ns, rfl, _⟩ := h
    exact hp.symm
  · obtain ⟨q, o, ns, rfl, hq, k⟩ := h
    have st : (start N [V.ref q])[0]? = some (some (V.ref q)) := rfl
    have t1 : SqT K H q (ns.map V.int) := .inl (.inr ⟨o, hq⟩)
    exact ⟨.ref q, st, q, ns, rfl, t1, .ref q, st, by show 2 ≤ sizeLine; decide, fun p hp => k p hp⟩
theorem pe_sortK {mg : Str → Option Value} {k : Nat} {x : Str} {e : Expr} {te : TE} {p pk p1 pb p2 pos : Pos} {u : Nat} (G : GKey X.prog X.w K mg X.base k x) (hr : Room (k + 2) X.A) (he : PE X e te) (hb : mg "sorted" = none) (hc : X.calm = true := by rfl) (h : X.K = K := by rfl) (hmg : X.mg = mg := by rfl)
    (hg : Gl X x := by rfl) (hgs : Gl X "sorted" := by rfl) (hdb : (x == ("__debug__" : Str)) = false := by decide) (hse : starEach [e] X.env = (false, eval e X.env) :: starEach [] X.env := by rfl) (hst : backTo pos (starEach [e] X.env) = (false, eval e X.env) :: backTo pos (starEach [] X.env) := by rfl) (hpl : (backTo pos (starEach [e] X.env)).any (·.1) = false := by rfl) :
    PE X (.Call (.Name "sorted" p) [e] [⟨some "key", .Name x pk, p1⟩, ⟨some "reverse", .Constant (.bool true) u pb, p2⟩] pos) (tCKw (rSortKey K (clsA mg x)) (tCons te tNil) (tCons (tC (.ref (clsA mg x))) (tCons (tC (.bl true)) tNil))) := by
  subst h
  subst hmg
  obtain ⟨fd, ps, F, h1, h2⟩ := G.ex
  exact pe_callBK (cr_sortKey hc F hr h2) hgs hb (by decide +kernel) (pa_cons he pa_nil hse) (pk_cons (pe_glob hg h1 rfl hdb) (pk_cons pe_bl pk_nil)) (by decide) (by decide) hst hpl
end
section
variable {K : PySem.W.Frag} [Bs K] {ρ : Rho} {M M' : Mm} {R : RD}
theorem rpA_intsI {G : Hp} : ∀ {ns : List Int} {xs : List V}, RpA K G xs (ns.map D.int) → xs = ns.map V.int
  | [], _, h => by cases h; rfl
  | n :: ns, _, h => by
    cases h with
    | cons h r =>
      cases h
      rw [rpA_intsI r]
      rfl
theorem rpA_intI {G : Hp} : ∀ ns : List Int, RpA K G (ns.map V.int) (ns.map D.int)
  | [] => .nil
  | n :: ns => .cons (.int n) (rpA_intI ns)
theorem tI_out {G H : Hp} (w : Wd K G M H) : ∀ {nss : List (List Int)} {xs : List V}, RpA K G xs (nss.map tI) → ∃ bs : List Addr, xs = bs.map V.ref ∧ Paired (TupI H) nss bs
  | [], _, h => by cases h; exact ⟨[], rfl, .nil⟩
  | ns :: nss, _, h => by
    cases h with
    | cons h r =>
      obtain ⟨bs, rfl, p⟩ := tI_out w r
      cases h with
      | @tup a ys _ hg ra =>
        obtain rfl := rpA_intsI ra
        exact ⟨a :: bs, rfl, .cons (w.tup hg) p⟩
theorem tI_seen {H : Hp} : ∀ {nss : List (List Int)} {bs : List Addr} {G : Hp}, Wd K G M H → Paired (TupI H) nss bs → ∃ G', Ex G G' ∧ Wd K G' M H ∧ RpA K G' (bs.map V.ref) (nss.map tI)
  | [], [], G, w, _ => ⟨G, Ex.refl G, w, .nil⟩
  | ns :: nss, b :: bs, G, w, h => by
    cases h with
    | cons h t =>
      obtain ⟨G1, e1, w1, hG⟩ := w.seen h
      obtain ⟨G2, e2, w2, r2⟩ := tI_seen w1 t
      exact ⟨G2, e1.trans e2, w2, .cons (.tup (e2 _ _ hG) (rpA_intI ns)) r2⟩
  | [], _ :: _, _, _, h => by cases h
  | _ :: _, [], _, _, h => by cases h
/-- sorted(x, key=f, reverse=True) -/
theorem xe_sortK {f : Addr} {te : TE} (h : Xe K te ρ M fun x M1 => ∃ nss : List (List Int), nss.length ≤ 1000 ∧ (x = .lst (nss.map tI) ∨ ∃ kvs, DcT M1 x kvs ∧ kvs.map (·.1) = nss.map kI) ∧ R (.lst ((sortK nss).map tI)) M1) :
    Xe K (tCKw (rSortKey K f) (tCons te tNil) (tCons (tC (.ref f)) (tCons (tC (.bl true)) tNil))) ρ M R := by
  intro σ G H Q s w k
  refine h σ G H _ s w fun v x G1 M1 H1 e1 r1 w1 q => ?_
  obtain ⟨nss, hlen, src, q⟩ := q
  have last : ∀ a, v = .ref a → ((∃ bs : List Addr, SqL K H1 a (bs.map V.ref) ∧ Paired (TupI H1) nss bs) ∨ ∃ kvs, Rd H1 a (.dT kvs) ∧ kvs.map (·.1) = nss.map fun ns => ns.map Sum.inl) → rSortKey K f [v] [.ref f, .bl true] H1 Q := fun a ev src => by
    subst ev
    refine ⟨rfl, a, nss, rfl, hlen, src, fun p bs hp pb => ?_⟩
    obtain ⟨G2, e2, w2, r2⟩ := tI_seen w1 pb
    have e3 := Ex.new (o := .lst (bs.map V.ref)) (w2.gfree hp)
    exact k _ _ _ M1 _ ((e1.trans e2).trans e3) (.lst upd_same (r2.up e3)) (w2.new hp) q
  rcases src with rfl | ⟨kvs, t, ek⟩
  · cases r1 with
    | @lst a xs _ hg ra =>
      obtain ⟨bs, rfl, pb⟩ := tI_out w1 ra
      exact last a rfl (.inl ⟨bs, .inl (.inl (w1.lst hg)), pb⟩)
  · obtain ⟨a, xs, rfl, hd, rk⟩ := t.at r1 w1
    exact last a rfl (.inr ⟨xs, hd, by rw [rk.keys]; exact ek⟩)
/-- {k: v} -/
theorem xe_disp1T {tk tv : TE} (h : ∀ p, Xe K tk ρ ((p, .dt []) :: M) fun y M1 => Xe K tv ρ M1 fun z M2 => ∃ k M3, y = tD k ∧ Has M2 p (.dt []) ∧ Put M2 p (.dt [(k, z)]) M3 ∧ R (.ref p) M3) : Xe K (tDispT [(tk, tv)]) ρ M R := by
  intro σ G H Q s w k p hp
  have w0 : Wd K G ((p, .dt []) :: M) (upd H p (.dT [])) := w.newM hp ⟨w.gfree hp, [], upd_same, .nil⟩
  refine h p σ G _ _ s w0 fun u y G1 M1 H1 e1 r1 w1 q => ?_
  refine q σ G1 H1 _ (s.up e1) w1 fun v z G2 M2 H2 e2 r2 w2 q2 => ?_
  obtain ⟨ky, M3, rfl, hm, hput, q2⟩ := q2
  obtain ⟨b, rfl, hb⟩ := rp_tD r1
  obtain ⟨g0, xs, h1, rk⟩ := w2.get hm
  cases rk
  refine ⟨h1, [(ky, b, v)], rfl, fun x hx => ?_, Nat.le_of_ble_eq_true rfl, ?_⟩
  · rw [List.mem_singleton.mp hx]
    exact w2.tup (e2 _ _ hb)
  · exact k (.ref p) (.ref p) G2 M3 _ (e1.trans e2) (.ref p) (w2.put hput g0 ⟨g0, [(ky, v)], upd_same, .cons r2 .nil⟩) q2
end
end XD

/-! XE45: an instance made by an __init__ that may raise, its parameters written out. -/
namespace XD
open PySem PySem.Spec PyProof.Rows L2 XX
section
variable {X : Cx} {K : PySem.W.Frag} {mg : Str → Option Value} {k : Nat} {x : Str} {ps : List Str}
theorem pe_mkXK {S : DX} {E : XK} {e : Expr} {es : List Expr} {t : TA} {p pos : Pos} (c : CK K mg x) (Gm : GMx X.prog X.w K mg X.base k x "__init__" ps S) (hr : Room (k + 1) X.A) (ha : PA X (e :: es) t)
    (hx : Passes (L2.CX X.prog X.w) X E := by exact passes_call (takes_of rfl rfl rfl rfl) fun _ _ _ _ h => h) (h : X.K = K := by rfl) (hmg : X.mg = mg := by rfl) (hg : Gl X x := by rfl)
    (hdb : (x == ("__debug__" : Str)) = false := by decide) (he : starEach (e :: es) X.env = (false, eval e X.env) :: starEach es X.env := by rfl) (hpl : (backTo pos (starEach es X.env)).any (·.1) = false := by rfl) :
    PE X (.Call (.Name x p) (e :: es) [] pos) (tMake (clsA mg x) (spX K S) [] E t) := by
  subst h
  subst hmg
  obtain ⟨f, fd, h1, h2, h3⟩ := Gm.ex
  exact pe_make (mkOf c h2) h1 hr hg c.at_ h3 .nil hx ha hdb he hpl
end
section
variable {K : PySem.W.Frag} [Bs K] {ρ : Rho} {M M' : Mm} {R : RD} {Z : RX} {E : XK}
theorem xe_makeX {C : Addr} {S : DX} {t : TA} (hE : EKo K E Z) (h : Xa K t ρ M fun ds M1 => ∀ a, S (.ref a :: ds) ((a, .ins C []) :: M1) (fun d M2 => d = .non ∧ R (.ref a) M2) Z) : Xe K (tMake C (spX K S) [] E t) ρ M R := by
  intro σ G H Q s w k
  refine h σ G H _ s w fun vs ds G1 M1 H1 e1 rs w1 q => ?_
  intro a dx ha hdx hne
  rw [List.append_nil]
  have w2 := mk_wd (C := C) w1 ha hdx hne
  refine ⟨G1, _, _, _, Z, .cons (.ref a) rs, w2.toWd0, q a, fun v d G' M' H' e r w' hd => ?_, sp_xback (G := G) w1.bs hE⟩
  obtain ⟨rfl, hq⟩ := hd
  cases r
  exact ⟨rfl, k _ _ G' M' H' (e1.trans e) (.ref a) ⟨w', w2.bs.trans e⟩ hq⟩
end
end XD

/-! XE46: a list comprehension whose list will change; in and not in of plain data. -/
namespace XD
open PySem PySem.Spec PyProof.Rows L2 XX
section
variable {K : PySem.W.Frag} [Bs K] {ρ : Rho} {M M' : Mm} {R : RD}
/-- [e for g in w if t], changed later -/
theorem xe_lcM {wi : TI} {g : TG} {tt : TT} {te : TE} {vs : List Nat} (h : Xi K wi ρ M fun n it lk M1 => lk M1 ∧ (∀ p m, lk ((p, m) :: M1)) ∧ n ≤ 16000000 ∧ ∃ P : Nat → List D → Prop, P 0 [] ∧
    (∀ i d ys p, i < n → it i d → P i ys → Xg K vs g d (wipeD ρ vs) ((p, .lst ys) :: M1) fun ρ2 M2 => M2 = (p, .lst ys) :: M1 ∧
      Xt K tt ρ2 ((p, .lst ys) :: M1) fun b M3 => M3 = (p, .lst ys) :: M1 ∧ (b = true → Xe K te ρ2 ((p, .lst ys) :: M1) fun y M4 => M4 = (p, .lst ys) :: M1 ∧ P (i + 1) (ys ++ [y])) ∧ (b = false → P (i + 1) ys)) ∧
    (∀ ys p, P n ys → R (.ref p) ((p, .lst ys) :: M1))) : Xe K (tLc wi g tt te vs) ρ M R := by
  intro σ G H Q s w k
  refine h σ G H _ s w fun J n it lk G1 M1 H1 e1 w1 wk q => ?_
  obtain ⟨lk1, lk2, hn, P, p0, hs, hd⟩ := q
  intro Dl hD
  refine ⟨fun i m H => m = n - i ∧ i ≤ n ∧ ∃ G ys, ys.length ≤ i ∧ Ex G1 G ∧ P i ys ∧ Wd K G ((Dl, .lst ys) :: M1) H, ⟨n, by simp, Nat.zero_le _, G1, [], Nat.zero_le _, Ex.refl _, p0, w1.newM hD ⟨w1.gfree hD, [], upd_same, .nil⟩⟩, ?_⟩
  rintro i m H' ⟨rfl, hi, G2, ys, hys, e2, p2, w2⟩
  by_cases hlt : i < n
  · refine .inr ⟨wk.goes i G2 _ H' hlt e2 w2 (lk2 _ _), fun H => ∃ G ys, ys.length ≤ i + 1 ∧ Ex G1 G ∧ P (i + 1) ys ∧ Wd K G ((Dl, .lst ys) :: M1) H, fun H3 c => ⟨n - (i + 1), by omega, rfl, hlt, c⟩, fun x H3 y => ?_⟩
    obtain ⟨G3, d, e3, w3, r3, hit⟩ := wk.yields i G2 _ H' x H3 hlt e2 w2 (lk2 _ _) y
    refine hs i d ys Dl hlt hit p2 x _ G3 H3 _ ((s.up ((e1.trans e2).trans e3)).wipe vs) w3 r3 fun σ4 G4 ρ4 M4 H4 e4 s4 w4 a4 q => ?_
    obtain ⟨rfl, q⟩ := q
    refine ⟨wipe_agr a4, ?_⟩
    refine q σ4 G4 H4 _ s4 w4 fun b G5 M5 H5 e5 w5 q5 => ?_
    obtain ⟨rfl, q5, q6⟩ := q5
    cases b with
    | true =>
      rw [if_pos rfl]
      refine q5 rfl σ4 G5 H5 _ (s4.up e5) w5 fun v z G6 M6 H6 e6 r6 w6 q7 => ?_
      obtain ⟨rfl, q7⟩ := q7
      obtain ⟨g0, xs, h1, h2⟩ := w6.get .head
      refine ⟨xs, h1, ?_, G6, ys ++ [z], ?_, (((e2.trans e3).trans e4).trans e5).trans e6, q7, ?_⟩
      · rw [h2.length]
        exact Nat.lt_of_le_of_lt hys (Nat.lt_of_lt_of_le hlt (Nat.le_trans hn (by decide)))
      · simp; omega
      · exact w6.put .head g0 ⟨g0, _, upd_same, h2.snoc r6⟩
    | false =>
      rw [if_neg Bool.false_ne_true]
      exact ⟨G5, ys, by omega, (((e2.trans e3).trans e4).trans e5), q6 rfl, w5⟩
  · have e : i = n := by omega
    subst e
    refine .inl ⟨wk.stops G2 _ H' e2 w2 (lk2 _ _), ?_⟩
    exact k (.ref Dl) (.ref Dl) _ _ H' (e1.trans e2) (.ref Dl) w2 (hd ys Dl p2)
theorem xr_inP {x y d : D} {es : List D} (n : Nat) (tx : Rds M x d) (ty : Rds M y (.lst es)) (hn : n + 1 ≤ 60) (hx : plS n d = true) (hy : es.all (plS n) = true) (r : R (.bl (es.any fun z => PyData.eqv (pyN n z) (pyN n d))) M) : Xr K (rInD K) x y M R := by
  intro vx vy G H Q rx ry w k
  have hy2 : plS (n + 1) (.lst es) = true := hy
  refine ⟨_, es.map (pyN n), tx.dp w rx hx, ty.dp w ry hy2, shaped_of (by omega) hx, shaped_of hn hy2, ?_⟩
  rw [List.any_map]
  exact k _ _ G M H (Ex.refl G) (.bl _) w r
theorem xr_notInP {x y d : D} {es : List D} (n : Nat) (tx : Rds M x d) (ty : Rds M y (.lst es)) (hn : n + 1 ≤ 60) (hx : plS n d = true) (hy : es.all (plS n) = true) (r : R (.bl (!es.any fun z => PyData.eqv (pyN n z) (pyN n d))) M) : Xr K (rNotInD K) x y M R := by
  intro vx vy G H Q rx ry w k
  have hy2 : plS (n + 1) (.lst es) = true := hy
  refine ⟨_, es.map (pyN n), tx.dp w rx hx, ty.dp w ry hy2, shaped_of (by omega) hx, shaped_of hn hy2, ?_⟩
  rw [List.any_map]
  exact k _ _ G M H (Ex.refl G) (.bl _) w r
end
section
variable {X : Cx}
theorem hu65_of {k : Nat} {A : Around} (hr : Room k A) : A.units + 65 < cLine := by have := hr.un; omega
theorem k_inD (K : PySem.W.Frag) (hu : X.A.units + 65 < cLine) (h : X.K = K := by rfl) : OpR X (compareOp .In) (rInD K) := h ▸ op_inD hu
theorem k_notInD (K : PySem.W.Frag) (hu : X.A.units + 65 < cLine) (h : X.K = K := by rfl) : OpR X (compareOp .NotIn) (rNotInD K) := h ▸ op_notInD hu
end
end XD

/-! A list times a number that will change. -/
namespace XD
open PySem PySem.Spec PyProof.Rows L2 XX
section
variable {K : PySem.W.Frag} [Bs K] {M : Mm} {R : RD}
/-- a list times a number, the new list will change -/
def rRepM : R2 := rRep
theorem op_repM {X : Cx} : OpR X (binaryOp .Mult) rRepM := op_rep
theorem xr_mulLM {ds : List D} {k : Int} (h1 : -(2 ^ 63) ≤ k) (h2 : k < 2 ^ 63) (h : ds.length * k.toNat ≤ 16000000) (r : ∀ p, R (.ref p) ((p, .lst (List.replicate k.toNat ds).flatten) :: M)) : Xr K rRepM (.lst ds) (.int k) M R := by
  intro vx vy G H Q rx ry w kk
  cases ry
  cases rx with
  | @lst a xs _ hx ra =>
    refine ⟨a, k, xs, rfl, rfl, w.lst hx, h1, h2, by rw [ra.length]; exact Nat.le_trans h (by decide), fun p hp => ?_⟩
    have rr : RpA K G (List.replicate k.toNat xs).flatten (List.replicate k.toNat ds).flatten := by
      generalize k.toNat = n
      induction n with
      | zero => exact .nil
      | succ n ih =>
        rw [List.replicate_succ, List.replicate_succ, List.flatten_cons, List.flatten_cons]
        exact ra.append ih
    exact kk _ (.ref p) G _ _ (Ex.refl G) (.ref p) (w.newM (m := .lst _) hp ⟨w.gfree hp, _, upd_same, rr⟩) (r p)
/-- a list's item set; what the list is then is told by hand -/
def rSetLN := rSetL
theorem set_listN {X : Cx} : PSet X rSetLN := set_list
theorem xg_setLN {ρ : Rho} {vs : List Nat} {to ti : TE} {d : D} {RG : Rho → Mm → Prop} (h : Xe K to ρ M fun o M1 => Xe K ti ρ M1 fun x M2 => ∃ a k ds j M3, o = .ref a ∧ x = .int k ∧ Has M2 a (.lst ds) ∧ ixN ds.length k = some j ∧ Put M2 a (.lst (ds.set j d)) M3 ∧ RG ρ M3) : Xg K vs (gSub to ti rSetLN) d ρ M RG := xg_setL h
end
end XD

/-! XE48: a property of an own class read; an instance called by its own __call__. -/
namespace XD
open PySem PySem.Spec PyProof.Rows L2 XX
/-- a property whose getter is a def of the class -/
structure PMt (K : PySem.W.Frag) (mg : Str → Option Value) (x m qual : Str) (st : Stmt) (ps : List Str) : Prop where
  ex : ∃ p f fd, Fun K m qual st f fd ∧ PropOf K (clsA mg x) m p f ∧ Binds K fd ps []
theorem PMt.mk' {K : PySem.W.Frag} [Bs K] {mg : Str → Option Value} {h : Heap} (X : K.In h) (G : h.Ns mainGlobals mg) {x m qual : Str} {st : Stmt} {ps : List Str} {C f p : Addr} {re : List Value} {oc : Value} {od an : Option Addr} {osl : Array (Option Value)} {kV doc pm cdv ct : Value}
    (a : PySem.W.nsIn K mainGlobals x = some (some (.ref C))) (at_ : PySem.W.findIn K (.ref C) m = some (some (.ref p))) (get : PySem.W.specialIn K (.ref p) "__get__" = some (some (.builtin "property.__get__"))) (tak : PySem.W.takesIn K (.ref p) = some true) (rc : PySem.W.recIn K p "property" = some (.ref f :: re))
    (l : K.lookup f = some ⟨oc, od, .func (PySem.W.fnOf m qual (defArgs st) (defBody st) (defScope st) .none kV doc pm an cdv ct), osl⟩) (c : PySem.W.codeIn K cdv qual = true) (k : PySem.W.keepIn K (.ref f) = true)
    (hb : ∀ (kV doc pm : Value) (an : Option Addr) (cdv ct : Value) (us : List Value), us.length = ps.length → bindArgs (PySem.W.fnOf m qual (defArgs st) (defBody st) (defScope st) .none kV doc pm an cdv ct) ⟨us, []⟩ = pure (ps.zip us)) : PMt K mg x m qual st ps := by
  have e2 := clsA_of (PySem.W.mg_of X G a)
  have F := fun_mk (st := st) l c k
  exact ⟨p, f, _, F, by rw [e2]; exact ⟨at_, get, tak, re, rc⟩, F.binds hb⟩
structure GPr (P : Program) (w : World) (K : PySem.W.Frag) (mg : Str → Option Value) (base : Heap) (k : Nat) (x m : Str) (ps : List Str) (S : DS) : Prop where
  ex : ∃ p f fd, FnOk P w K mg base CX0 k f fd ps (spOf K S) ∧ PropOf K (clsA mg x) m p f ∧ Binds K fd ps []
theorem pr_ok {P : Program} {w : World} {K : PySem.W.Frag} {mg : Str → Option Value} {base : Heap} {x m qual : Str} {st : Stmt} {N ps : List Str} {k : Nat} {S : DS} (T : PMt K mg x m qual st ps) (Sc : FnScope N ps (defScope st)) (len : ∀ ds M R, S ds M R → ds.length = ps.length)
    (hbody : ∀ (f : Addr) (cdv : Value) (A : Around) (outer : List Env) (s : Shared) (H : Hp) (E : XK), Room k (A.deeper (PyProof.Rows.envOfC qual (defScope st) s.heap.objs.size f cdv)) →
      ∃ t, PSs (cxOf CX0 P w K mg base N qual (defScope st) f cdv A outer s H E).nox (defBody st) t ∧ ∀ ds M R, S ds M R → Xs0 K t { nx := fun _ M' => R .non M', rt := R } (startD N ds) M) : GPr P w K mg base (k + 1) x m ps S := by
  obtain ⟨p, f, fd, F, h1, h2⟩ := T.ex
  exact ⟨p, f, fd, fn_ok F Sc len (hbody f), h1, h2⟩
theorem pe_propK {X : Cx} {K : PySem.W.Frag} {mg : Str → Option Value} {k : Nat} {x m : Str} {ps : List Str} {S : DS} {e : Expr} {ta : TE} {pos : Pos} (c : CK K mg x) (G : GPr X.prog X.w K mg X.base k x m ps S) (hr : Room (k + 1) X.A) (he : PE X e ta) (h : X.K = K := by rfl) (hmg : X.mg = mg := by rfl)
    (hab : attributeBase e m X.env (eval e X.env) = eval e X.env := by rfl) : PE X (.Attribute e m pos) (tProp (clsA mg x) (spOf K S) [] E0 ta) := by
  subst h
  subst hmg
  obtain ⟨p, f, fd, h1, h2, h3⟩ := G.ex
  exact pe_prop he c.cls h2 h1 hr h3 .nil pass0 hab
/-! calling an instance -/
section
open PySem.W PySem.Calls
theorem callWith_inst {M : Model} {A : Around} {E : Value → Shared → Prop} {s : Shared} {pos : Pos} {x : Addr} {first : List Value} {Q : Value → Shared → Prop} {args : List (Bool × Sem Value)} (hplain : args.any (·.1) = false)
    (h : wpAny M A (evalArgs (.ref x) true args []) (fun a s₁ => (∃ C ox od, PySem.W.InstAt s₁.heap x ox C od ∧ ox.data = .plain) ∧ wpAny M A (call (.ref x) (first ++ a.pos) a.kw) Q E s₁) E s) : wpAny M A (callWith pos (.ref x) first args []) Q E s := by
  unfold callWith
  refine wpAny_bind (wpAny_holding (wpAny_mono h (fun a s₁ h₁ => wpAny_bind (wpAny_standAt ?_)) fun _ _ y => y))
  obtain ⟨⟨C, ox, od, I, hd⟩, hq⟩ := h₁
  have L := PySem.W.kco_keeper (M := M) I hd
  simp only [hplain, List.any_nil, Bool.or_false]
  refine wpAny_bind (L.here ?_)
  have tail : ∀ {t : Sem Value}, wpAny M A t Q E s₁ → wpAny M A (t >>= fun r => holding [r] point >>= fun _ => pure r) Q E s₁ :=
    fun ht => wpAny_bind (wpAny_mono ht (fun r s₂ hr => wpAny_bind (wpAny_holding (wpAny_point (wpAny_pure hr)))) fun _ _ y => y)
  exact tail (wpAny_operateT hq)
end
def tCallO (C : Addr) (sp : Sp) (E : XK) (i : Nat) (t : TA) : TE := fun σ H Q => ∃ a, σ[i]? = some (some (.ref a)) ∧ (∃ dx fs, H a = some (.ins C dx fs)) ∧ t σ H fun vs H1 => (∃ dx fs, H1 a = some (.ins C dx fs)) ∧ sp (.ref a :: vs) H1 Q E
theorem pe_callO {X : Cx} {CX : CXT} {k i : Nat} {C f : Addr} {sp : Sp} {E : XK} {x : Str} {p pos : Pos} {e : Expr} {es : List Expr} {t : TA} (hs : PySem.W.findIn X.K (.ref C) "__call__" = some (some (.ref f))) (hf : PySem.W.isFn X.K (.ref f) = true) (hfn : PySem.W.fnIn X.K f = true)
    (F : FnR X.prog X.w X.K X.mg X.base CX k f sp) (hr : Room k X.A) (hN : X.N[i]? = some x) (hv : Vis X.env.scope x) (hx : Passes CX X E) (ha : PA X (e :: es) t)
    (hdb : (x == ("__debug__" : Str)) = false := by decide) (hcd : (x == ("__classdict__" : Str)) = false := by decide)
    (he : starEach (e :: es) X.env = (false, eval e X.env) :: starEach es X.env := by rfl) (hpl : (backTo pos (starEach es X.env)).any (·.1) = false := by rfl) : PE X (.Call (.Name x p) (e :: es) [] pos) (tCallO C sp E i t) := by
  refine ⟨fun pins s σ H Q I h => ?_⟩
  obtain ⟨a, hs1, ⟨dx, fs, h0⟩, ht⟩ := h
  refine wpAny_Call_Name_kw (thn ((pe_var (pos := p) hN hv hdb hcd).run pins s σ H (fun v H1 => v = .ref a ∧ H1 = H) I ⟨.ref a, hs1, rfl, rfl⟩) fun u s1 ⟨v, H1, I1, r1, q1⟩ => ?_)
  obtain ⟨rfl, rfl⟩ := q1
  cases r1
  obtain ⟨od, J⟩ := ins_at I1 h0
  refine callWith_inst ?_ ?_
  · rw [he]
    show (false || (backTo pos (starEach es X.env)).any (·.1)) = false
    rw [hpl]
    rfl
  have hb : backTo pos ((false, eval e X.env) :: starEach es X.env) = (false, _) :: backTo pos (starEach es X.env) := rfl
  rw [he, hb]
  have hrun := ha.run pos pins s1 σ _ _ I1 ht
  rw [he, hb] at hrun
  refine PySem.Calls.evalArgs_plain (thn hrun fun us s2 ⟨vs, H2, I2, r, ⟨dx2, fs2, h2⟩, q⟩ => ?_)
  obtain ⟨od2, J2⟩ := ins_at I2 h2
  refine ⟨⟨C, _, _, J2, rfl⟩, ?_⟩
  exact wpAny_call (PySem.W.kco_code I2.kIn J2 rfl hs hf hfn (SlX.run_at (us := .ref a :: us) (ws := .ref a :: vs) F hr I2.env0 hx I2 (.cons rfl r) q))
theorem pe_callOX {X : Cx} {K : PySem.W.Frag} {mg : Str → Option Value} {k i : Nat} {c x : Str} {ps : List Str} {S : DX} {E : XK} {p pos : Pos} {e : Expr} {es : List Expr} {t : TA} (g : GI K mg c "__call__") (G : GMx X.prog X.w K mg X.base k c "__call__" ps S) (hr : Room k X.A) (hN : X.N[i]? = some x) (hv : Vis X.env.scope x) (ha : PA X (e :: es) t)
    (hx : Passes (L2.CX X.prog X.w) X E := by exact passes_call (takes_of rfl rfl rfl rfl) fun _ _ _ _ h => h) (h : X.K = K := by rfl) (hmg : X.mg = mg := by rfl)
    (hdb : (x == ("__debug__" : Str)) = false := by decide) (hcd : (x == ("__classdict__" : Str)) = false := by decide)
    (he : starEach (e :: es) X.env = (false, eval e X.env) :: starEach es X.env := by rfl) (hpl : (backTo pos (starEach es X.env)).any (·.1) = false := by rfl) : PE X (.Call (.Name x p) (e :: es) [] pos) (tCallO (clsA mg c) (spX K S) E i t) := by
  subst h
  subst hmg
  obtain ⟨f, h1, h2, h3⟩ := G.fnR
  obtain ⟨f2, e1, e2⟩ := g.ex
  have e3 : f2 = f := by
    rw [h2] at e1
    cases e1
    rfl
  subst e3
  exact pe_callO h2 h3 e2 h1 hr hN hv hx ha hdb hcd he hpl
section
variable {K : PySem.W.Frag} [Bs K] {ρ : Rho} {M M' : Mm} {R : RD} {Z : RX} {E : XK}
theorem xe_callO {C : Addr} {S : DX} {x : D} {t : TA} {i : Nat} (hE : EKo K E Z) (hi : ρ[i]? = some (some x)) (hx : IsC C x M) (h : Xa K t ρ M fun ds M1 => IsC C x M1 ∧ S (x :: ds) M1 R Z) : Xe K (tCallO C (spX K S) E i t) ρ M R := by
  intro σ G H Q s w k
  obtain ⟨u, hu, ru⟩ := s.at_ i _ hi
  obtain ⟨a, dx, xs, rfl, h1⟩ := hx.at ru w
  refine ⟨a, hu, ⟨dx, xs, h1⟩, ?_⟩
  refine h σ G H _ s w fun vs ds G1 M1 H1 e1 rs w1 q => ?_
  obtain ⟨hx1, q⟩ := q
  obtain ⟨a2, dx2, xs2, e2, h2⟩ := hx1.at (ru.up e1) w1
  cases e2
  exact ⟨⟨dx2, xs2, h2⟩, G1, M1, _, R, Z, .cons (ru.up e1) rs, w1.toWd0, q, sp_back w1.bs k e1, sp_xback (G := G) w1.bs hE⟩
theorem xe_prop {C : Addr} {S : DS} {X : XK} {ta : TE} (h : Xe K ta ρ M fun x M1 => IsC C x M1 ∧ S [x] M1 R) : Xe K (tProp C (spOf K S) [] X ta) ρ M R := by
  intro σ G H Q s w k
  refine h σ G H _ s w fun v x G1 M1 H1 e1 r w1 q => ?_
  obtain ⟨hx, q⟩ := q
  obtain ⟨a, dx, xs, rfl, h1⟩ := hx.at r w1
  exact ⟨a, dx, xs, rfl, h1, G1, M1, [x], R, .cons r .nil, w1.toWd0, q, sp_back w1.bs k e1⟩
end
end XD

/-! XE49: zip of a list and a tuple; one of two ways to iterate. -/
namespace XX
open PySem PySem.Spec PyProof.Rows L2 RZ
/-- the list at a and the tuple at b, the items in new pairs -/
def ItzM (K : PySem.W.Frag) (a b : Addr) : It :=
  ⟨fun i H => ∃ (xs ys : List V) (x y : V), SqL K H a xs ∧ SqT K H b ys ∧ xs[i]? = some x ∧ ys[i]? = some y,
    fun i H v H' => ∃ T x y, v = .ref T ∧ H T = none ∧ H' = upd H T (.tup [x, y]) ∧ (∀ xs, SqL K H a xs → xs[i]? = some x) ∧ ∀ ys, SqT K H b ys → ys[i]? = some y,
    fun i H => ∃ xs ys : List V, SqL K H a xs ∧ SqT K H b ys ∧ i ≤ xs.length ∧ i ≤ ys.length ∧ (i = xs.length ∨ i = ys.length)⟩
theorem sep_of {a b z TI TO i1 i2 : Addr} (D : ZipApart z TI TO i1 i2 a b) : ZipSep2 z TI TO i1 i2 [i1, a] [i2, b] where
  TIz := D.TIz
  TOz := D.TOz
  TITO := D.TITO
  TIi1 := D.TIi1
  mem1 := by simp
  zf1 := by simp [D.i1z.symm, D.l1z.symm]
  Tf1 := by simp [D.TOi1, D.l1TO.symm]
  TIi2 := D.TIi2
  mem2 := by simp
  zf2 := by simp [D.i2z.symm, D.l2z.symm]
  Tf2 := by simp [D.TOi2, D.l2TO.symm]
  sep1_2 := by simp [D.i12, D.l2i1.symm]
  sep2_1 := by simp [D.i12.symm, D.l1i2.symm]
theorem turn_zipM {P : Program} {w : World} {K : PySem.W.Frag} {elts : List Expr} {kk : Nat} {tpos : Pos} {a b z TI TO i1 i2 : Addr} (D : ZipApart z TI TO i1 i2 a b) :
    Turn P w K (.Tuple elts kk tpos) (ItzM K a b) [z, TI, TO, i1, i2] z (fun i h => IsZip h z TI TO .none ∧ IsPair h TI (.ref i1) (.ref i2) ∧ (∃ x y, IsPair h TO x y) ∧ h.IsListIter i1 a i ∧ h.IsTupleIter i2 b i) where
  mem := by simp
  obj := fun i h st c hc => by
    obtain ⟨hz, hTI, ⟨x, y, hTO⟩, ⟨o1, e1, _, d1⟩, ⟨o2, e2, _, d2⟩⟩ := st
    have e' : c = z ∨ c = TI ∨ c = TO ∨ c = i1 ∨ c = i2 := by simpa using hc
    rcases e' with q | q | q | q | q
    · rw [q]; exact ⟨_, hz, fun v q => nomatch q⟩
    · rw [q]; exact ⟨_, hTI, fun v q => nomatch q⟩
    · rw [q]; exact ⟨_, hTO, fun v q => nomatch q⟩
    · rw [q]; exact ⟨o1, e1, fun v q => by rw [d1] at q; cases q⟩
    · rw [q]; exact ⟨o2, e2, fun v q => by rw [d2] at q; cases q⟩
  keep := fun i h h' st k => by
    obtain ⟨hz, hTI, ⟨x, y, hTO⟩, h1, h2⟩ := st
    exact ⟨k z (by simp) _ hz, k TI (by simp) _ hTI, ⟨x, y, k TO (by simp) _ hTO⟩, h1.at fun o q => k i1 (by simp) o q, h2.at fun o q => k i2 (by simp) o q⟩
  item := by
    intro X hP hw hK hc i pins s σ H E I hf st hg
    subst hP hw hK
    obtain ⟨hz, hTI, ⟨x0, y0, hTO⟩, h1, h2⟩ := st
    obtain ⟨xs, ys, x, y, hqx, hqy, hx, hy⟩ := hg
    obtain ⟨its, rv, p, _⟩ := I.list hqx
    obtain ⟨its2, rv2, p2, _⟩ := I.tuple hqy
    obtain ⟨u, hu, ru⟩ := rv.get hx
    obtain ⟨u2, hu2, ru2⟩ := rv2.get hy
    have hzl : z < s.heap.objs.size := Heap.lt_size hz
    have hh : X.A.in1.handled = none := I.ok.hd hc
    have l1 : i < its.toArray.size := by
      have := (List.getElem?_eq_some_iff.mp hu).1
      simpa using this
    have l2 : i < its2.toArray.size := by
      have := (List.getElem?_eq_some_iff.mp hu2).1
      simpa using this
    refine wpAny_pyNext_zipD2_item (sep_of D) (Draws.list hh i1 a D.l1i1 its.toArray) (Draws.tuple hh i2 b D.l2i2 its2.toArray) hz hTI hTO ⟨h1, p.isList⟩ ⟨h2, p2⟩ l1 l2 fun x1 x2 h' tk y1 y2 z' TO' h1' h2' hT hsz hk => ?_
    obtain rfl : x1 = u := by
      have : its.toArray[i]? = some u := by simpa using hu
      exact Option.some.inj (y1.symm.trans this)
    obtain rfl : x2 = u2 := by
      have : its2.toArray[i]? = some u2 := by simpa using hu2
      exact Option.some.inj (y2.symm.trans this)
    refine ⟨_, rfl, wpAny_letOwnedTupleGo_zip (s := { s with heap := h', toks := tk }) z' fun h'' z'' sb => ?_⟩
    have hT2 : h''.get? s.heap.objs.size = some { cls := .type "tuple", data := .seq #[x1, x2] } := (sb.2 _ (Nat.ne_of_gt hzl)).trans hT
    have new : ObjOk X.prog X.w (upd H s.heap.objs.size (.tup [x, y])) h'' s.heap.objs.size (.tup [x, y]) :=
      ⟨by show 2 ≤ sizeLine; decide, [x1, x2], .cons ru (.cons ru2 .nil), ⟨_, hT2, rfl, _, rfl⟩⟩
    have I1 : Inv X pins σ (upd H s.heap.objs.size (.tup [x, y])) { s with heap := h'', toks := tk } :=
      I.turnedNew (t' := tk) (ch := [z, TI, TO, i1, i2]) (fun c o hb q => (sb.2 c (fun q' => hb (by simp [q']))).trans (hk c o (fun q' => hb (by simp [q'])) (fun q' => hb (by simp [q'])) (fun q' => hb (by simp [q'])) (fun q' => hb (by simp [q'])) q)) hf (Nat.le_refl _) new
    refine ⟨.ref s.heap.objs.size, _, I1, rfl, ⟨_, x, y, rfl, I.hok.fresh (Nat.le_refl _), rfl, fun l hl => by rw [I.list_inj hl hqx]; exact hx, fun l hl => by rw [I.tuple_inj hl hqy]; exact hy⟩, ⟨z'', ?_, ⟨x1, x2, ?_⟩, ?_, ?_⟩, fun c hcm => ?_⟩
    · exact (sb.2 _ D.TIz).trans (hk _ _ D.TIz D.TITO D.TIi1 D.TIi2 hTI)
    · exact (sb.2 _ D.TOz).trans TO'
    · exact h1'.1.at fun o q => (sb.2 _ D.i1z).trans q
    · exact h2'.1.at fun o q => (sb.2 _ D.i2z).trans q
    · have hlt : c < s.heap.objs.size := by
        have e' : c = z ∨ c = TI ∨ c = TO ∨ c = i1 ∨ c = i2 := by simpa using hcm
        rcases e' with q | q | q | q | q
        · rw [q]; exact hzl
        · rw [q]; exact Heap.lt_size hTI
        · rw [q]; exact Heap.lt_size hTO
        · rw [q]; obtain ⟨_, e1, _⟩ := h1; exact Heap.lt_size e1
        · rw [q]; obtain ⟨_, e2, _⟩ := h2; exact Heap.lt_size e2
      rw [upd_ne (Nat.ne_of_lt hlt)]
      exact (hf c hcm).1
  done := by
    intro X hP hw hK hc i pins s σ H E I hf st hg
    subst hP hw hK
    obtain ⟨hz, hTI, ⟨x0, y0, hTO⟩, h1, h2⟩ := st
    obtain ⟨xs, ys, hqx, hqy, b1, b2, hend⟩ := hg
    obtain ⟨its, rv, p, _⟩ := I.list hqx
    obtain ⟨its2, rv2, p2, _⟩ := I.tuple hqy
    have l1 := rv.length
    have l2 := rv2.length
    have hh : X.A.in1.handled = none := I.ok.hd hc
    exact wpAny_pyNext_zipD2_end (sep_of D) (Draws.list hh i1 a D.l1i1 its.toArray) (Draws.tuple hh i2 b D.l2i2 its2.toArray) hz hTI hTO ⟨h1, p.isList⟩ ⟨h2, p2⟩ (by simp; omega) (by simp; omega) (by simp; omega)
      fun h' tk hk => ⟨rfl, I.turnedL (t' := tk) (ch := [z, TI, TO, i1, i2]) (fun c o hb q =>
        hk c o (fun q' => hb (by simp [q'])) (fun q' => hb (by simp [q'])) (fun q' => hb (by simp [q'])) (fun q' => hb (by simp [q'])) q) hf⟩
  self := fun A i s Q E st h => wpAny_pyIter_zip st.1 h
def iZipM (K : PySem.W.Frag) (ta : TA) : TI := fun σ H R => ta σ H fun vs H1 => ∃ a b xs ys, vs = [.ref a, .ref b] ∧ SqL K H1 a xs ∧ SqT K H1 b ys ∧ R (ItzM K a b) H1
theorem pi_zipM {X : Cx} {e e2 : Expr} {ta : TA} {p pos tpos : Pos} {elts : List Expr} {kk : Nat} (hg : Gl X "zip") (hm : X.mg "zip" = none) (ha : PA X [e, e2] ta)
    (hs : starEach [e, e2] X.env = (false, eval e X.env) :: starEach [e2] X.env := by rfl) (hpl : (backTo pos (starEach [e2] X.env)).any (·.1) = false := by rfl) :
    PI X (.Tuple elts kk tpos) (.Call (.Name "zip" p) [e, e2] [] pos) (iZipM X.K ta) := by
  refine ⟨fun pins s σ H R I h => ?_⟩
  refine Call_ (ld_blt I hg hm PyProof.Rows.boot_zip (PyProof.Rows.callWith_type1 (thn (ha.run pos pins s σ H _ I h) fun us s1 ⟨vs, H1, I1, r1, q1⟩ => ?_) hs hpl))
  obtain ⟨a, b, xs, ys, ex, hqx, hqy, q⟩ := q1
  subst ex
  cases r1 with
  | cons r rr =>
    cases rr with
    | cons r' rr =>
      cases rr
      cases r
      cases r'
      have fresh5 : ∀ c, c ∈ [s1.heap.objs.size + 4, s1.heap.objs.size + 2, s1.heap.objs.size + 3, s1.heap.objs.size, s1.heap.objs.size + 1] → FpOk X pins H1 c := fun c hcm => by
        have e' : c = s1.heap.objs.size + 4 ∨ c = s1.heap.objs.size + 2 ∨ c = s1.heap.objs.size + 3 ∨ c = s1.heap.objs.size ∨ c = s1.heap.objs.size + 1 := by simpa using hcm
        have hle : s1.heap.objs.size ≤ c := by omega
        exact I1.fpOk hle (I1.hok.fresh hle)
      obtain ⟨its, rv, p1, _⟩ := I1.list hqx
      obtain ⟨its2, rv2, p2, _⟩ := I1.tuple hqy
      obtain ⟨o2, ho2, _⟩ := id p2
      refine zip_begins2 (begins_list a its.toArray) (begins_tuple b its2.toArray) p1.isList p2 fun h' hz hTI hTO g1 g2 hsz hk => wpAny_pyIter_zip hz ?_
      have I2 : Inv X pins σ H1 { s1 with heap := h' } := I1.kept (t' := s1.toks) hk
      exact ⟨s1.heap.objs.size + 4, [s1.heap.objs.size + 4, s1.heap.objs.size + 2, s1.heap.objs.size + 3, s1.heap.objs.size, s1.heap.objs.size + 1], _, _, H1, rfl, I2, turn_zipM (PySem.W.ktu_apart s1.heap.objs.size a b p1.lt (Heap.lt_size ho2)), ⟨hz, hTI, ⟨_, _, hTO⟩, ⟨_, g1, rfl, rfl⟩, ⟨_, g2, rfl, rfl⟩⟩, fresh5, q⟩
/-- one of two ways -/
def iAlt (w1 w2 : TI) : TI := fun σ H R => w1 σ H R ∨ w2 σ H R
theorem pi_alt {X : Cx} {tg e : Expr} {w1 w2 : TI} (h1 : PI X tg e w1) (h2 : PI X tg e w2) : PI X tg e (iAlt w1 w2) := ⟨fun pins s σ H R I h => h.elim (h1.run pins s σ H R I) (h2.run pins s σ H R I)⟩
end XX
namespace XD
open PySem PySem.Spec PyProof.Rows L2 XX
theorem pi_zipLK (K : PySem.W.Frag) {X : Cx} {e e2 : Expr} {ta : TA} {p pos tpos : Pos} {elts : List Expr} {kk : Nat} (hm : X.mg "zip" = none) (ha : PA X [e, e2] ta) (hg : Gl X "zip" := by rfl)
    (hs : starEach [e, e2] X.env = (false, eval e X.env) :: starEach [e2] X.env := by rfl) (hpl : (backTo pos (starEach [e2] X.env)).any (·.1) = false := by rfl) (h : X.K = K := by rfl) :
    PI X (.Tuple elts kk tpos) (.Call (.Name "zip" p) [e, e2] [] pos) (iAlt (iZipM K ta) (RZ.iZipA K ta)) := by
  subst h
  exact pi_alt (pi_zipM hg hm ha hs hpl) (RZ.pi_zipA hg hm ha hs hpl)
section
variable {K : PySem.W.Frag} [Bs K] {ρ : Rho} {M : Mm}
theorem xi_altL {w1 w2 : TI} {RI : Nat → (Nat → D → Prop) → (Mm → Prop) → Mm → Prop} (h : Xi K w1 ρ M RI) : Xi K (iAlt w1 w2) ρ M RI := fun σ G H Q s w k => .inl (h σ G H Q s w k)
theorem xi_altR {w1 w2 : TI} {RI : Nat → (Nat → D → Prop) → (Mm → Prop) → Mm → Prop} (h : Xi K w2 ρ M RI) : Xi K (iAlt w1 w2) ρ M RI := fun σ G H Q s w k => .inr (h σ G H Q s w k)
theorem xi_zipM {ta : TA} {RI : Nat → (Nat → D → Prop) → (Mm → Prop) → Mm → Prop} (h : Xa K ta ρ M fun ds M1 => ∃ xs ys, ds = [.lst xs, .tup ys] ∧ RI (min xs.length ys.length) (fun i x => ∃ a b, xs[i]? = some a ∧ ys[i]? = some b ∧ x = .tup [a, b]) (fun _ => True) M1) : Xi K (iZipM K ta) ρ M RI := by
  intro σ G H Q s w k
  refine h σ G H _ s w fun vs ds G1 M1 H1 e1 r w1 q => ?_
  obtain ⟨xs, ys, rfl, q⟩ := q
  cases r with
  | cons r1 r =>
    cases r with
    | cons r2 r =>
      cases r
      cases r1 with
      | @lst a us _ ha ra =>
        cases r2 with
        | @tup b ws _ hb rb =>
          refine ⟨a, b, us, ws, rfl, .inl (.inl (w1.lst ha)), .inl (.inl (w1.tup hb)), k _ _ _ _ G1 M1 H1 e1 w1 ⟨fun i G M H hi e w _ => ?_, fun G M H e w _ => ?_, fun i G M H x H' hi e w _ y => ?_⟩ q⟩
          · have h1 : i < us.length := by rw [ra.length]; omega
            have h2 : i < ws.length := by rw [rb.length]; omega
            exact ⟨us, ws, us[i], ws[i], .inl (.inl (w.lst (e _ _ ha))), .inl (.inl (w.tup (e _ _ hb))), by simp [h1], by simp [h2]⟩
          · refine ⟨us, ws, .inl (.inl (w.lst (e _ _ ha))), .inl (.inl (w.tup (e _ _ hb))), ?_⟩
            rw [ra.length, rb.length]
            omega
          · obtain ⟨T, u, v, rfl, hT, rfl, f1, f2⟩ := y
            obtain ⟨p, p1, p2⟩ := ra.getV (f1 us (.inl (.inl (w.lst (e _ _ ha)))))
            obtain ⟨q, q1, q2⟩ := rb.getV (f2 ws (.inl (.inl (w.tup (e _ _ hb)))))
            have eN := Ex.new (o := .tup [u, v]) (w.gfree hT)
            exact ⟨_, .tup [p, q], eN, w.new hT, .tup upd_same (.cons (p2.up (e.trans eN)) (.cons (q2.up (e.trans eN)) .nil)), p, q, p1, q1, rfl⟩
end
end XD

/-! XE50: list(a string); an own __neg__; an own binary operator of two instances of one class. -/
namespace XD
open PySem PySem.Spec PyProof.Rows L2 XX
def cListS : List V → Hp → VK → Prop := fun xs H Q => ∃ z : Str, xs = [.str z] ∧ z.length ≤ 1000000 ∧ ∀ p, H p = none → Q (.ref p) (upd H p (.lst ((signs z).map V.str)))
theorem c_listS {X : Cx} (hc : X.calm = true := by rfl) : CallR X (.type "list") cListS := by
  intro pins s σ H xs us Q I r h
  obtain ⟨z, rfl, hz, q⟩ := h
  obtain ⟨u, rfl, rx⟩ := vals1 r
  obtain ⟨t, rfl⟩ := rx
  have hl := sizeLine_eq
  have hz2 : z.cps.size ≤ 1000000 := hz
  refine call_list_str (I.ok.hd hc) z t (fun h' tk acc' c' hk hS hacc => ?_) (by omega)
  refine ⟨.ref s.heap.objs.size, upd H s.heap.objs.size (.lst ((signs z).map V.str)), I.laid hk (Nat.le_refl _) (show ObjOk X.prog X.w _ _ _ (.lst ((signs z).map V.str)) from ⟨?_, acc'.toList, c', ?_, ?_⟩), rfl, q _ (I.hok.fresh (Nat.le_refl _))⟩
  · rw [List.length_map, signs_length]; omega
  · have el : acc'.toList.length = acc'.size := by simp
    refine vals_of_at (by rw [List.length_map, el, hacc.1, signs_length]; rfl) fun j x w h1 h2 => ?_
    obtain ⟨c, u, hc, rfl⟩ := hacc.2 j w (by rw [← Array.getElem?_toList]; exact h2)
    have e2 : ((signs z).map V.str)[j]? = some (.str ⟨#[c]⟩) := by
      unfold signs
      rw [List.map_map, List.getElem?_map, Array.getElem?_toList, hc]
      rfl
    rw [e2] at h1
    cases h1
    exact ⟨u, rfl⟩
  · rw [Array.toArray_toList]; exact hS
theorem k_repT {X : Cx} (K : PySem.W.Frag) (h : X.K = K := by rfl) : OpR X (binaryOp .Mult) (rRepT K) := h ▸ op_repT
def cAbs : List V → Hp → VK → Prop := fun xs H Q => ∃ i, xs = [.int i] ∧ Q (.int (if i < 0 then -i else i)) H
theorem c_abs {X : Cx} : CallR X (.builtin "abs") cAbs := call_abs
/-! own operators -/
def rOwnU (C : Addr) (sp : Sp) (E : XK) : V → Hp → VK → Prop := fun x H Q => ∃ a dx fs, x = .ref a ∧ H a = some (.ins C dx fs) ∧ sp [x] H Q E
theorem un_negO {X : Cx} {CX : CXT} {k : Nat} {C f : Addr} {sp : Sp} {E : XK} (hs : PySem.W.findIn X.K (.ref C) "__neg__" = some (some (.ref f))) (hf : PySem.W.isFn X.K (.ref f) = true)
    (F : FnR X.prog X.w X.K X.mg X.base CX k f sp) (hr : Room k X.A) (hx : Passes CX X E) : UnR X (unaryOp .USub) (rOwnU C sp E) := by
  intro pins s σ H x v Q I rx h
  obtain ⟨a, dx, fs, rfl, ha, h⟩ := h
  cases (show v = Value.ref a from rx)
  obtain ⟨od, J⟩ := ins_at I ha
  obtain ⟨m, hF⟩ := I.fr
  exact PySem.W.ksp_neg hF I.ok.mod.kin J hs hf (wpAny_call (run_fnR (us := [.ref a]) (vs := [.ref a]) F hr hx I (.cons rfl .nil) h))
def rOwnB (C : Addr) (sp : Sp) (E : XK) : R2 := fun x y H Q => ∃ a dx xs b dy ys, x = .ref a ∧ y = .ref b ∧ H a = some (.ins C dx xs) ∧ H b = some (.ins C dy ys) ∧ sp [x, y] H Q E
theorem cmpBack_of {X : Cx} {pins : List (Addr × Obj)} {σ : L2.St} {Q : VK} {v : Value} {s : Shared} (h : EP X pins σ Q v s) : PySem.W.CmpBack (EP X pins σ Q) v s := by
  obtain ⟨x, H', I, r, q⟩ := h
  cases v with
  | notImplemented =>
    cases x with
    | non => cases (show Value.notImplemented = _ from r)
    | bl b => cases (show Value.notImplemented = _ from r)
    | int i => obtain ⟨_, e⟩ := r; cases e
    | str i => obtain ⟨_, e⟩ := r; cases e
    | byt i => obtain ⟨_, e⟩ := r; cases e
    | flt i => obtain ⟨_, e⟩ := r; cases e
    | ref a => cases (show Value.notImplemented = _ from r)
    | ty a => cases (show Value.notImplemented = _ from r)
  | _ => exact ⟨x, H', I, r, q⟩
theorem op_binO {X : Cx} {CX : CXT} {op : Operator} {k : Nat} {C f : Addr} {sp : Sp} {E : XK} (hc : PySem.W.selfFirst X.K C = true) (hs : PySem.W.findIn X.K (.ref C) (PySem.dunder op.info.2) = some (some (.ref f))) (hf : PySem.W.isFn X.K (.ref f) = true)
    (F : FnR X.prog X.w X.K X.mg X.base CX k f sp) (hr : Room k X.A) (hx : Passes CX X E) : OpR X (binaryOp op) (rOwnB C sp E) := by
  intro pins s σ H x y v u Q I rx ry h
  obtain ⟨a, dx, xs, b, dy, ys, rfl, rfl, ha, hb, q⟩ := h
  cases (show v = Value.ref a from rx)
  cases (show u = Value.ref b from ry)
  obtain ⟨od, J⟩ := ins_at I ha
  obtain ⟨od', J'⟩ := ins_at I hb
  obtain ⟨m, hF⟩ := I.fr
  refine PySem.W.binop_K hF I.ok.mod.kin J J'.type hc hs hf (wpAny_mono (wpAny_call (run_fnR (us := [.ref a, .ref b]) (vs := [.ref a, .ref b]) F hr hx I (.cons rfl (.cons rfl .nil)) q)) (fun w s' z => cmpBack_of z) fun _ _ z => z)
/-- the class comes first in its own order -/
structure SF (K : PySem.W.Frag) (mg : Str → Option Value) (x : Str) : Prop where
  sf : PySem.W.selfFirst K (clsA mg x) = true
theorem SF.mk' {K : PySem.W.Frag} [Bs K] {mg : Str → Option Value} {h : Heap} (X : K.In h) (G : h.Ns mainGlobals mg) {x : Str} {C : Addr} (a : PySem.W.nsIn K mainGlobals x = some (some (.ref C)))
    (n : PySem.W.selfFirst K C = true) : SF K mg x := by
  have e2 := clsA_of (PySem.W.mg_of X G a)
  exact ⟨by rw [e2]; exact n⟩
section
variable {X : Cx} {K : PySem.W.Frag} [Bs K] {mg : Str → Option Value} {k : Nat} {x m : Str} {ps : List Str}
theorem k_negC {S : DS} (G : GMt X.prog X.w K mg X.base k x "__neg__" ps S) (hr : Room k X.A) (h : X.K = K := by rfl) (hmg : X.mg = mg := by rfl) : UnR X (unaryOp .USub) (rOwnU (clsA mg x) (spOf K S) E0) := by
  subst h
  subst hmg
  obtain ⟨f, h1, h2, h3⟩ := G.fnR
  exact un_negO h2 h3 h1 hr pass0
theorem k_binC {S : DX} {E : XK} {op : Operator} (sf : SF K mg x) (G : GMx X.prog X.w K mg X.base k x m ps S) (hm : PySem.dunder op.info.2 = m := by rfl) (hr : Room k X.A)
    (hx : Passes (L2.CX X.prog X.w) X E := by exact passes_call (takes_of rfl rfl rfl rfl) fun _ _ _ _ h => h) (h : X.K = K := by rfl) (hmg : X.mg = mg := by rfl) : OpR X (binaryOp op) (rOwnB (clsA mg x) (spX K S) E) := by
  subst h
  subst hmg
  subst hm
  obtain ⟨f, h1, h2, h3⟩ := G.fnR
  exact op_binO sf.sf h2 h3 h1 hr hx
end
section
variable {K : PySem.W.Frag} [Bs K] {ρ : Rho} {M : Mm} {R : RD} {Z : RX} {E : XK}
theorem xc_listS {z : Str} (hz : z.length ≤ 1000000) (r : R (.lst ((signs z).map D.str)) M) : Xc K cListS [.str z] M R := by
  intro vs G H Q rs w k
  cases rs with
  | cons h1 t =>
    cases t
    cases h1
    refine ⟨z, rfl, hz, fun l hl => ?_⟩
    have e := Ex.new (o := .lst ((signs z).map V.str)) (w.gfree hl)
    have ra : ∀ (H' : Hp) (l : List Str), RpA K H' (l.map V.str) (l.map D.str) := by
      intro H' l
      induction l with
      | nil => exact .nil
      | cons y l ih => exact .cons (.str y) ih
    exact k _ _ _ M _ e (.lst upd_same (ra _ _)) (w.new hl) r
theorem xc_abs {i : Int} (r : R (.int (if i < 0 then -i else i)) M) : Xc K cAbs [.int i] M R := by
  intro vs G H Q rs w k
  cases rs with
  | cons h1 t =>
    cases t
    cases h1
    exact ⟨i, rfl, k _ _ G M H (Ex.refl G) (.int _) w r⟩
theorem xr_repT {ds : List D} {k : Int} (h1 : 2 ≤ k) (h2 : k ≤ 1000) (hne : ds ≠ []) (h : ds.length ≤ 1000) (r : R (.tup (List.replicate k.toNat ds).flatten) M) : Xr K (rRepT K) (.tup ds) (.int k) M R := by
  intro vx vy G H Q rx ry w kk
  cases ry
  cases rx with
  | @tup a xs _ hx ra =>
    have hl := ra.length
    refine ⟨a, k, xs, rfl, rfl, .inl (.inl (w.tup hx)), fun z => hne (by rw [z] at hl; exact List.eq_nil_of_length_eq_zero hl.symm), h1, h2, by rw [hl]; exact h, fun p hp => ?_⟩
    have rr : RpA K G (List.replicate k.toNat xs).flatten (List.replicate k.toNat ds).flatten := by
      generalize k.toNat = n
      induction n with
      | zero => exact .nil
      | succ n ih =>
        rw [List.replicate_succ, List.replicate_succ, List.flatten_cons, List.flatten_cons]
        exact ra.append ih
    have e := Ex.new (o := .tup (List.replicate k.toNat xs).flatten) (w.gfree hp)
    exact kk _ _ _ M _ e (.tup upd_same (rr.up e)) (w.new hp) r
theorem xu_negC {C : Addr} {S : DS} {X : XK} {x : D} (hx : IsC C x M) (h : S [x] M R) : Xu K (rOwnU C (spOf K S) X) x M R := by
  intro vx G H Q r1 w k
  obtain ⟨a, dx, xs, rfl, h1⟩ := hx.at r1 w
  exact ⟨a, dx, xs, rfl, h1, G, M, [x], R, .cons r1 .nil, w.toWd0, h, sp_back w.bs k (Ex.refl G)⟩
theorem xr_binC {C : Addr} {S : DX} {x y : D} (hE : EKo K E Z) (hx : IsC C x M) (hy : IsC C y M) (h : S [x, y] M R Z) : Xr K (rOwnB C (spX K S) E) x y M R := by
  intro vx vy G H Q r1 r2 w k
  obtain ⟨a, dx, xs, rfl, h1⟩ := hx.at r1 w
  obtain ⟨b, dy, ys, rfl, h2⟩ := hy.at r2 w
  exact ⟨a, dx, xs, b, dy, ys, rfl, rfl, h1, h2, G, M, [x, y], R, Z, .cons r1 (.cons r2 .nil), w.toWd0, h, sp_back w.bs k (Ex.refl G), sp_xback (G := G) w.bs hE⟩
end
end XD

/-! XE51: == and != of dicts with tuple keys, whose values are ints. -/
namespace XX
open PySem PySem.Spec PyProof.Rows L2 DT PyProof.V PySem.W
section
variable {prog : Program} {w : World} {K : Type} [DecidableEq K] {knd : HeapKind prog w K} {A : Around} {E : Value → Shared → Prop} {s : Shared}
inductive HitsH {K : Type} [DecidableEq K] (A : Around) (s : Shared) (kb : List (K × Addr × Value)) : List (K × Addr × Value) → Bool → Prop
  | nil : HitsH A s kb [] true
  | miss {k : K} {p : Addr × Value} {r : List (K × Addr × Value)} : (∀ (j : Nat) (q : Addr × Value), kb[j]? ≠ some (k, q)) → HitsH A s kb ((k, p) :: r) false
  | hit {k : K} {p q : Addr × Value} {j : Nat} {r : List (K × Addr × Value)} {e b : Bool} : kb[j]? = some (k, q) → SeqAt.EqAt A s p.2 q.2 e → HitsH A s kb r b → HitsH A s kb ((k, p) :: r) (e && b)
theorem HitsH.inv {kb : List (K × Addr × Value)} {k : K} {p : Addr × Value} {r : List (K × Addr × Value)} {b : Bool} (h : HitsH A s kb ((k, p) :: r) b) :
    ((∀ (j : Nat) (q : Addr × Value), kb[j]? ≠ some (k, q)) ∧ b = false) ∨ ∃ (j : Nat) (q : Addr × Value) (e b' : Bool), kb[j]? = some (k, q) ∧ SeqAt.EqAt A s p.2 q.2 e ∧ HitsH A s kb r b' ∧ b = (e && b') := by
  cases h with
  | miss hn => exact .inl ⟨hn, rfl⟩
  | hit hy he hr => exact .inr ⟨_, _, _, _, hy, he, hr, rfl⟩
theorem key_uniq {kb : List (K × Addr × Value)} (nd : (kb.map (·.1)).Nodup) {k : K} {i j : Nat} {p q : Addr × Value} (h1 : kb[i]? = some (k, p)) (h2 : kb[j]? = some (k, q)) : i = j := by
  have e1 : (kb.map (·.1))[i]? = some k := by rw [List.getElem?_map, h1]; rfl
  have e2 : (kb.map (·.1))[j]? = some k := by rw [List.getElem?_map, h2]; rfl
  obtain ⟨l1, g1⟩ := List.getElem?_eq_some_iff.mp e1
  obtain ⟨l2, g2⟩ := List.getElem?_eq_some_iff.mp e2
  exact (List.getElem_inj nd).mp (g1.trans g2.symm)
theorem samePairsH {nm : String} {a b : Addr} {ka kb : List (K × Addr × Value)} {r : Bool} {Q : Bool → Shared → Prop} (hu : knd.room A) (ha : (a == sysModules) = false) (hb : (b == sysModules) = false)
    (da : s.heap.DictOfH knd a ka) (db : s.heap.DictOfH knd b kb) (hits : ka.length = kb.length → HitsH A s kb ka r) (h : Q (ka.length == kb.length && r) s) :
    wpAny (model prog w) A (Builtin.Dict.samePairs nm a b) Q E s := by
  obtain ⟨oa, es, ep, hoa, _, hda, hea, hia, hna⟩ := da
  obtain ⟨ob, es', ep', hob, _, hdb, heb, hib, hnb⟩ := db
  have hla : ka.length = es.size := (size_of_entries hea).symm
  have hlb : kb.length = es'.size := (size_of_entries heb).symm
  rw [hla, hlb] at h
  unfold Builtin.Dict.samePairs Builtin.Dict.showsAll
  rw [if_neg (show ¬ (a == sysModules) = true by rw [ha]; exact Bool.false_ne_true), if_neg (show ¬ (b == sysModules) = true by rw [hb]; exact Bool.false_ne_true)]
  refine wpAny_bind (wpAny_pure (wpAny_bind (wpAny_pure ?_)))
  refine wpAny_bind (wpAny_dictEntries hoa hda ?_)
  dsimp only
  refine wpAny_bind (wpAny_dictEntries hob hdb ?_)
  by_cases hsz : es.size = es'.size
  case neg =>
    rw [if_pos (by simpa using hsz)]
    have hbf : (es.size == es'.size) = false := by simpa using hsz
    rw [hbf, Bool.false_and] at h
    exact wpAny_bind (wpAny_rule (wpAny_pure h))
  case pos =>
    have h' : Q r s := by simpa [hsz] using h
    have hits' := hits (by rw [hla, hlb]; exact hsz)
    rw [if_neg (by rw [hsz]; simp)]
    refine wpAny_bind (wpAny_dictEpoch hoa hda ?_)
    refine wpAny_bind ?_
    rw [Std.Legacy.Range.forIn_eq_forIn_range']
    simp only [Std.Legacy.Range.size, Nat.sub_zero, Nat.add_sub_cancel, Nat.div_one]
    refine wpAny_forIn_list _
      (fun rest q s' => s' = s ∧ q = (none, ()) ∧ ∃ i, rest = List.range' i (es.size - i) ∧ i ≤ es.size ∧ HitsH A s kb (ka.drop i) r)
      _ ?_ ?_ _ _ ⟨rfl, rfl, 0, by simp, Nat.zero_le _, hits'⟩
    · rintro x rest q s' ⟨rfl, rfl, i, hr, hi, hpre⟩
      have hlt : i < es.size := by
        rcases Nat.lt_or_ge i es.size with h | h
        · exact h
        · rw [Nat.sub_eq_zero_of_le h] at hr; simp at hr
      obtain ⟨rfl, hrest⟩ : x = i ∧ rest = List.range' (i + 1) (es.size - (i + 1)) := by
        have e : es.size - i = (es.size - (i + 1)) + 1 := by omega
        rw [e, List.range'_succ] at hr
        injection hr with h1 h2
        exact ⟨h1, h2⟩
      refine wpAny_bind (wpAny_dictEntries hoa hda ?_)
      rw [Array.getElem?_eq_getElem hlt]
      have hlt' : x < ka.length := by rw [hla]; exact hlt
      obtain ⟨k, p, hkv⟩ : ∃ k p, ka[x] = (k, p) := ⟨_, _, rfl⟩
      have hkx : ka[x]? = some (k, p) := by rw [List.getElem?_eq_getElem hlt', hkv]
      have hdrop : ka.drop x = (k, p) :: ka.drop (x + 1) := by rw [← hkv]; exact List.drop_eq_getElem_cons hlt'
      have hen : es[x] = entryOfKey knd (k, p) := by
        have e1 := entry_at hea x
        rw [hkx, Array.getElem?_eq_getElem hlt] at e1
        exact Option.some.inj e1
      have hik := hia (k, p) (List.mem_of_getElem? hkx)
      rw [hdrop] at hpre
      rw [hen]
      show wpAny _ _ (holding [Value.ref p.1, p.2] _ >>= _) _ _ _
      refine wpAny_bind (wpAny_holding (wpAny_bind (wpAny_dictFind_heap hu hik hob hdb heb hib hnb (fun hno => ?_) (fun j q hj => ?_))))
      · rcases hpre.inv with ⟨_, er⟩ | ⟨j, q, _, _, hy, _⟩
        · rw [er] at h'
          refine wpAny_pure ?_
          show wpAny _ _ (if (!false) = true then _ else _) _ _ _
          rw [if_pos (by decide)]
          exact wpAny_pure (wpAny_pure h')
        · exact absurd hy (hno j q)
      · have hjs : j < es'.size := by
          rw [← hlb]
          exact (List.getElem?_eq_some_iff.mp hj).1
        have hen2 : es'[j] = entryOfKey knd (k, q) := by
          have e1 := entry_at heb j
          rw [hj, Array.getElem?_eq_getElem hjs] at e1
          exact Option.some.inj e1
        refine wpAny_bind (wpAny_dictEntries hob hdb ?_)
        rw [Array.getElem?_eq_getElem hjs]
        rcases hpre.inv with ⟨hn, _⟩ | ⟨j2, q2, e, b', hy, he, hrr, er⟩
        · exact absurd hj (hn j q)
        · have ej := key_uniq hnb hy hj
          subst ej
          rw [hj] at hy
          cases hy
          dsimp only
          rw [hen2]
          refine wpAny_holding (he prog w _ _ ?_)
          cases e with
          | false =>
            rw [er, Bool.false_and] at h'
            show wpAny _ _ (if (!false) = true then _ else _) _ _ _
            rw [if_pos (by decide)]
            exact wpAny_pure (wpAny_pure h')
          | true =>
            rw [Bool.true_and] at er
            rw [← er] at hrr
            show wpAny _ _ (if (!true) = true then _ else _) _ _ _
            rw [if_neg (by decide)]
            refine wpAny_bind (wpAny_dictEpoch hoa hda ?_)
            rw [if_neg (by simp)]
            exact wpAny_pure ⟨rfl, rfl, x + 1, hrest, hlt, hrr⟩
    · rintro q s' ⟨rfl, rfl, i, hr, hi, hpre⟩
      have hin : i = es.size := by
        rcases Nat.lt_or_ge i es.size with h | h
        · have e : es.size - i = (es.size - (i + 1)) + 1 := by omega
          rw [e, List.range'_succ] at hr; exact nomatch hr
        · exact Nat.le_antisymm hi h
      refine wpAny_pure ?_
      rw [hin, ← hla, List.drop_length] at hpre
      cases hpre
      exact h'
theorem heq_eq {a b : Addr} {ka kb : List (K × Addr × Value)} {r : Bool} {Q : Value → Shared → Prop} (hr : knd.room A.in1) (ha : (a == sysModules) = false) (hb : (b == sysModules) = false)
    (da : s.heap.DictOfH knd a ka) (db : s.heap.DictOfH knd b kb) (hu : A.units < cLine) (hits : ka.length = kb.length → HitsH A.in1 s kb ka r) (h : Q (.bool (ka.length == kb.length && r)) s) :
    wpAny (model prog w) A (compareOp .Eq (.ref a) (.ref b)) Q E s := by
  refine wpAny_richCompare_same_room (op := .Eq) da.typeIs db.typeIs PySem.F.slot_dict_eq (wpAny_call_entry PySem.F.slot_dict_eq da.typeIs PySem.F.entry_dict_eq ?_ (PySem.F.args_dict_eq_2 _ _)) hu
  show wpAny _ _ (Builtin.Dict.dictSlotArgs "__eq__" ⟨[.ref a, .ref b], []⟩ >>= _) _ _ s
  refine wpAny_bind ?_
  unfold Builtin.Dict.dictSlotArgs
  refine wpAny_bind (wpAny_notOrdered_dict da.typeIs ?_)
  show wpAny _ _ (pure (Value.ref a, Value.ref b)) _ _ s
  refine wpAny_pure ?_
  refine wpAny_bind (wpAny_isInstance (T := "dict") db.typeIs PySem.F.sub_dict_dict ?_)
  simp only [Bool.not_true, Bool.false_eq_true, if_false]
  refine wpAny_bind (wpAny_pure (wpAny_bind (wpAny_pure ?_)))
  refine wpAny_bind (samePairsH hr ha hb da db hits ?_)
  refine wpAny_pure ⟨_, rfl, ?_, ?_⟩
  · exact fun x => nomatch x
  · simpa using h
theorem heq_ne {a b : Addr} {ka kb : List (K × Addr × Value)} {r : Bool} {Q : Value → Shared → Prop} (hr : knd.room A.in1) (ha : (a == sysModules) = false) (hb : (b == sysModules) = false)
    (da : s.heap.DictOfH knd a ka) (db : s.heap.DictOfH knd b kb) (hu : A.units < cLine) (hits : ka.length = kb.length → HitsH A.in1 s kb ka r) (h : Q (.bool (!(ka.length == kb.length && r))) s) :
    wpAny (model prog w) A (compareOp .NotEq (.ref a) (.ref b)) Q E s := by
  refine wpAny_richCompare_same_room (op := .NotEq) da.typeIs db.typeIs PySem.F.slot_dict_ne (wpAny_call_entry PySem.F.slot_dict_ne da.typeIs PySem.F.entry_dict_ne ?_ (PySem.F.args_dict_ne_2 _ _)) hu
  show wpAny _ _ (Builtin.Dict.dictSlotArgs "__ne__" ⟨[.ref a, .ref b], []⟩ >>= _) _ _ s
  refine wpAny_bind ?_
  unfold Builtin.Dict.dictSlotArgs
  refine wpAny_bind (wpAny_notOrdered_dict da.typeIs ?_)
  show wpAny _ _ (pure (Value.ref a, Value.ref b)) _ _ s
  refine wpAny_pure ?_
  refine wpAny_bind (wpAny_isInstance (T := "dict") db.typeIs PySem.F.sub_dict_dict ?_)
  simp only [Bool.not_true, Bool.false_eq_true, if_false]
  refine wpAny_bind (wpAny_pure (wpAny_bind (wpAny_pure ?_)))
  refine wpAny_bind (samePairsH hr ha hb da db hits ?_)
  refine wpAny_pure ⟨_, rfl, ?_, ?_⟩
  · exact fun x => nomatch x
  · simpa using h
end
end XX
namespace XX
open PySem PySem.Spec PyProof.Rows L2 DT PyProof.V PySem.W
/-- what == of two such dicts answers -/
def hitV (ls : List (List L2.Key × V)) (kv : List L2.Key × V) : Bool := match valV ls kv.1 with | some v => decide (kv.2 = v) | none => false
def eqDV (ks ls : List (List L2.Key × V)) : Bool := ks.length == ls.length && ks.all (hitV ls)
def IntsV (ks : List (List L2.Key × V)) : Prop := ∀ kv ∈ ks, ∃ i, kv.2 = V.int i
theorem hits_of {H : Hp} {A : Around} {s : Shared} {ls : List (List L2.Key × V)} {xb : List (List L2.Key × Addr × Value)} (rb : KT H ls xb) (nb : (xb.map (·.1)).Nodup) (ib : IntsV ls) :
    ∀ {ks : List (List L2.Key × V)} {xa : List (List L2.Key × Addr × Value)}, KT H ks xa → IntsV ks → HitsH A s xb xa (ks.all (hitV ls)) := by
  intro ks xa ra
  induction ra with
  | nil => intro _; exact .nil
  | @cons p q ps qs h t ih =>
    intro ia
    obtain ⟨h1, _, h2⟩ := h
    have ihr := ih fun kv hk => ia kv (List.mem_cons_of_mem _ hk)
    obtain ⟨i, hi⟩ := ia p List.mem_cons_self
    rw [hi] at h2
    obtain ⟨ti, h2⟩ := h2
    have hq : q = (p.1, q.2) := by rw [h1]
    rw [List.all_cons, hq]
    have hv := rb.val p.1
    by_cases hx : ∃ (j : Nat) (z : Addr × Value), xb[j]? = some (p.1, z)
    · obtain ⟨j, z, hj⟩ := hx
      rw [atKey_of_get nb hj] at hv
      cases e : valV ls p.1 with
      | none => rw [e] at hv; exact hv.elim
      | some v =>
        rw [e] at hv
        have hv : RelV v z.2 := hv
        obtain ⟨kv, hkv, ev⟩ : ∃ kv ∈ ls, kv.2 = v := by
          unfold valV at e
          obtain ⟨kv, h3, h4⟩ := Option.map_eq_some_iff.mp e
          exact ⟨kv, List.mem_of_find?_eq_some h3, h4⟩
        obtain ⟨i2, hi2⟩ := ib kv hkv
        have ev2 : v = .int i2 := by rw [← ev, hi2]
        rw [ev2] at hv e
        obtain ⟨t2, hv⟩ := hv
        have eh : hitV ls p = decide (i = i2) := by
          unfold hitV
          rw [e, hi]
          simp
        rw [eh]
        refine .hit (q := z) hj ?_ ihr
        rw [h2, hv]
        exact SeqAt.EqAt.int_int i ti i2 t2
    · have hno : ∀ (j : Nat) (z : Addr × Value), xb[j]? ≠ some (p.1, z) := fun j z hz => hx ⟨j, z, hz⟩
      rw [atKey_none_of_get hno] at hv
      cases e : valV ls p.1 with
      | some v => rw [e] at hv; exact hv.elim
      | none =>
        have eh : hitV ls p = false := by
          unfold hitV
          rw [e]
        rw [eh, Bool.false_and]
        exact .miss hno
def rDictT (neg : Bool) : R2 := fun x y H Q => ∃ a b ks ls, x = .ref a ∧ y = .ref b ∧ Rd H a (.dT ks) ∧ Rd H b (.dT ls) ∧ IntsV ks ∧ IntsV ls ∧ Q (.bl (if neg then !eqDV ks ls else eqDV ks ls)) H
section
variable {X : Cx}
theorem op_eqT (hu : X.A.units + 3 < cLine) : OpR X (compareOp .Eq) (rDictT false) := by
  intro pins s σ H x y v u Q I rx ry h
  obtain ⟨a, b, ks, ls, rfl, rfl, ha, hb, ia, ib, q⟩ := h
  cases (show v = Value.ref a from rx)
  cases (show u = Value.ref b from ry)
  obtain ⟨za, ya, xa, ra, da⟩ := dt_rd I.hok ha
  obtain ⟨zb, yb, xb, rb, db⟩ := dt_rd I.hok hb
  obtain ⟨_, _, _, _, _, _, _, _, nb⟩ := id db
  refine heq_eq (knd := tupleKind (mixKind X.prog X.w)) (r := ks.all (hitV ls)) (tupleKind_room_in1 (by omega)) ya yb da db (by omega) (fun _ => hits_of rb nb ib ra ia) ⟨.bl _, H, I, rfl, ?_⟩
  rw [← Paired.length ra, ← Paired.length rb]
  exact q
theorem op_neT (hu : X.A.units + 3 < cLine) : OpR X (compareOp .NotEq) (rDictT true) := by
  intro pins s σ H x y v u Q I rx ry h
  obtain ⟨a, b, ks, ls, rfl, rfl, ha, hb, ia, ib, q⟩ := h
  cases (show v = Value.ref a from rx)
  cases (show u = Value.ref b from ry)
  obtain ⟨za, ya, xa, ra, da⟩ := dt_rd I.hok ha
  obtain ⟨zb, yb, xb, rb, db⟩ := dt_rd I.hok hb
  obtain ⟨_, _, _, _, _, _, _, _, nb⟩ := id db
  refine heq_ne (knd := tupleKind (mixKind X.prog X.w)) (r := ks.all (hitV ls)) (tupleKind_room_in1 (by omega)) ya yb da db (by omega) (fun _ => hits_of rb nb ib ra ia) ⟨.bl _, H, I, rfl, ?_⟩
  rw [← Paired.length ra, ← Paired.length rb]
  exact q
end
end XX
namespace XD
open PySem PySem.Spec PyProof.Rows L2 XX
section
variable {K : PySem.W.Frag} [Bs K] {ρ : Rho} {M : Mm} {R : RD}
def hitD (ls : List (List Key × D)) (kv : List Key × D) : Bool := match valD ls kv.1, kv.2 with | some (.int j), .int i => decide (i = j) | _, _ => false
def eqDD (ks ls : List (List Key × D)) : Bool := ks.length == ls.length && ks.all (hitD ls)
def IntsD (ks : List (List Key × D)) : Prop := ∀ kv ∈ ks, ∃ i, kv.2 = D.int i
theorem ints_ofD {G : Hp} : ∀ {xs : List (List Key × V)} {ks : List (List Key × D)}, RpT K G xs ks → IntsD ks → IntsV xs := by
  intro xs
  induction xs with
  | nil => intro ks r h kv hk; cases hk
  | cons x xs ih =>
    intro ks r h
    cases r with
    | @cons k v _ d ds h1 r =>
      intro kv hk
      rcases List.mem_cons.mp hk with rfl | hk
      · obtain ⟨i, e⟩ := h (k, d) List.mem_cons_self
        have e : d = .int i := e
        subst e
        cases h1
        exact ⟨i, rfl⟩
      · exact ih r (fun z hz => h z (List.mem_cons_of_mem _ hz)) kv hk
theorem hit_ofD {G : Hp} {ys : List (List Key × V)} {ls : List (List Key × D)} (r : RpT K G ys ls) (hl : IntsD ls) {k : List Key} {v : V} {d : D} (rv : Rp K G v d) (hd : ∃ i, d = D.int i) : hitV ys (k, v) = hitD ls (k, d) := by
  obtain ⟨i, rfl⟩ := hd
  cases rv
  unfold hitV hitD
  rcases r.val (k := k) with ⟨h1, h2⟩ | ⟨d2, v2, h1, h2, h3⟩
  · rw [h1, h2]
  · rw [h1, h2]
    obtain ⟨kv, h4, h5⟩ := Option.map_eq_some_iff.mp (show (ls.find? fun kv => decide (kv.1 = k)).map (·.2) = some d2 from h1)
    obtain ⟨j, e⟩ := hl kv (List.mem_of_find?_eq_some h4)
    rw [h5] at e
    subst e
    cases h3
    simp
theorem eq_ofD {G : Hp} {xs ys : List (List Key × V)} {ks ls : List (List Key × D)} (r1 : RpT K G xs ks) (r2 : RpT K G ys ls) (h1 : IntsD ks) (h2 : IntsD ls) : eqDV xs ys = eqDD ks ls := by
  unfold eqDV eqDD
  rw [r1.length, r2.length]
  refine congrArg (fun z => ks.length == ls.length && z) ?_
  have go : ∀ {xs : List (List Key × V)} {ks : List (List Key × D)}, RpT K G xs ks → IntsD ks → xs.all (hitV ys) = ks.all (hitD ls) := by
    intro xs
    induction xs with
    | nil => intro ks r h; cases r; rfl
    | cons x xs ih =>
      intro ks r h
      cases r with
      | @cons k v _ d ds h1 r =>
        rw [List.all_cons, List.all_cons, ih r fun z hz => h z (List.mem_cons_of_mem _ hz), hit_ofD r2 h2 h1 (h (k, d) List.mem_cons_self)]
  exact go r1 h1
theorem xr_dictT {neg : Bool} {x y : D} {ks ls : List (List Key × D)} (hx : DcT M x ks) (hy : DcT M y ls) (h1 : IntsD ks) (h2 : IntsD ls) (r : R (.bl (if neg then !eqDD ks ls else eqDD ks ls)) M) : Xr K (rDictT neg) x y M R := by
  intro vx vy G H Q ra rb w k
  obtain ⟨a, xs, rfl, hd, rk⟩ := hx.at ra w
  obtain ⟨b, ys, rfl, hd2, rk2⟩ := hy.at rb w
  refine ⟨a, b, xs, ys, rfl, rfl, hd, hd2, ints_ofD rk h1, ints_ofD rk2 h2, ?_⟩
  rw [eq_ofD rk rk2 h1 h2]
  exact k _ _ G M H (Ex.refl G) (.bl _) w r
end
end XD

/-! XE52: dict(pairs), keys tuples. -/
namespace XX
open PySem PySem.Spec PyProof.Rows L2 DT PyProof.V PySem.W
variable {X : Cx}
/-- pairs of a key tuple and a value, told by their addresses -/
def PrT (H : Hp) (p : Addr) (kv : List L2.Key × V) : Prop := ∃ q, H p = some (.tup [.ref q, kv.2]) ∧ H q = some (.tup (kv.1.map kV))
theorem pairsT_of {pins : List (Addr × Obj)} {σ : L2.St} {H : Hp} {s : Shared} (I : Inv X pins σ H s) : ∀ {ps : List Addr} {kvs : List (List L2.Key × V)}, Paired (PrT H) ps kvs →
    ∃ xs : List (List L2.Key × Addr × Value), KT H kvs xs ∧ xs.length = ps.length ∧ ∀ (j : Nat) (x : List L2.Key × Addr × Value), xs[j]? = some x → ∃ b, ps[j]? = some b ∧ IsTup s.heap b #[.ref x.2.1, x.2.2]
  | _, _, .nil => ⟨[], .nil, rfl, fun j q e => by simp at e⟩
  | _, _, .cons (a := p) (b := kv) h t => by
    obtain ⟨xs, r, hl, hp⟩ := pairsT_of I t
    obtain ⟨q, h1, h2⟩ := h
    obtain ⟨_, its, rv, ht⟩ := (show ObjOk X.prog X.w H s.heap p (.tup [.ref q, kv.2]) from I.hok p _ h1)
    obtain ⟨u, y, ei, ru, ry⟩ := vals2 rv
    subst ei
    obtain rfl : u = Value.ref q := ru
    refine ⟨(kv.1, q, y) :: xs, .cons ⟨rfl, h2, ry⟩ r, by rw [List.length_cons, List.length_cons, hl], fun j x e => ?_⟩
    cases j with
    | zero =>
      have e' : (kv.1, q, y) = x := Option.some.inj e
      subst e'
      exact ⟨p, rfl, ht⟩
    | succ j =>
      obtain ⟨b, e1, e2⟩ := hp j x (by simpa using e)
      exact ⟨b, by simpa using e1, e2⟩
def cDictPT : List V → Hp → VK → Prop := fun xs H Q => ∃ a ps kvs, xs = [.ref a] ∧ Rd H a (.lst (ps.map V.ref)) ∧ Paired (PrT H) ps kvs ∧ (kvs.map (·.1)).Nodup ∧ kvs.length ≤ 16000000 ∧ ∀ p, H p = none → Q (.ref p) (upd H p (.dT kvs))
theorem c_dictPT (hc : X.calm = true) (hu : X.A.units + 3 < cLine) : CallR X (.type "dict") cDictPT := by
  intro pins s σ H xs us Q I r h
  obtain ⟨a, ps, kvs, rfl, hq, hp, nd, hln, q⟩ := h
  obtain ⟨u, rfl, rx⟩ := vals1 r
  cases rx
  obtain ⟨its, rv, pl, hz⟩ := I.list (.inl hq)
  have ei := refs_at rv
  subst ei
  rw [List.length_map] at hz
  obtain ⟨xs, rel, hl, hpr⟩ := pairsT_of I hp
  have hlen : kvs.length = xs.length := Paired.length rel
  have k1 : xs.map (·.1) = kvs.map (·.1) := by
    have : ∀ {l : List (List L2.Key × V)} {m : List (List L2.Key × Addr × Value)}, KT H l m → m.map (·.1) = l.map (·.1) := by
      intro l m q
      induction q with
      | nil => rfl
      | cons h t ih => rw [List.map_cons, List.map_cons, ih, h.1]
    exact this rel
  have keys : ∀ x ∈ xs, H x.2.1 = some (.tup (x.1.map kV)) := by
    intro x hx
    obtain ⟨j, hj⟩ := List.mem_iff_getElem?.mp hx
    obtain ⟨kv, hkv, r1, r2, r3⟩ := L2.DX.pget rel hj
    rw [← r1]
    exact r2
  obtain ⟨o, n, ho, hc2, hd, hdat⟩ := pl
  have P := PySem.PairArg.list (prog := X.prog) (w := X.w) a (ps.map Value.ref).toArray (fun j => (ps[j]?).getD 0) (xs.map fun x => (Value.ref x.2.1, x.2.2))
  refine PySem.call_dict_pairsH (knd := tupleKind (mixKind X.prog X.w)) (ps := xs) P (I.ok.hd hc) (tupleKind_room_in1 (A := X.A.in1) (by show X.A.units + 1 + 1 < cLine; omega)) ⟨⟨o, n, ho, hc2, hd, hdat⟩, ?_, ?_⟩ ⟨by rw [List.length_map], ?_⟩ ?_ ?_ fun h' tk hd' k => ?_
  · rw [List.size_toArray, List.length_map, List.length_map, hl]
  · intro j k v hj
    rw [List.getElem?_map] at hj
    obtain ⟨x, hx, e⟩ := Option.map_eq_some_iff.mp hj
    cases e
    obtain ⟨b, h1, h2⟩ := hpr j x hx
    have e0 : (ps[j]?).getD 0 = b := by rw [h1]; rfl
    show (ps.map Value.ref).toArray[j]? = some (Value.ref ((ps[j]?).getD 0)) ∧ PairAt s.heap ((ps[j]?).getD 0) _ _
    rw [e0]
    refine ⟨by simp [h1], .inl ?_⟩
    obtain ⟨oo, g1, g2, nn, g3⟩ := h2
    exact ⟨oo, g1, g2, nn, g3⟩
  · intro i key v hr
    have hr : (xs.map fun x => (Value.ref x.2.1, x.2.2))[i]? = some (key, v) := hr
    rw [List.getElem?_map] at hr
    obtain ⟨x, hx, e⟩ := Option.map_eq_some_iff.mp hr
    cases e
    exact ⟨x.1, x.2.1, hx, rfl⟩
  · intro h' hk x hx
    obtain ⟨ot, its, nn, h1, h2, h3, h4⟩ := (show IsTupleKey (mixKind X.prog X.w) s.heap x.1 x.2.1 from key_of I.hok (keys x hx))
    exact ⟨ot, its, nn, hk _ _ (Nat.ne_of_lt (Heap.lt_size h1)) (fun z => nomatch z) h1, h2, h3, h4⟩
  · have := sizeLine_eq
    rw [List.length_map]
    omega
  · have nx : (xs.map (·.1)).Nodup := by rw [k1]; exact nd
    rw [storedAllH_nil_of_nodup xs nx] at hd'
    have k' : ∀ b ob, s.heap.get? b = some ob → h'.get? b = some ob := fun b ob e => k b ob (fun z => nomatch z) e
    have hf : H s.heap.objs.size = none := I.hok.fresh (Nat.le_refl _)
    have new : ∀ H2 : Hp, (∀ b ys, H b = some (.tup ys) → H2 b = some (.tup ys)) → ObjOk X.prog X.w H2 h' s.heap.objs.size (.dT kvs) := fun H2 kk => by
      obtain ⟨o, es, ep, h1, h2, h3, h4, _, h5⟩ := hd'
      exact ⟨by have := sizeLine_eq; omega, beq_eq_false_iff_ne.mpr (Ne.symm (Nat.ne_of_lt I.big)), xs, rel.keeps kk, o, es, ep, h1, h2, h3, h4, h5⟩
    exact ⟨.ref s.heap.objs.size, _, I.laid (a := s.heap.objs.size) (o := .dT kvs) (t' := tk) k' (Nat.le_refl _) (new _ fun b ys e => by rw [upd_ne (ne_of_none e hf)]; exact e), rfl, q _ hf⟩
end XX
namespace XD
open PySem PySem.Spec PyProof.Rows L2 XX
section
variable {K : PySem.W.Frag} [Bs K] {ρ : Rho} {M : Mm} {R : RD}
theorem prT_of {G H : Hp} (w : Wd K G M H) : ∀ {kvs : List (List Key × D)} {vs : List V}, RpA K G vs (kvs.map fun kv => D.tup [tD kv.1, kv.2]) → ∃ ps ks, vs = ps.map V.ref ∧ Paired (PrT H) ps ks ∧ RpT K G ks kvs
  | [], vs, r => by
    cases r
    exact ⟨[], [], rfl, .nil, .nil⟩
  | kv :: kvs, vs, r => by
    cases r with
    | cons h r =>
      obtain ⟨ps, ks, rfl, h2, h3⟩ := prT_of w r
      cases h with
      | @tup p ys _ hg ry =>
        cases ry with
        | cons h4 r5 =>
          cases r5 with
          | cons h5 r6 =>
            cases r6
            obtain ⟨q, rfl, hq⟩ := rp_tD h4
            refine ⟨p :: ps, (kv.1, _) :: ks, rfl, .cons ⟨q, w.tup hg, w.tup hq⟩ h2, .cons h5 h3⟩
theorem xc_dictPT {kvs : List (List Key × D)} (nd : (kvs.map (·.1)).Nodup) (hl : kvs.length ≤ 16000000) (r : ∀ a, (∀ od, (a, MO.lck od) ∉ M) → R (.dt a kvs) M) : Xc K cDictPT [.lst (kvs.map fun kv => D.tup [tD kv.1, kv.2])] M R := by
  intro vs G H Q rs w k
  cases rs with
  | cons h1 t =>
    cases t
    cases h1 with
    | @lst a xs _ hg ra =>
      obtain ⟨ps, ks, rfl, h2, h3⟩ := prT_of w ra
      refine ⟨a, ps, ks, rfl, .inl (w.lst hg), h2, by rw [h3.keys]; exact nd, by rw [h3.length]; exact hl, fun p hp => ?_⟩
      have e := Ex.new (o := .dT ks) (w.gfree hp)
      exact k _ _ _ M _ e (.dt upd_same (h3.up e)) (w.new hp) (r p fun od z => w.nin hp (List.mem_map_of_mem (f := (·.1)) z))
end
end XD

/-! XE53: an own == with a value of a built-in type on the right; isinstance of such a value and an own class. -/
namespace XD
open PySem PySem.Spec PyProof.Rows L2 XX
theorem k_eqT {X : Cx} {k : Nat} (hr : Room k X.A) : OpR X (compareOp .Eq) (rDictT false) := op_eqT (hu3_of hr)
theorem k_neT {X : Cx} {k : Nat} (hr : Room k X.A) : OpR X (compareOp .NotEq) (rDictT true) := op_neT (hu3_of hr)
theorem c_dictPU {X : Cx} {k : Nat} (hr : Room k X.A) (hc : X.calm = true := by rfl) : CallR X (.type "dict") cDictPT := c_dictPT hc (hu3_of hr)
def rOwnAny (K : PySem.W.Frag) (C : Addr) (sp : Sp) (E : XK) : R2 := fun x y H Q => ∃ a dx xs t, x = .ref a ∧ H a = some (.ins C dx xs) ∧ TyX K H y t ∧ PySem.W.notFirst K C t = true ∧ sp [x, y] H Q E
theorem op_ownAny {X : Cx} {CX : CXT} {n : Nat} {C g : Addr} {sp : Sp} {E : XK} {op : CmpOp} (hop : ∀ a b, compareOp op a b = richCompare op a b) (hs : PySem.W.findIn X.K (.ref C) (cmpInfo op).2.1 = some (some (.ref g))) (hf : PySem.W.isFn X.K (.ref g) = true)
    (F : FnR X.prog X.w X.K X.mg X.base CX n g sp) (hr : Room n X.A) (hx : Passes CX X E) : OpR X (compareOp op) (rOwnAny X.K C sp E) := by
  intro pins s σ H x y v u Q I rx ry h
  obtain ⟨a, dx, xs, t, rfl, ha, hy, hn, q⟩ := h
  cases (show v = Value.ref a from rx)
  obtain ⟨od, J⟩ := ins_at I ha
  obtain ⟨m, hF⟩ := I.fr
  obtain ⟨P, Z, hp, _⟩ := kit_of I ry hy
  rw [hop]
  refine PySem.W.cmp_K (op := op) (tb := t) hr.units0 hF I.ok.mod.kin J (Z.ty _ _ I.kIn hp) hn hs hf ?_
  refine wpAny_mono (wpAny_call (run_fnR (us := [.ref a, u]) (vs := [.ref a, y]) F hr hx I (.cons rfl (.cons ry .nil)) q)) (fun w s' z => ?_) fun _ _ x => x
  obtain ⟨z', H', I', rz, qz⟩ := z
  exact SlX.cmpback rz ⟨z', H', I', rz, qz⟩
theorem k_eqAny {X : Cx} {K : PySem.W.Frag} [Bs K] {mg : Str → Option Value} {k : Nat} {x : Str} {ps : List Str} {S : DS} (G : GMt X.prog X.w K mg X.base k x "__eq__" ps S) (hr : Room k X.A) (h : X.K = K := by rfl) (hmg : X.mg = mg := by rfl) : OpR X (compareOp .Eq) (rOwnAny K (clsA mg x) (spOf K S) E0) := by
  subst h
  subst hmg
  obtain ⟨f, h1, h2, h3⟩ := G.fnR
  exact op_ownAny (fun _ _ => rfl) h2 h3 h1 hr pass0
/-- what the top tells of a class and a built-in type -/
structure NB (K : PySem.W.Frag) (mg : Str → Option Value) (x : Str) (t : String) : Prop where
  nf : PySem.W.notFirst K (clsA mg x) (.type t) = true
  ki : PySem.W.kitOne K (.type t) (.ref (clsA mg x)) = some false
theorem NB.mk' {K : PySem.W.Frag} [Bs K] {mg : Str → Option Value} {h : Heap} (X : K.In h) (G : h.Ns mainGlobals mg) {x : Str} {C : Addr} {t : String} (a : PySem.W.nsIn K mainGlobals x = some (some (.ref C)))
    (n : PySem.W.subIn K (.type t) (.ref C) = some false) (k : PySem.W.kitOne K (.type t) (.ref C) = some false) : NB K mg x t := by
  have e2 := clsA_of (PySem.W.mg_of X G a)
  refine ⟨?_, by rw [e2]; exact k⟩
  rw [e2]
  unfold PySem.W.notFirst
  rw [n]
  simp
section
variable {K : PySem.W.Frag} [Bs K] {M : Mm} {R : RD}
theorem xr_eqAny {mg : Str → Option Value} {c : Str} {S : DS} {X : XK} {x y : D} {t : String} (nb : NB K mg c t) (hx : IsC (clsA mg c) x M) (hy : tyN y = some t) (h : S [x, y] M R) : Xr K (rOwnAny K (clsA mg c) (spOf K S) X) x y M R := by
  intro vx vy G H Q r1 r2 w k
  obtain ⟨a, dx, xs, rfl, h1⟩ := hx.at r1 w
  exact ⟨a, dx, xs, _, rfl, h1, r2.tyX w hy, nb.nf, G, M, [x, y], R, .cons r1 (.cons r2 .nil), w.toWd0, h, sp_back w.bs k (Ex.refl G)⟩
theorem xc_isiB {mg : Str → Option Value} {c : Str} {x : D} {t : String} (nb : NB K mg c t) (hx : tyN x = some t) (r : R (.bl false) M) : Xc K (rIsi K) [x, .ref (clsA mg c)] M R := by
  intro vs G H Q rs w k
  cases rs with
  | cons r1 rs =>
    cases rs with
    | cons r2 rs =>
      cases rs
      cases r2
      exact ⟨_, .ref (clsA mg c), _, _, false, rfl, .own _, r1.tyX w hx, nb.ki, k _ _ G M H (Ex.refl G) (.bl _) w r⟩
theorem xe_disp3T {ρ : Rho} {tk1 tv1 tk2 tv2 tk3 tv3 : TE} (h : ∀ p, Xe K tk1 ρ ((p, .dt []) :: M) fun y1 M1 => Xe K tv1 ρ M1 fun z1 M2 => Xe K tk2 ρ M2 fun y2 M3 => Xe K tv2 ρ M3 fun z2 M4 => Xe K tk3 ρ M4 fun y3 M5 => Xe K tv3 ρ M5 fun z3 M6 =>
    ∃ k1 k2 k3 M7, y1 = tD k1 ∧ y2 = tD k2 ∧ y3 = tD k3 ∧ k1 ≠ k2 ∧ k1 ≠ k3 ∧ k2 ≠ k3 ∧ Has M6 p (.dt []) ∧ Put M6 p (.dt [(k1, z1), (k2, z2), (k3, z3)]) M7 ∧ R (.ref p) M7) : Xe K (tDispT [(tk1, tv1), (tk2, tv2), (tk3, tv3)]) ρ M R := by
  intro σ G H Q s w k p hp
  have w0 : Wd K G ((p, .dt []) :: M) (upd H p (.dT [])) := w.newM hp ⟨w.gfree hp, [], upd_same, .nil⟩
  refine h p σ G _ _ s w0 fun u1 y1 G1 M1 H1 e1 r1 w1 q => ?_
  refine q σ G1 H1 _ (s.up e1) w1 fun v1 z1 G2 M2 H2 e2 r2 w2 q => ?_
  refine q σ G2 H2 _ (s.up (e1.trans e2)) w2 fun u2 y2 G3 M3 H3 e3 r3 w3 q => ?_
  refine q σ G3 H3 _ (s.up ((e1.trans e2).trans e3)) w3 fun v2 z2 G4 M4 H4 e4 r4 w4 q => ?_
  refine q σ G4 H4 _ (s.up (((e1.trans e2).trans e3).trans e4)) w4 fun u3 y3 G5 M5 H5 e5 r5 w5 q => ?_
  refine q σ G5 H5 _ (s.up ((((e1.trans e2).trans e3).trans e4).trans e5)) w5 fun v3 z3 G6 M6 H6 e6 r6 w6 q => ?_
  obtain ⟨k1, k2, k3, M7, rfl, rfl, rfl, n12, n13, n23, hm, hput, q⟩ := q
  obtain ⟨b1, rfl, hb1⟩ := rp_tD r1
  obtain ⟨b2, rfl, hb2⟩ := rp_tD r3
  obtain ⟨b3, rfl, hb3⟩ := rp_tD r5
  obtain ⟨g0, xs, h1, rk⟩ := w6.get hm
  cases rk
  have em : mergeT [] [(k1, b1, v1), (k2, b2, v2), (k3, b3, v3)] = [(k1, v1), (k2, v2), (k3, v3)] := by
    unfold mergeT
    simp [putK, n12, n13, n23]
  refine ⟨h1, [(k1, b1, v1), (k2, b2, v2), (k3, b3, v3)], rfl, fun x hx => ?_, Nat.le_of_ble_eq_true rfl, ?_⟩
  · simp only [List.mem_cons, List.not_mem_nil, or_false] at hx
    rcases hx with rfl | rfl | rfl
    · exact w6.tup (e6 _ _ (e5 _ _ (e4 _ _ (e3 _ _ (e2 _ _ hb1)))))
    · exact w6.tup (e6 _ _ (e5 _ _ (e4 _ _ hb2)))
    · exact w6.tup (e6 _ _ hb3)
  · rw [em]
    exact k (.ref p) (.ref p) G6 M7 _ (((((e1.trans e2).trans e3).trans e4).trans e5).trans e6) (.ref p) (w6.put hput g0 ⟨g0, [(k1, v1), (k2, v2), (k3, v3)], upd_same, .cons (((r2.up e3).up e4 |>.up e5).up e6) (.cons ((r4.up e5).up e6) (.cons r6 .nil))⟩) q
end
end XD

/-! XE54: max(ints, default=..); tuple * int for every number that is not negative. -/
namespace XX
open PySem PySem.Spec PyProof.Rows L2 DT PyProof.V PySem.W
def maxI (d : Int) : List Int → Int
  | [] => d
  | n :: r => r.foldl max n
variable {X : Cx}
def rMaxDef (K : PySem.W.Frag) : List V → List V → Hp → VK → Prop := fun xs zs H Q => ∃ a ns d, xs = [.ref a] ∧ zs = [.int d] ∧ SqL K H a (ns.map V.int) ∧ Q (.int (maxI d ns)) H
theorem reads_ints {h : Heap} : ∀ {ns : List Int} {us : List Value}, Vals (ns.map V.int) us → ReadsAll h us (ns.map PyData.int) []
  | [], us, r => by
    cases r
    exact .nil
  | n :: ns, us, r => by
    cases r with
    | cons h1 t =>
      obtain ⟨tk, rfl⟩ := h1
      exact .cons (as := []) (.int n tk) (reads_ints t)
theorem alike_ints (ns : List Int) : AlikeAll (ns.map PyData.int) := by
  refine ⟨fun x hx y hy => ?_, fun x hx => ?_⟩
  · obtain ⟨a, _, rfl⟩ := List.mem_map.mp hx
    obtain ⟨b, _, rfl⟩ := List.mem_map.mp hy
    rfl
  · obtain ⟨a, _, rfl⟩ := List.mem_map.mp hx
    intro z
    cases z
theorem depth_ints : ∀ ns : List Int, PyData.depthAll (ns.map PyData.int) ≤ 1
  | [] => by simp [PyData.depthAll]
  | n :: ns => by
    have := depth_ints ns
    simp only [List.map_cons, PyData.depthAll, PyData.depth]
    omega
theorem cr_maxDef {k : Nat} (hc : X.calm = true) (hr : Room k X.A) : CallRK X (.builtin "max") [Str.ofString "default"] (rMaxDef X.K) := by
  intro pins s σ H xs zs us ws Q I r rz h
  obtain ⟨a, ns, d, rfl, rfl, hq, q⟩ := h
  obtain rfl := Vals.ref1 r
  obtain ⟨w1, rfl, td, rfl⟩ := vals1 rz
  obtain ⟨its, rv, pl, hz⟩ := I.list hq
  have hu := hr.un
  have hdp := depth_ints ns
  show wpAny _ _ (call (.builtin "max") [.ref a] [(Str.ofString "default", Value.int d td)]) _ _ _
  refine max_list_default (as := []) (I.ok.hd hc) pl.isList (by simpa using reads_ints rv) (alike_ints ns) (by omega) (fun h0 h' tk hk => ?_) (fun y ys i v h' tk bs e hv hrd hk => ?_)
  · have e0 : ns = [] := by simpa using h0
    subst e0
    exact ⟨.int d, H, I.kept (t' := tk) hk, ⟨td, rfl⟩, q⟩
  · cases ns with
    | nil => cases e
    | cons n r =>
      rw [List.map_cons] at e
      injection e with e1 e2
      subst e1
      subst e2
      rw [maxD_ints] at hrd
      obtain ⟨t, rfl, _⟩ := reads_int_inv hrd
      exact ⟨.int (r.foldl max n), H, I.kept (t' := tk) hk, ⟨t, rfl⟩, q⟩
end XX
namespace XX
open PySem PySem.Spec PyProof.Rows L2
theorem tuple_mul_same (l : Addr) (items : Array Value) (n : Nat) (dd : Option Addr) (sl : Array (Option Value)) (x : Int) (u : Tok) (c0 : (decide (x < -(2 ^ 63)) || decide (x ≥ 2 ^ 63)) = false) (c1 : (items.isEmpty || x == 1) = true) :
    Meets (Builtin.«tuple.__mul__» ⟨[.ref l, .int x u], []⟩) (fun _ R s => s.heap.get? l = some { cls := .type "tuple", dict := dd, data := .seq items n, slots := sl } ∧ R (.ok (.ret (Value.ref l))) s) :=
  .of_wp fun prog w A R s h => by
    obtain ⟨hp, g, d, tk, os⟩ := s
    obtain ⟨hl, h⟩ := h
    have f1 := AutoSeq1.idx_int
    wp_walk using AutoSeq1.wpAny_loadPart' hl
    refine wpAny_ite_false (decide_eq_false (by rw [c0]; exact Bool.false_ne_true)) ?_
    wp_walk using AutoSeq1.wpAny_loadPart' hl
    exact ⟨_, rfl, h⟩
theorem tuple_mul_none (l : Addr) (items : Array Value) (n : Nat) (dd : Option Addr) (sl : Array (Option Value)) (x : Int) (u : Tok) (c0 : (decide (x < -(2 ^ 63)) || decide (x ≥ 2 ^ 63)) = false) (c1 : (items.isEmpty || x == 1) = false) (c2 : (decide (x ≤ 0) || items.isEmpty) = true) :
    Meets (Builtin.«tuple.__mul__» ⟨[.ref l, .int x u], []⟩) (fun _ R s => s.heap.get? l = some { cls := .type "tuple", dict := dd, data := .seq items n, slots := sl } ∧
      R (.ok (.ret (Value.ref s.heap.objs.size))) { s with heap := s.heap.push { cls := Value.type "tuple", data := Data.seq #[] }, toks := s.toks }) :=
  .of_wp fun prog w A R s h => by
    obtain ⟨hp, g, d, tk, os⟩ := s
    obtain ⟨hl, h⟩ := h
    have f1 := AutoSeq1.idx_int
    wp_walk using AutoSeq1.wpAny_loadPart' hl
    refine wpAny_ite_false (decide_eq_false (by rw [c0]; exact Bool.false_ne_true)) ?_
    wp_walk using AutoSeq1.wpAny_loadPart' hl
    exact ⟨_, rfl, h⟩
variable {X : Cx}
def rRepG (K : PySem.W.Frag) : R2 := fun x y H Q => ∃ l k xs, x = .ref l ∧ y = .int k ∧ SqT K H l xs ∧ 0 ≤ k ∧ k ≤ 1000 ∧ xs.length ≤ 1000 ∧ (∀ p, H p = none → Q (.ref p) (upd H p (.tup (List.replicate k.toNat xs).flatten))) ∧ ((List.replicate k.toNat xs).flatten = xs → Q (.ref l) H)
theorem op_repG : OpR X (binaryOp .Mult) (rRepG X.K) := by
  intro pins s σ H x y v u Q I rx ry h
  obtain ⟨l, k, xs, rfl, rfl, hT, h1, h2, hz, q, q2⟩ := h
  by_cases h2k : 2 ≤ k ∧ xs ≠ []
  · exact op_repT pins s σ H _ _ v u Q I rx ry ⟨l, k, xs, rfl, rfl, hT, h2k.2, h2k.1, h2, hz, q⟩
  cases rx
  obtain ⟨t, rfl⟩ := ry
  obtain ⟨its, r, ⟨⟨cls, dd, data, sl⟩, ho, hc, n, hd⟩, hs⟩ := I.tuple hT
  simp only at hc hd
  subst hc hd
  have hle : its.length = xs.length := r.length.symm
  have c0 : (decide (k < -(2 ^ 63)) || decide (k ≥ 2 ^ 63)) = false := by
    rw [decide_eq_false (by omega), decide_eq_false (by omega)] <;> rfl
  have via : ∀ {Q2 : Value → Shared → Prop} {E : Value → Shared → Prop}, wpAny (model X.prog X.w) X.A (binaryOp .Mult (.ref l) (.int k t)) Q2 E s = wpAny (model X.prog X.w) X.A (binaryOp .Mult (.ref l) (.int k t)) Q2 E s := rfl
  have emp : xs = [] → its.toArray.isEmpty = true := fun e => by
    subst e
    have : its = [] := List.eq_nil_of_length_eq_zero hle
    subst this
    rfl
  by_cases c1 : (its.toArray.isEmpty || k == 1) = true
  · refine wpAny_binaryOp_repeat_ref (T := "tuple") (U := "int") (by decide) ⟨_, ho, rfl⟩ (fun s' => typeIs_int s' k t) noFill_tuple_mul F.fills_int_mul F.slot_int_rmul repeat_tuple F.slot_int_index.lookup
      (call_meets F.slot_int_rmul (typeIs_int s k t) F.entry_int_rmul (F.args_int_rmul_2 _ _) (int_rmul_tuple k t l its.toArray n dd sl)
        ⟨ho, rfl, ⟨_, ho, rfl⟩, call_meets F.slot_tuple_mul ⟨_, ho, rfl⟩ F.entry_tuple_mul (F.args_tuple_mul_2 _ _) (tuple_mul_same l its.toArray n dd sl k t c0 c1) ⟨ho, ?_⟩⟩)
    refine ⟨.ref l, H, I, rfl, q2 ?_⟩
    rcases Bool.or_eq_true_iff.mp c1 with e | e
    · have : its = [] := by
        cases its with
        | nil => rfl
        | cons a b => cases e
      have hx : xs = [] := List.eq_nil_of_length_eq_zero (by rw [← hle, this]; rfl)
      subst hx
      generalize k.toNat = z
      induction z with
      | zero => rfl
      | succ z ih => rw [List.replicate_succ, List.flatten_cons, ih]; rfl
    · rw [beq_iff_eq.mp e]
      show (List.replicate 1 xs).flatten = xs
      simp
  · have c1 : (its.toArray.isEmpty || k == 1) = false := by simpa using c1
    have hne : xs ≠ [] := fun e => by
      rw [emp e] at c1
      cases c1
    have k1 : k ≠ 1 := fun e => by
      rw [e] at c1
      simp at c1
    have k0 : k = 0 := by
      by_cases z : 2 ≤ k
      · exact absurd ⟨z, hne⟩ h2k
      · omega
    subst k0
    refine wpAny_binaryOp_repeat_ref (T := "tuple") (U := "int") (by decide) ⟨_, ho, rfl⟩ (fun s' => typeIs_int s' 0 t) noFill_tuple_mul F.fills_int_mul F.slot_int_rmul repeat_tuple F.slot_int_index.lookup
      (call_meets F.slot_int_rmul (typeIs_int s 0 t) F.entry_int_rmul (F.args_int_rmul_2 _ _) (int_rmul_tuple 0 t l its.toArray n dd sl)
        ⟨ho, rfl, ⟨_, ho, rfl⟩, call_meets F.slot_tuple_mul ⟨_, ho, rfl⟩ F.entry_tuple_mul (F.args_tuple_mul_2 _ _) (tuple_mul_none l its.toArray n dd sl 0 t c0 c1 rfl) ⟨ho, ?_⟩⟩)
    refine ⟨.ref s.heap.objs.size, _, I.laid (t' := s.toks) (o := .tup []) (fun b ob q => Heap.get?_push_of_some _ q) (Nat.le_refl _) ?_, rfl, q _ (I.hok.fresh (Nat.le_refl _))⟩
    exact ⟨Nat.zero_le _, [], .nil, IsTup.new _ _⟩
theorem k_repG (K : PySem.W.Frag) (h : X.K = K := by rfl) : OpR X (binaryOp .Mult) (rRepG K) := h ▸ op_repG
end XX
namespace XD
open PySem PySem.Spec PyProof.Rows L2 XX
section
variable {K : PySem.W.Frag} [Bs K] {ρ : Rho} {M : Mm} {R : RD}
theorem xr_repG {ds : List D} {k : Int} (h1 : 0 ≤ k) (h2 : k ≤ 1000) (h : ds.length ≤ 1000) (r : R (.tup (List.replicate k.toNat ds).flatten) M) : Xr K (rRepG K) (.tup ds) (.int k) M R := by
  intro vx vy G H Q rx ry w kk
  cases ry
  cases rx with
  | @tup a xs _ hx ra =>
    have hl := ra.length
    have rr : RpA K G (List.replicate k.toNat xs).flatten (List.replicate k.toNat ds).flatten := by
      generalize k.toNat = n
      induction n with
      | zero => exact .nil
      | succ n ih =>
        rw [List.replicate_succ, List.replicate_succ, List.flatten_cons, List.flatten_cons]
        exact ra.append ih
    refine ⟨a, k, xs, rfl, rfl, .inl (.inl (w.tup hx)), h1, h2, by rw [hl]; exact h, fun p hp => ?_, fun e => ?_⟩
    · have e := Ex.new (o := .tup (List.replicate k.toNat xs).flatten) (w.gfree hp)
      exact kk _ _ _ M _ e (.tup upd_same (rr.up e)) (w.new hp) r
    · rw [e] at rr
      exact kk _ _ G M H (Ex.refl G) (.tup hx rr) w r
/-- max(x, default=d) of a list of ints -/
theorem xe_maxDef {te td : TE} (h : Xe K te ρ M fun x M1 => Xe K td ρ M1 fun y M2 => ∃ ns d, x = .lst (ns.map D.int) ∧ y = .int d ∧ R (.int (maxI d ns)) M2) : Xe K (tCKw (rMaxDef K) (tCons te tNil) (tCons td tNil)) ρ M R := by
  intro σ G H Q s w k
  refine h σ G H _ s w fun v x G1 M1 H1 e1 r1 w1 q => ?_
  refine q σ G1 H1 _ (s.up e1) w1 fun v2 y G2 M2 H2 e2 r2 w2 q => ?_
  obtain ⟨ns, d, rfl, rfl, q⟩ := q
  cases r2
  cases r1 with
  | @lst a xs _ hx ra =>
    have hxs := rpA_intsI ra
    subst hxs
    exact ⟨a, ns, d, rfl, rfl, .inl (.inl (w2.lst (e2 _ _ hx))), k _ _ G2 M2 H2 (e1.trans e2) (.int _) w2 q⟩
end
theorem pe_maxDef {X : Cx} {K : PySem.W.Frag} {mg : Str → Option Value} {k : Nat} {e : Expr} {te td : TE} {ed : Expr} {p p1 pos : Pos} (hr : Room k X.A) (he : PE X e te) (hd : PE X ed td) (hb : mg "max" = none) (hc : X.calm = true := by rfl) (h : X.K = K := by rfl) (hmg : X.mg = mg := by rfl)
    (hg : Gl X "max" := by rfl) (hse : starEach [e] X.env = (false, eval e X.env) :: starEach [] X.env := by rfl) (hst : backTo pos (starEach [e] X.env) = (false, eval e X.env) :: backTo pos (starEach [] X.env) := by rfl) (hpl : (backTo pos (starEach [e] X.env)).any (·.1) = false := by rfl) :
    PE X (.Call (.Name "max" p) [e] [⟨some "default", ed, p1⟩] pos) (tCKw (rMaxDef K) (tCons te tNil) (tCons td tNil)) := by
  subst h
  subst hmg
  exact pe_callBK (cr_maxDef hc hr) hg hb (by decide +kernel) (pa_cons he pa_nil hse) (pk_cons hd pk_nil) (by decide) (by decide) hst hpl
end XD

/-! XE55: an expression's value called by its own __call__; an own __bool__ in a test. -/
namespace XD
open PySem PySem.Spec PyProof.Rows L2 XX
def tCallE (C : Addr) (sp : Sp) (E : XK) (te : TE) (t : TA) : TE := fun σ H Q => te σ H fun x H1 => ∃ a, x = .ref a ∧ (∃ dx fs, H1 a = some (.ins C dx fs)) ∧ t σ H1 fun vs H2 => (∃ dx fs, H2 a = some (.ins C dx fs)) ∧ sp (.ref a :: vs) H2 Q E
theorem pe_callE {X : Cx} {CX : CXT} {k : Nat} {C f : Addr} {sp : Sp} {E : XK} {fe e : Expr} {es : List Expr} {pos : Pos} {te : TE} {t : TA} (hs : PySem.W.findIn X.K (.ref C) "__call__" = some (some (.ref f))) (hf : PySem.W.isFn X.K (.ref f) = true) (hfn : PySem.W.fnIn X.K f = true)
    (F : FnR X.prog X.w X.K X.mg X.base CX k f sp) (hr : Room k X.A) (hx : Passes CX X E) (hfe : PE X fe te) (ha : PA X (e :: es) t)
    (hc : ∀ {Q : Value → Shared → Prop} {Er : Value → Shared → Prop} {s : Shared}, wpAny (model X.prog X.w) X.A (eval fe X.env) (fun f s1 => wpAny (model X.prog X.w) X.A (callWith pos f [] (backTo pos (starEach (e :: es) X.env)) []) Q Er s1) Er s → wpAny (model X.prog X.w) X.A (eval (.Call fe (e :: es) [] pos) X.env) Q Er s := by intro _ _ _ h; exact PyProof.Rows.Call_ h)
    (he : starEach (e :: es) X.env = (false, eval e X.env) :: starEach es X.env := by rfl) (hpl : (backTo pos (starEach es X.env)).any (·.1) = false := by rfl) : PE X (.Call fe (e :: es) [] pos) (tCallE C sp E te t) := by
  refine ⟨fun pins s σ H Q I h => ?_⟩
  refine hc (thn (hfe.run pins s σ H _ I h) fun u s1 ⟨v, H1, I1, r1, q1⟩ => ?_)
  obtain ⟨a, rfl, ⟨dx, fs, h0⟩, ht⟩ := q1
  cases (show u = Value.ref a from r1)
  obtain ⟨od, J⟩ := ins_at I1 h0
  refine callWith_inst ?_ ?_
  · rw [he]
    show (false || (backTo pos (starEach es X.env)).any (·.1)) = false
    rw [hpl]
    rfl
  have hb : backTo pos ((false, eval e X.env) :: starEach es X.env) = (false, _) :: backTo pos (starEach es X.env) := rfl
  rw [he, hb]
  have hrun := ha.run pos pins s1 σ _ _ I1 ht
  rw [he, hb] at hrun
  refine PySem.Calls.evalArgs_plain (thn hrun fun us s2 ⟨vs, H2, I2, r, ⟨dx2, fs2, h2⟩, q⟩ => ?_)
  obtain ⟨od2, J2⟩ := ins_at I2 h2
  refine ⟨⟨C, _, _, J2, rfl⟩, ?_⟩
  exact wpAny_call (PySem.W.kco_code I2.kIn J2 rfl hs hf hfn (SlX.run_at (us := .ref a :: us) (ws := .ref a :: vs) F hr I2.env0 hx I2 (.cons rfl r) q))
theorem pe_callEX {X : Cx} {K : PySem.W.Frag} {mg : Str → Option Value} {k : Nat} {c : Str} {ps : List Str} {S : DX} {E : XK} {pos : Pos} {fe e : Expr} {es : List Expr} {te : TE} {t : TA} (g : GI K mg c "__call__") (G : GMx X.prog X.w K mg X.base k c "__call__" ps S) (hr : Room k X.A) (hfe : PE X fe te) (ha : PA X (e :: es) t)
    (hx : Passes (L2.CX X.prog X.w) X E := by exact passes_call (takes_of rfl rfl rfl rfl) fun _ _ _ _ h => h) (h : X.K = K := by rfl) (hmg : X.mg = mg := by rfl)
    (hc : ∀ {Q : Value → Shared → Prop} {Er : Value → Shared → Prop} {s : Shared}, wpAny (model X.prog X.w) X.A (eval fe X.env) (fun f s1 => wpAny (model X.prog X.w) X.A (callWith pos f [] (backTo pos (starEach (e :: es) X.env)) []) Q Er s1) Er s → wpAny (model X.prog X.w) X.A (eval (.Call fe (e :: es) [] pos) X.env) Q Er s := by intro _ _ _ h; exact PyProof.Rows.Call_ h)
    (he : starEach (e :: es) X.env = (false, eval e X.env) :: starEach es X.env := by rfl) (hpl : (backTo pos (starEach es X.env)).any (·.1) = false := by rfl) : PE X (.Call fe (e :: es) [] pos) (tCallE (clsA mg c) (spX K S) E te t) := by
  subst h
  subst hmg
  obtain ⟨f, h1, h2, h3⟩ := G.fnR
  obtain ⟨f2, e1, e2⟩ := g.ex
  have e3 : f2 = f := by
    rw [h2] at e1
    cases e1
    rfl
  subst e3
  exact pe_callE h2 h3 e2 h1 hr hx hfe ha hc he hpl
/-- the truth of an instance -/
def rTruO (C : Addr) (sp : Sp) : V → Hp → (Bool → Hp → Prop) → Prop := fun x H Q => ∃ a dx fs, x = .ref a ∧ H a = some (.ins C dx fs) ∧ sp [.ref a] H (fun v H' => ∃ b, v = .bl b ∧ Q b H') L2.E0
theorem tru_own {X : Cx} {K : PySem.W.Frag} {mg : Str → Option Value} {k : Nat} {x : Str} {ps : List Str} {S : DS} (G : GMt X.prog X.w K mg X.base k x "__bool__" ps S) (hr : Room (k + 1) X.A) (h : X.K = K := by rfl) (hmg : X.mg = mg := by rfl) : TruR X (rTruO (clsA mg x) (spOf K S)) := by
  subst h
  subst hmg
  obtain ⟨f, h1, h2, h3⟩ := G.fnR
  intro pins s σ H x v Q I rx h
  obtain ⟨a, dx, fs, rfl, ha, h⟩ := h
  cases (show v = Value.ref a from rx)
  obtain ⟨od, J⟩ := ins_at I ha
  obtain ⟨m, hF⟩ := I.fr
  refine PySem.W.truthy_K hF I.ok.mod.kin J h2 h3 (wpAny_mono (wpAny_call (SlX.run_at (us := [.ref a]) (ws := [.ref a]) h1 (hr.mono (Nat.le_succ k)) I.env0 pass0 I (.cons rfl .nil) h)) (fun v s' z => ?_) fun _ _ z => z)
  obtain ⟨v', H', I', rv, b, rfl, hq⟩ := z
  cases (show v = Value.bool b from rv)
  exact ⟨H', I', hq⟩
def tTruO (C : Addr) (sp : Sp) (ta : TE) : TT := fun σ H Q => ta σ H fun x H' => rTruO C sp x H' Q
theorem pt_truO {X : Cx} {K : PySem.W.Frag} {mg : Str → Option Value} {k : Nat} {x : Str} {ps : List Str} {S : DS} {a : Expr} {ta : TE} (G : GMt X.prog X.w K mg X.base k x "__bool__" ps S) (hr : Room (k + 1) X.A) (ha : PE X a ta) (h : X.K = K := by rfl) (hmg : X.mg = mg := by rfl)
    (he : ∀ whole, isTrue a X.env whole = (do let v ← whole; standAt a.pos; holding [v] (truthy v)) := by intro _; rfl) : PT X a (tTruO (clsA mg x) (spOf K S) ta) := pt_truthR ha (tru_own G hr h hmg) he
/-- + of lists whose sum will change -/
def rAddM (K : PySem.W.Frag) : R2 := rAddU K
theorem k_addM {X : Cx} (K : PySem.W.Frag) (h : X.K = K := by rfl) : OpR X (binaryOp .Add) (rAddM K) := k_addU K h
section
variable {K : PySem.W.Frag} [Bs K] {ρ : Rho} {M M' : Mm} {R : RD} {Z : RX} {E : XK}
theorem xr_addM {ds es : List D} (h : ds.length + es.length ≤ 16000000) (r : ∀ p, R (.ref p) ((p, .lst (ds ++ es)) :: M)) : Xr K (rAddM K) (.lst ds) (.lst es) M R := xr_addLM h r
theorem xe_callE {C : Addr} {S : DX} {te : TE} {t : TA} (hE : EKo K E Z) (h : Xe K te ρ M fun x M0 => IsC C x M0 ∧ Xa K t ρ M0 fun ds M1 => IsC C x M1 ∧ S (x :: ds) M1 R Z) : Xe K (tCallE C (spX K S) E te t) ρ M R := by
  intro σ G H Q s w k
  refine h σ G H _ s w fun v x G0 M0 H0 e0 ru w0 q => ?_
  obtain ⟨hx, q⟩ := q
  obtain ⟨a, dx, xs, rfl, h1⟩ := hx.at ru w0
  refine ⟨a, rfl, ⟨dx, xs, h1⟩, ?_⟩
  refine q σ G0 H0 _ (s.up e0) w0 fun vs ds G1 M1 H1 e1 rs w1 q => ?_
  obtain ⟨hx1, q⟩ := q
  obtain ⟨a2, dx2, xs2, e2, h2⟩ := hx1.at (ru.up e1) w1
  cases e2
  exact ⟨⟨dx2, xs2, h2⟩, G1, M1, _, R, Z, .cons (ru.up e1) rs, w1.toWd0, q, sp_back w1.bs k (e0.trans e1), sp_xback (G := G) w1.bs hE⟩
theorem xt_truO {C : Addr} {S : DS} {ta : TE} {RB : Bool → Mm → Prop} (h : Xe K ta ρ M fun x M1 => IsC C x M1 ∧ S [x] M1 fun d M2 => ∃ b, d = .bl b ∧ RB b M2) : Xt K (tTruO C (spOf K S) ta) ρ M RB := by
  intro σ G H Q s w k
  refine h σ G H _ s w fun v x G0 M0 H0 e0 ru w0 q => ?_
  obtain ⟨hx, q⟩ := q
  obtain ⟨a, dx, xs, rfl, h1⟩ := hx.at ru w0
  refine ⟨a, dx, xs, rfl, h1, G0, M0, [x], _, .cons ru .nil, w0.toWd0, q, ?_⟩
  intro v d G' M' H' e rv w' hq
  obtain ⟨b, rfl, hq⟩ := hq
  cases rv
  exact ⟨b, rfl, k b G' M' H' (e0.trans e) ⟨w', w0.bs.trans e⟩ hq⟩
theorem xc_sumT {ns : List Int} (r : R (.int ns.sum) M) : Xc K (rSumT K) [tI ns] M R := by
  intro vs G H Q rs w k
  cases rs with
  | cons h1 t =>
    cases t
    cases h1 with
    | @tup a xs _ hx ra =>
      have hxs := rpA_intsI ra
      subst hxs
      exact ⟨a, ns, rfl, .inl (.inl (w.tup hx)), k _ _ G M H (Ex.refl G) (.int _) w r⟩
end
end XD

/-! XE56: lists that change: isinstance, zip with a list that stays, enumerate, clear; an own __repr__. -/
namespace XD
open PySem PySem.Spec PyProof.Rows L2 XX
def cReprC (C : Addr) (sp : Sp) : List V → Hp → VK → Prop := fun xs H Q => ∃ a dx fs, xs = [V.ref a] ∧ H a = some (.ins C dx fs) ∧ sp [.ref a] H (fun v H' => ∃ z, v = .str z ∧ Q (.str z) H') L2.E0
theorem c_reprC {X : Cx} {K : PySem.W.Frag} {mg : Str → Option Value} {k : Nat} {x : Str} {ps : List Str} {S : DS} (G : GMt X.prog X.w K mg X.base k x "__repr__" ps S) (hr : Room (k + 1) X.A) (h : X.K = K := by rfl) (hmg : X.mg = mg := by rfl) : CallR X (.builtin "repr") (cReprC (clsA mg x) (spOf K S)) := by
  subst h
  subst hmg
  obtain ⟨f, h1, h2, h3⟩ := G.fnR
  intro pins s σ H xs us Q I r h
  obtain ⟨a, dx, fs, rfl, ha, h⟩ := h
  cases r with
  | cons r1 r2 =>
    cases r2
    cases r1
    obtain ⟨od, J⟩ := ins_at I ha
    obtain ⟨m, hF⟩ := I.fr
    refine PySem.W.repr_K hr.in1.units0 hF I.ok.mod.kin J h2 h3 (wpAny_mono (wpAny_call (SlX.run_at (us := [.ref a]) (ws := [.ref a]) h1 hr.in1 I.env0.in1 pass0 I (.cons rfl .nil) h)) (fun v s' z => ?_) fun _ _ z => z)
    obtain ⟨v', H', I', rv, b, rfl, hq⟩ := z
    obtain ⟨t, rfl⟩ := rv
    exact ⟨.str b, H', I', ⟨t, rfl⟩, hq⟩
section
variable {K : PySem.W.Frag} [Bs K] {ρ : Rho} {M M' : Mm} {R : RD}
theorem xc_reprC {C : Addr} {S : DS} {x : D} (hx : IsC C x M) (h : S [x] M fun d M' => ∃ z, d = .str z ∧ R (.str z) M') : Xc K (cReprC C (spOf K S)) [x] M R := by
  intro vs G H Q r w k
  cases r with
  | cons r1 r2 =>
    cases r2
    obtain ⟨a, dx, xs, rfl, h1⟩ := hx.at r1 w
    refine ⟨a, dx, xs, rfl, h1, G, M, [x], _, .cons r1 .nil, w.toWd0, h, ?_⟩
    intro v d G' M' H' e rv w' hq
    obtain ⟨b, rfl, hq⟩ := hq
    cases rv
    exact ⟨b, rfl, k (.str b) (.str b) G' M' H' e (.str b) ⟨w', w.bs.trans e⟩ hq⟩
theorem xc_isiM {a : Addr} {ds : List D} {m : String} {b : Bool} (hm : Has M a (.lst ds)) (hk : kitB "list" m = some b) (r : R (.bl b) M) : Xc K (rIsi K) [.ref a, .ty m] M R := by
  intro vs G H Q rs w k
  cases rs with
  | cons h1 t =>
    cases t with
    | cons h2 t =>
      cases t
      cases h2
      cases h1
      obtain ⟨_, xs, h3, h4⟩ := w.get hm
      exact ⟨_, _, _, _, b, rfl, .ty m, .base (.lst h3), kit_ty hk, k _ _ G M H (Ex.refl G) (.bl b) w r⟩
theorem xm_clear {a : Addr} {ds : List D} (hm : Has M a (.lst ds)) (hp : Put M a (.lst []) M') (r : R .non M') : Xm K rClear (.ref a) [] M R := by
  intro vx vs G H Q rx rs w k
  cases rx
  cases rs
  obtain ⟨g0, xs, h2, h3⟩ := w.get hm
  exact ⟨a, xs, rfl, rfl, h2, k .non .non G M' _ (Ex.refl G) .non (w.put hp g0 ⟨g0, _, upd_same, .nil⟩) r⟩
theorem xi_zipRL {ta : TA} {RI : Nat → (Nat → D → Prop) → (Mm → Prop) → Mm → Prop} (h : Xa K ta ρ M fun ds M1 => ∃ a xs ys, ds = [.ref a, .lst ys] ∧ Has M1 a (.lst xs) ∧ RI (min xs.length ys.length) (fun i x => ∃ a b, xs[i]? = some a ∧ ys[i]? = some b ∧ x = .tup [a, b]) (fun M => Has M a (.lst xs)) M1) : Xi K (RZ.iZipA K ta) ρ M RI := by
  intro σ G H Q s w k
  refine h σ G H _ s w fun vs ds G1 M1 H1 e1 r w1 q => ?_
  obtain ⟨a, xs, ys, rfl, hm, q⟩ := q
  cases r with
  | cons r1 r =>
    cases r with
    | cons r2 r =>
      cases r
      cases r1
      cases r2 with
      | @lst b ws _ hb rb =>
        obtain ⟨_, us, hx, ra⟩ := w1.get hm
        refine ⟨a, b, us, ws, rfl, .inl ⟨.inl (.inl hx), .inl (.inl (w1.lst hb)), ?_⟩⟩
        have hl : min us.length ws.length = min xs.length ys.length := by rw [ra.length, rb.length]
        refine k _ _ _ _ G1 M1 H1 e1 w1 ⟨fun i G M H hi e w hm => ?_, fun G M H e w hm => ?_, fun i G M H x H' hi e w hm y => ?_⟩ q
        · obtain ⟨_, us, hx, ra⟩ := w.get hm
          have h1 : i < us.length := by rw [ra.length]; omega
          have h2 : i < ws.length := by rw [rb.length]; omega
          exact ⟨us, ws, us[i], ws[i], .inl (.inl hx), .inl (.inl (w.lst (e _ _ hb))), by simp [h1], by simp [h2]⟩
        · obtain ⟨_, us, hx, ra⟩ := w.get hm
          refine ⟨us, ws, .inl (.inl hx), .inl (.inl (w.lst (e _ _ hb))), ?_⟩
          rw [ra.length, rb.length]
          omega
        · obtain ⟨T, u, v, rfl, hT, rfl, f1, f2⟩ := y
          obtain ⟨_, us, hx, ra⟩ := w.get hm
          obtain ⟨p, p1, p2⟩ := ra.getV (f1 us (.inl (.inl hx)))
          obtain ⟨q, q1, q2⟩ := rb.getV (f2 ws (.inl (.inl (w.lst (e _ _ hb)))))
          have eN := Ex.new (o := .tup [u, v]) (w.gfree hT)
          exact ⟨_, .tup [p, q], eN, w.new hT, .tup upd_same (.cons (p2.up eN) (.cons (q2.up (e.trans eN)) .nil)), p, q, p1, q1, rfl⟩
theorem xi_enumM {ta : TA} {RI : Nat → (Nat → D → Prop) → (Mm → Prop) → Mm → Prop} (h : Xa K ta ρ M fun ds M1 => ∃ a xs, ds = [.ref a] ∧ Has M1 a (.lst xs) ∧ RI xs.length (fun i x => ∃ a, xs[i]? = some a ∧ x = .tup [.int (i : Nat), a]) (fun M => Has M a (.lst xs)) M1) : Xi K (iEnum K ta) ρ M RI := by
  intro σ G H Q s w k
  refine h σ G H _ s w fun vs ds G1 M1 H1 e1 r w1 q => ?_
  obtain ⟨a, xs, rfl, hm, q⟩ := q
  cases r with
  | cons r1 r =>
    cases r
    cases r1
    obtain ⟨_, us, hx, ra⟩ := w1.get hm
    refine ⟨a, us, rfl, .inl (.inl hx), k _ _ _ _ G1 M1 H1 e1 w1 ⟨fun i G M H hi e w hm => ?_, fun G M H e w hm => ?_, fun i G M H x H' hi e w hm y => ?_⟩ q⟩
    · obtain ⟨_, us, hx, ra⟩ := w.get hm
      have h1 : i < us.length := by rw [ra.length]; omega
      exact ⟨us, us[i], .inl (.inl hx), by simp [h1]⟩
    · obtain ⟨_, us, hx, ra⟩ := w.get hm
      exact ⟨us, .inl (.inl hx), by rw [ra.length]; exact Nat.le_refl _⟩
    · obtain ⟨T, u, rfl, hT, rfl, f1⟩ := y
      obtain ⟨_, us, hx, ra⟩ := w.get hm
      obtain ⟨p, p1, p2⟩ := ra.getV (f1 us (.inl (.inl hx)))
      have eN := Ex.new (o := .tup [.int (i : Nat), u]) (w.gfree hT)
      exact ⟨_, .tup [.int (i : Nat), p], eN, w.new hT, .tup upd_same (.cons (.int _) (.cons (p2.up eN) .nil)), p, p1, rfl⟩
/-- a value that is a list which was made to change: frozen -/
theorem xe_frzVL {te : TE} (h : Xe K te ρ M fun x M1 => ∃ p ds M2, x = .ref p ∧ Cut M1 p (.lst ds) M2 ∧ R (.lst ds) M2) : Xe K te ρ M R := by
  intro σ G H Q s w k
  refine h σ G H _ s w fun v x G1 M1 H1 e1 r1 w1 q => ?_
  obtain ⟨p, ds, M2, rfl, hc, q⟩ := q
  cases r1
  obtain ⟨_, xs, h1, h2⟩ := w1.mo _ hc.mem
  obtain ⟨e, w'⟩ := w1.cut hc rfl h1
  exact k (.ref p) (.lst ds) _ M2 H1 (e1.trans e) (.lst upd_same (h2.up e)) w' q
end
end XD

namespace Ev
open PySem L2 XD XX
local macro_rules | `(tactic| walk_at "has") => `(tactic| with_reducible (first | assumption | exact Put.has (by assumption) | exact Has.head | exact Has.tail Has.head | exact Has.tail (Has.tail Has.head) | exact Has.tail (Has.tail (Has.tail Has.head)) | exact Has.tail (Has.tail (Has.tail (Has.tail Has.head))) | exact Has.tail (by assumption) | exact Has.tail (Has.tail (by assumption)) | exact Has.tail (Has.tail (Has.tail (by assumption))) | exact Has.tail (Has.tail (Has.tail (Has.tail (by assumption))))))
local macro_rules | `(tactic| walk_at "put") => `(tactic| with_reducible (first | exact Put.head | exact Put.tail Put.head | exact Put.tail (Put.tail Put.head) | exact Put.tail (Put.tail (Put.tail Put.head)) | assumption))
local macro_rules | `(tactic| walk_at "cut") => `(tactic| with_reducible (first | exact Cut.head | exact Cut.tail Cut.head | exact Cut.tail (Cut.tail Cut.head) | exact Cut.tail (Cut.tail (Cut.tail Cut.head)) | assumption))
local macro_rules | `(tactic| walk_at "side") => `(tactic| (first | omega | decide | assumption | (simp only [List.length_cons, List.length_nil, app_len, List.length_append, List.length_map, List.length_range, List.length_replicate]; omega) | (simp only [app_len]; exact Nat.le_of_ble_eq_true rfl)))
local macro_rules | `(tactic| walk_at "cx") => `(tactic| (first | exact cmulR (by omega) | exact cmulL (by omega) | exact cpowK (by decide) (by decide) (by decide) | exact cdivK (by omega) (by omega) | exact cdivB (by omega) (by assumption) | (show (0 : Int) < _; omega) | (show (0 : Int) < _; decide)  | assumption))
local macro_rules | `(tactic| walk_at "kt") => `(tactic| (first | (with_unfolding_all exact rfl) | exact decide_eq_true (by omega) | assumption))
local macro_rules | `(tactic| walk_at "kf") => `(tactic| (first | (with_unfolding_all exact rfl) | exact decide_eq_false (by omega) | assumption))
local macro_rules | `(tactic| walk_at "kb") => `(tactic| (first | exact kb1 | exact kb2 | exact kb3 | exact kb4 | exact kb5 | exact kb6 | exact kb7 | exact kb8 | exact kb9 | exact kb10 | exact kb11 | exact kb12 | exact kb13 | exact kb14 | exact kb15 | exact kb16 | exact kb17))
local macro_rules | `(tactic| walk_at "kl") => `(tactic| (first | exact kl1 | exact kl2 | exact kl3 | exact kl4))
local macro_rules | `(tactic| walk_at "x1") => `(tactic| (first
  | (with_reducible refine tg_e ?_; first
    | ((with_reducible refine' xe_var ?s1 ?_); (case s1 => with_unfolding_all exact rfl))
    | with_reducible refine xe_int ?_
    | with_reducible refine xe_str ?_
    | with_reducible refine xe_bl ?_
    | with_reducible refine xe_non ?_
    | with_reducible refine xe_ty ?_
    | with_reducible refine xe_op ?_
    | with_reducible refine xe_un ?_
    | with_reducible refine xe_isiT ["int", "str"] ?_
    | with_reducible refine xe_listIt ?_
    | with_reducible refine xe_prop ?_
    | with_reducible refine xe_cb ?_
    | with_reducible refine xe_call ?_
    | ((with_reducible refine' xe_callX ?s1 ?_); (case s1 => assumption))
    | with_reducible refine xe_callX ekF ?_
    | ((with_reducible refine' xe_methX ?s1 ?_); (case s1 => assumption))
    | with_reducible refine xe_methX ekF ?_
    | ((with_reducible refine' xe_methRX ?s1 ?_); (case s1 => assumption))
    | with_reducible refine xe_methRX ekF ?_
    | with_reducible refine xe_tup ?_
    | with_reducible refine xe_sl ?_
    | with_reducible refine xe_bm ?_
    | with_reducible refine xe_if ?_
    | with_reducible refine xe_andV ?_
    | with_reducible refine xe_orV ?_
    | with_reducible refine xe_notV ?_
    | with_reducible refine xe_chain ?_
    | with_reducible refine xe_isN ?_
    | with_reducible refine xe_notN ?_
    | with_reducible refine xe_lstF ?_
    | with_reducible refine xe_lstN ?_
    | with_reducible refine xe_fld ?_
    | with_reducible refine xe_meth ?_
    | with_reducible refine xe_methR ?_
    | with_reducible refine xe_dgetT ?_
    | with_reducible refine xe_dget2T ?_
    | with_reducible refine xe_dinT ?_
    | with_reducible refine xe_dnotinT ?_
    | with_reducible refine xe_js ?_
    | with_reducible refine xe_fmt ?_)
  | (with_reducible refine tg_a ?_; first
    | with_reducible refine xa_cons ?_
    | with_reducible refine xa_nil ?_)
  | (with_reducible refine tg_r ?_; first
    | with_reducible refine xr_addI ?_
    | with_reducible refine xr_eqI ?_
    | with_reducible refine xr_neI ?_
    | with_reducible refine xr_eqS ?_
    | with_reducible refine xr_neS ?_
    | with_reducible refine xr_eqB ?_
    | with_reducible refine xr_neB ?_
    | with_reducible refine xr_I0 ?_
    | with_reducible refine xr_B0 ?_
    | ((with_reducible refine' xr_I ?s1 ?_); (case s1 => walk_at "cx"))
    | ((with_reducible refine' xr_addSt ?s1 ?_); (case s1 => walk_at "side"))
    | ((with_reducible refine' xr_addL ?s1 ?_); (case s1 => walk_at "side"))
    | ((with_reducible refine' xr_addT ?s1 ?_); (case s1 => walk_at "side"))
    | ((with_reducible refine' xr_mulL ?s1 ?s2 ?s3 ?_); (case s1 => walk_at "side"); (case s2 => walk_at "side"); (case s3 => walk_at "side"))
    | ((with_reducible refine' xr_ix1 (xr_ixLM ?s1 ?s2 ?_)); (case s1 => walk_at "has"); (case s2 => first | exact atI_0 | exact atI_1 | with_unfolding_all exact rfl))
    | ((with_reducible refine' xr_ix1 (xr_ixL ?s1 ?_)); (case s1 => first | exact atI_0 | exact atI_1 | with_unfolding_all exact rfl))
    | ((with_reducible refine' xr_ix2 (xr_ixT ?s1 ?_)); (case s1 => first | exact atI_0 | exact atI_1 | with_unfolding_all exact rfl))
    | ((with_reducible refine' xr_nil ?s1 ?_); (case s1 => first | exact Rds.same _ | exact Rds.mtb (by walk_at "has"))))
  | (with_reducible refine tg_s ?_; first
    | with_reducible refine ys_seq ?_
    | with_reducible refine ys_set ?_
    | with_reducible refine ys_asg allV ?_
    | with_reducible refine ys_ret ?_
    | ((with_reducible refine' ys_raiseE ?s1 ?_); (case s1 => assumption))
    | with_reducible refine ys_drop ?_
    | with_reducible refine ys_next ?_
    | with_reducible refine ys_par ?_
    | with_reducible refine ys_retN ?_
    | with_reducible refine ys_par3 ?_
    | with_reducible refine ys_fld ?_
    | with_reducible refine ys_dputT ?_)
  | (with_reducible refine tg_t ?_; first
    | with_reducible refine xt_test ?_
    | with_reducible refine xt_B ?_
    | with_reducible refine xt_and ?_
    | with_reducible refine xt_or ?_
    | with_reducible refine xt_not ?_
    | with_reducible refine xt_yes ?_)
  | (with_reducible refine tg_c ?_; first
    | with_reducible refine xc_intI ?_
    | with_reducible refine xc_abs ?_
    | ((with_reducible refine' xc_isi ?s1 ?s2 ?_); (case s1 => with_unfolding_all exact rfl); (case s2 => walk_at "kb"))
    | with_reducible refine xc_lenL ?_
    | with_reducible refine xc_lenT ?_
    | ((with_reducible refine' xc_lenS ?s1 ?_); (case s1 => walk_at "side"))
    | ((with_reducible refine' xc_strK ?s1 ?_); (case s1 => walk_at "side"))
    | ((with_reducible refine' xc_listF ?s1 ?_); (case s1 => first | exact .inl rfl | exact .inr (.inl rfl) | exact .inr (.inr ⟨_, rfl, by walk_at "has"⟩)))
    | ((with_reducible refine' xc_tup ?s1 ?_); (case s1 => first | exact .inl rfl | exact .inr (.inl rfl) | exact .inr (.inr ⟨_, rfl, by walk_at "has"⟩))))
  | (with_reducible refine tg_m ?_; first
    | ((with_reducible refine' xm_append ?s1 ?s2 ?s3 ?_); (case s1 => walk_at "has"); (case s2 => walk_at "put"); (case s3 => walk_at "side"))
    | ((with_reducible refine' xm_part ?s1 ?s2 ?_); (case s1 => decide +kernel); (case s2 => walk_at "side"))
    | ((with_reducible refine' xm_insert ?s1 ?s2 ?s3 ?s4 ?s5 ?_); (case s1 => walk_at "has"); (case s2 => walk_at "put"); (case s3 => walk_at "side"); (case s4 => walk_at "side"); (case s5 => walk_at "side"))
    | ((with_reducible refine' xm_extend ?s1 ?s2 ?s3 ?s4 ?_); (case s1 => walk_at "has"); (case s2 => first | exact .inl rfl | exact .inr (.inl rfl) | exact .inr (.inr ⟨_, rfl, by walk_at "has"⟩)); (case s3 => walk_at "put"); (case s4 => walk_at "side"))
    | ((with_reducible refine' xm_pop0 ?s1 ?s2 ?_); (case s1 => walk_at "has"); (case s2 => walk_at "put")))
  | (with_reducible refine tg_g ?_; first
    | ((with_reducible refine' xg_name ?s1 ?_); (case s1 => first | decide | exact List.mem_cons_self))
    | ((with_reducible refine' xg_tup ?s1 ?_); (case s1 => with_unfolding_all exact rfl))
    | with_reducible refine xg_setX ?_)
  | (with_reducible refine tg_gs ?_; first
    | with_reducible refine xgs_cons ?_
    | with_reducible refine xgs_nil ?_)
  | (with_reducible refine tg_l ?_; first
    | ((with_reducible refine' xl_S ?s1 ?_); (case s1 => walk_at "side"))
    | with_reducible refine xl_L ?_
    | with_reducible refine xl_T ?_
    | with_reducible refine xl_scr ?_)
  | (with_reducible refine tg_o ?_; first
    | with_reducible refine xo_no ?_
    | with_reducible refine xo_at ?_)
  | (with_reducible refine tg_u ?_; first
    | with_reducible refine xu_I ?_)
  | (with_reducible refine tg_j ?_; first
    | with_reducible refine xj_cons ?_
    | with_reducible refine xj_nil ?_)
  | (with_reducible refine tg_f ?_; first
    | ((with_reducible refine' fmt_s ?s1 ?_); (case s1 => walk_at "side"))
    | ((with_reducible refine' fmt_iK ?s1 ?_); (case s1 => walk_at "side")))
  | ((with_reducible refine' ⟨rfl, ?s1, _, _, rfl, ?s2, ?_⟩); (case s1 => decide); (case s2 => walk_at "kl"))
  | ((with_reducible refine' ⟨_, _, _, _, rfl, rfl, ?s1, ?s2, fun M3 hp => ?_⟩); (case s1 => walk_at "has"); (case s2 => with_unfolding_all exact rfl))
  | ((with_reducible refine' b1 ?s1 ?_); (case s1 => walk_at "kt"))
  | ((with_reducible refine' b2 ?s1 ?_); (case s1 => walk_at "kf"))
  | ((with_reducible refine' b3 ?s1 ?_); (case s1 => walk_at "kt"))
  | ((with_reducible refine' b4 ?s1 ?_); (case s1 => walk_at "kf"))
  | with_reducible refine ⟨_, _, rfl, tg_s ?_⟩
  | with_reducible refine ⟨_, _, _, rfl, tg_s ?_⟩
  | ((with_reducible refine' fd_f ?s1 ?_); (case s1 => with_unfolding_all exact rfl))
  | ((with_reducible refine' fd_m ?s1 ?s2 ?_); (case s1 => walk_at "has"); (case s2 => with_unfolding_all exact rfl))
  | ((with_reducible refine' ⟨mc_f ?s1, ?_⟩); (case s1 => with_unfolding_all exact rfl))
  | ((with_reducible refine' ⟨mc_m ?s1 ?s2, ?_⟩); (case s1 => walk_at "has"); (case s2 => with_unfolding_all exact rfl))
  | with_reducible refine ⟨TyM.str _, ?_⟩
  | with_reducible refine ⟨TyM.lst _, ?_⟩
  | ((with_reducible refine' ⟨TyM.lstM ?s1, ?_⟩); (case s1 => walk_at "has"))
  | ((with_reducible refine ⟨_, rfl, ?s1, ?s2, ?_⟩); (case s1 => walk_at "side"); (case s2 => walk_at "side"))
  | ((with_reducible refine ⟨_, rfl, ?s1, ?_⟩); (case s1 => walk_at "side"))
  | with_reducible refine ⟨_, rfl, ?_⟩
  | with_reducible refine And.intro rfl ?_
  | with_reducible refine ⟨Nat.le_of_ble_eq_true rfl, ?_⟩))
local macro_rules | `(tactic| walk_at "xgo") => `(tactic| repeat (walk_at "x1"))
local macro_rules | `(tactic| walk_at "xgi") => `(tactic| repeat (first | walk_at "x1" | with_reducible refine ys_if ?_))
local macro_rules | `(tactic| walk_at "om") => `(tactic| (first | omega | (simp only [List.length_map, List.length_cons, List.length_nil, List.length_append]; omega)))
local macro_rules | `(tactic| walk_at "xgx") => `(tactic| repeat (first
  | walk_at "x1"
  | ((with_reducible refine' b4 (ndf ?s1) ?_); (case s1 => walk_at "om"))
  | ((with_reducible refine' b3 (ndt ?s1) ?_); (case s1 => walk_at "om"))
  | ((with_reducible refine' b2 (ndf ?s1) ?_); (case s1 => walk_at "om"))
  | ((with_reducible refine' b1 (ndt ?s1) ?_); (case s1 => walk_at "om"))
  | ((with_reducible refine' b1 (decide_eq_true ?s1) ?_); (case s1 => walk_at "om"))
  | ((with_reducible refine' b2 (decide_eq_false ?s1) ?_); (case s1 => walk_at "om"))
  | ((with_reducible refine' b3 (decide_eq_true ?s1) ?_); (case s1 => walk_at "om"))
  | ((with_reducible refine' b4 (decide_eq_false ?s1) ?_); (case s1 => walk_at "om"))))
local macro_rules | `(tactic| walk_at "y1") => `(tactic| (first
  | (with_reducible refine tg_s ?_; with_reducible refine ys_seqC fun _ _ => ?_)
  | walk_at "x1"
  | (with_reducible refine ⟨_, _, rfl, ?_⟩; refine cont_go (by assumption) (by (try simp only [List.set_cons_succ, List.set_cons_zero]); first | done | exact rfl) ?_)
  | (with_reducible refine ⟨_, _, _, rfl, ?_⟩; refine cont_go (by assumption) (by (try simp only [List.set_cons_succ, List.set_cons_zero]); first | done | exact rfl) ?_)
  | (refine cont_go (by assumption) (by (try simp only [List.set_cons_succ, List.set_cons_zero]); first | done | exact rfl) ?_)))
local macro_rules | `(tactic| walk_at "xgc") => `(tactic| repeat (walk_at "y1"))
section
variable {P : Program} {w : World} {K : PySem.W.Frag} {mg : Str → Option Value} {base : Heap}
def topS (i : Nat) : Stmt := PySem.Challenge.pw_evertally_k01_polynomials_return_their_t.main.body.getD i (.Pass ⟨0, 0, 0, 0⟩)
abbrev s__wall : Stmt := topS 0
abbrev n__wall : List Str := ["k"]
abbrev p__wall : List Str := ["k"]
theorem sc__wall : FnScope n__wall p__wall (defScope s__wall) := ⟨rfl, rfl, rfl, by decide +kernel, rfl, by decide +kernel, by decide +kernel⟩
abbrev s_order_key : Stmt := topS 23
abbrev n_order_key : List Str := ["exponents"]
abbrev p_order_key : List Str := ["exponents"]
theorem sc_order_key : FnScope n_order_key p_order_key (defScope s_order_key) := ⟨rfl, rfl, rfl, by decide +kernel, rfl, by decide +kernel, by decide +kernel⟩
abbrev s_summed_tables : Stmt := topS 24
abbrev n_summed_tables : List Str := ["one", "other", "sign", "found", "key", "value"]
abbrev p_summed_tables : List Str := ["one", "other", "sign"]
theorem sc_summed_tables : FnScope n_summed_tables p_summed_tables (defScope s_summed_tables) := ⟨rfl, rfl, rfl, by decide +kernel, rfl, by decide +kernel, by decide +kernel⟩
abbrev s_of_table : Stmt := topS 25
abbrev n_of_table : List Str := ["many", "table"]
abbrev p_of_table : List Str := ["many", "table"]
theorem sc_of_table : FnScope n_of_table p_of_table (defScope s_of_table) := ⟨rfl, rfl, rfl, by decide +kernel, rfl, by decide +kernel, by decide +kernel⟩
abbrev s_is_key : Stmt := topS 26
abbrev n_is_key : List Str := ["exponents", "many", "exponent"]
abbrev p_is_key : List Str := ["exponents", "many"]
theorem sc_is_key : FnScope n_is_key p_is_key (defScope s_is_key) := ⟨rfl, rfl, rfl, by decide +kernel, rfl, by decide +kernel, by decide +kernel⟩
abbrev s_Poly_init : Stmt := inClass (topS 27) 1
abbrev n_Poly_init : List Str := ["self", "many", "terms", "table", "at", "key", "value"]
abbrev p_Poly_init : List Str := ["self", "many", "terms"]
theorem sc_Poly_init : FnScope n_Poly_init p_Poly_init (defScope s_Poly_init) := ⟨rfl, rfl, rfl, by decide +kernel, rfl, by decide +kernel, by decide +kernel⟩
abbrev s_Poly_number : Stmt := inClass (topS 27) 2
abbrev n_Poly_number : List Str := ["many", "value"]
abbrev p_Poly_number : List Str := ["many", "value"]
theorem sc_Poly_number : FnScope n_Poly_number p_Poly_number (defScope s_Poly_number) := ⟨rfl, rfl, rfl, by decide +kernel, rfl, by decide +kernel, by decide +kernel⟩
abbrev s_Poly_unknown : Stmt := inClass (topS 27) 3
abbrev n_Poly_unknown : List Str := ["many", "at"]
abbrev p_Poly_unknown : List Str := ["many", "at"]
theorem sc_Poly_unknown : FnScope n_Poly_unknown p_Poly_unknown (defScope s_Poly_unknown) := ⟨rfl, rfl, rfl, by decide +kernel, rfl, by decide +kernel, by decide +kernel⟩
abbrev s_Poly_many : Stmt := inClass (topS 27) 4
abbrev n_Poly_many : List Str := ["self"]
abbrev p_Poly_many : List Str := ["self"]
theorem sc_Poly_many : FnScope n_Poly_many p_Poly_many (defScope s_Poly_many) := ⟨rfl, rfl, rfl, by decide +kernel, rfl, by decide +kernel, by decide +kernel⟩
abbrev s_Poly_degree : Stmt := inClass (topS 27) 5
abbrev n_Poly_degree : List Str := ["self", "key"]
abbrev p_Poly_degree : List Str := ["self"]
theorem sc_Poly_degree : FnScope n_Poly_degree p_Poly_degree (defScope s_Poly_degree) := ⟨rfl, rfl, rfl, by decide +kernel, rfl, by decide +kernel, by decide +kernel⟩
abbrev s_Poly_bool : Stmt := inClass (topS 27) 12
abbrev n_Poly_bool : List Str := ["self"]
abbrev p_Poly_bool : List Str := ["self"]
theorem sc_Poly_bool : FnScope n_Poly_bool p_Poly_bool (defScope s_Poly_bool) := ⟨rfl, rfl, rfl, by decide +kernel, rfl, by decide +kernel, by decide +kernel⟩
abbrev s_Poly_len : Stmt := inClass (topS 27) 13
abbrev n_Poly_len : List Str := ["self"]
abbrev p_Poly_len : List Str := ["self"]
theorem sc_Poly_len : FnScope n_Poly_len p_Poly_len (defScope s_Poly_len) := ⟨rfl, rfl, rfl, by decide +kernel, rfl, by decide +kernel, by decide +kernel⟩
abbrev s_Poly_repr : Stmt := inClass (topS 27) 14
abbrev n_Poly_repr : List Str := ["self"]
abbrev p_Poly_repr : List Str := ["self"]
theorem sc_Poly_repr : FnScope n_Poly_repr p_Poly_repr (defScope s_Poly_repr) := ⟨rfl, rfl, rfl, by decide +kernel, rfl, by decide +kernel, by decide +kernel⟩
abbrev s_Poly_terms : Stmt := inClass (topS 27) 16
abbrev n_Poly_terms : List Str := ["self", "key"]
abbrev p_Poly_terms : List Str := ["self"]
theorem sc_Poly_terms : FnScope n_Poly_terms p_Poly_terms (defScope s_Poly_terms) := ⟨rfl, rfl, rfl, by decide +kernel, rfl, by decide +kernel, by decide +kernel⟩
abbrev s_term_text : Stmt := topS 28
abbrev n_term_text : List Str := ["key", "value", "names", "words", "name", "exponent"]
abbrev p_term_text : List Str := ["key", "value", "names"]
theorem sc_term_text : FnScope n_term_text p_term_text (defScope s_term_text) := ⟨rfl, rfl, rfl, by decide +kernel, rfl, by decide +kernel, by decide +kernel⟩
abbrev s__law_feed : Stmt := topS 30
abbrev n__law_feed : List Str := ["_law_script", "_law_cells", "_law_stamp", "_law_cell_here"]
abbrev p__law_feed : List Str := ["_law_script"]
theorem sc__law_feed : FnScope n__law_feed p__law_feed (defScope s__law_feed) := ⟨rfl, rfl, rfl, by decide +kernel, rfl, by decide +kernel, by decide +kernel⟩
abbrev s__law_take : Stmt := topS 31
abbrev n__law_take : List Str := ["_law_feed_here", "_law_many", "_law_cell_here", "_law_mingled", "_law_got"]
abbrev p__law_take : List Str := ["_law_feed_here", "_law_many"]
theorem sc__law_take : FnScope n__law_take p__law_take (defScope s__law_take) := ⟨rfl, rfl, rfl, by decide +kernel, rfl, by decide +kernel, by decide +kernel⟩
abbrev s__law_pick : Stmt := topS 32
abbrev n__law_pick : List Str := ["_law_feed_here", "_law_some"]
abbrev p__law_pick : List Str := ["_law_feed_here", "_law_some"]
theorem sc__law_pick : FnScope n__law_pick p__law_pick (defScope s__law_pick) := ⟨rfl, rfl, rfl, by decide +kernel, rfl, by decide +kernel, by decide +kernel⟩
abbrev s__law_mixed : Stmt := topS 33
abbrev n__law_mixed : List Str := ["_law_feed_here", "_law_some", "_law_found", "_law_one"]
abbrev p__law_mixed : List Str := ["_law_feed_here", "_law_some"]
theorem sc__law_mixed : FnScope n__law_mixed p__law_mixed (defScope s__law_mixed) := ⟨rfl, rfl, rfl, by decide +kernel, rfl, by decide +kernel, by decide +kernel⟩
abbrev s__law_same : Stmt := topS 34
abbrev n__law_same : List Str := ["_law_found", "_law_due", "_law_alike", "_law_one", "_law_two"]
abbrev p__law_same : List Str := ["_law_found", "_law_due"]
theorem sc__law_same : FnScope n__law_same p__law_same (defScope s__law_same) := ⟨rfl, rfl, rfl, by decide +kernel, rfl, by decide +kernel, by decide +kernel⟩
abbrev s__law_why : Stmt := topS 35
abbrev n__law_why : List Str := ["_law_ask", "_law_told", "e"]
abbrev p__law_why : List Str := ["_law_ask"]
theorem sc__law_why : FnScope n__law_why p__law_why (defScope s__law_why) := ⟨rfl, rfl, rfl, by decide +kernel, rfl, by decide +kernel, by decide +kernel⟩
abbrev s__law_padd : Stmt := topS 36
abbrev n__law_padd : List Str := ["_law_one", "_law_two", "_law_sign", "_law_found", "_law_exps"]
abbrev p__law_padd : List Str := ["_law_one", "_law_two", "_law_sign"]
theorem sc__law_padd : FnScope n__law_padd p__law_padd (defScope s__law_padd) := ⟨rfl, rfl, rfl, by decide +kernel, rfl, by decide +kernel, by decide +kernel⟩
abbrev s__law_const : Stmt := topS 37
abbrev n__law_const : List Str := ["_law_many", "_law_value"]
abbrev p__law_const : List Str := ["_law_many", "_law_value"]
theorem sc__law_const : FnScope n__law_const p__law_const (defScope s__law_const) := ⟨rfl, rfl, rfl, by decide +kernel, rfl, by decide +kernel, by decide +kernel⟩
abbrev s__law_cell : Stmt := topS 38
abbrev n__law_cell : List Str := ["_law_many", "_law_at"]
abbrev p__law_cell : List Str := ["_law_many", "_law_at"]
theorem sc__law_cell : FnScope n__law_cell p__law_cell (defScope s__law_cell) := ⟨rfl, rfl, rfl, by decide +kernel, rfl, by decide +kernel, by decide +kernel⟩
abbrev s__law_order : Stmt := topS 39
abbrev n__law_order : List Str := ["_law_exps"]
abbrev p__law_order : List Str := ["_law_exps"]
theorem sc__law_order : FnScope n__law_order p__law_order (defScope s__law_order) := ⟨rfl, rfl, rfl, by decide +kernel, rfl, by decide +kernel, by decide +kernel⟩
abbrev s__law_terms : Stmt := topS 40
abbrev n__law_terms : List Str := ["_law_one", "_law_exps"]
abbrev p__law_terms : List Str := ["_law_one"]
theorem sc__law_terms : FnScope n__law_terms p__law_terms (defScope s__law_terms) := ⟨rfl, rfl, rfl, by decide +kernel, rfl, by decide +kernel, by decide +kernel⟩
abbrev s__law_is_poly : Stmt := topS 41
abbrev n__law_is_poly : List Str := ["_law_made", "_law_many", "_law_one"]
abbrev p__law_is_poly : List Str := ["_law_made", "_law_many", "_law_one"]
theorem sc__law_is_poly : FnScope n__law_is_poly p__law_is_poly (defScope s__law_is_poly) := ⟨rfl, rfl, rfl, by decide +kernel, rfl, by decide +kernel, by decide +kernel⟩
abbrev s__law_drawn : Stmt := topS 42
abbrev n__law_drawn : List Str := ["_law_feed_here", "_law_many", "_law_degree", "_law_size", "_law_found", "_law_turn", "_law_exps", "_law_step", "_law_at", "_law_value"]
abbrev p__law_drawn : List Str := ["_law_feed_here", "_law_many", "_law_degree", "_law_size"]
theorem sc__law_drawn : FnScope n__law_drawn p__law_drawn (defScope s__law_drawn) := ⟨rfl, rfl, rfl, by decide +kernel, rfl, by decide +kernel, by decide +kernel⟩
abbrev s_law : Stmt := topS 43
abbrev n_law : List Str := ["_law_script", "_law_feed_here", "_law_turn", "_law_many", "_law_one", "_law_handed", "_law_made", "_law_again", "_law_told", "_law_degree", "_law_words", "_law_value", "_law_place", "_law_exps"]
abbrev p_law : List Str := ["_law_script"]
theorem sc_law : FnScope n_law p_law (defScope s_law) := ⟨rfl, rfl, rfl, by decide +kernel, rfl, by decide +kernel, by decide +kernel⟩
abbrev s_InvalidTerm_init : Stmt := inClass (topS 4) 0
abbrev n_InvalidTerm_init : List Str := ["self", "at", "__class__"]
abbrev p_InvalidTerm_init : List Str := ["self", "at"]
theorem sc_InvalidTerm_init : NdefX.NScope n_InvalidTerm_init p_InvalidTerm_init ["__class__"] (defScope s_InvalidTerm_init) := NdefX.nscope_by (by decide +kernel)
abbrev s_Mismatch_init : Stmt := inClass (topS 5) 0
abbrev n_Mismatch_init : List Str := ["self", "wanted", "__class__"]
abbrev p_Mismatch_init : List Str := ["self", "wanted"]
theorem sc_Mismatch_init : NdefX.NScope n_Mismatch_init p_Mismatch_init ["__class__"] (defScope s_Mismatch_init) := NdefX.nscope_by (by decide +kernel)
def whyL : List (List Str × Option Str) := [(["InvalidTerm", "InvalidRule", "ParseError"], some "at"), (["InvalidName", "DuplicateName", "Ring", "InUse", "UnknownName"], some "name"), (["InvalidSize", "InvalidNumber", "InvalidLimit"], some "given"), (["Mismatch"], some "wanted"), (["TooMany"], some "most"), (["Differs"], some "size"), (["InvalidCommand"], some "first"), (["Broken"], some "label"), (["InvalidTree", "NothingLeft"], none)]
structure Top (P : Program) (K : PySem.W.Frag) (mg : Str → Option Value) : Prop where
  z_InvalidTerm : mg "InvalidTerm" = some (.ref (clsA mg "InvalidTerm"))
  z_InvalidRule : mg "InvalidRule" = some (.ref (clsA mg "InvalidRule"))
  z_ParseError : mg "ParseError" = some (.ref (clsA mg "ParseError"))
  z_InvalidName : mg "InvalidName" = some (.ref (clsA mg "InvalidName"))
  z_DuplicateName : mg "DuplicateName" = some (.ref (clsA mg "DuplicateName"))
  z_Ring : mg "Ring" = some (.ref (clsA mg "Ring"))
  z_InUse : mg "InUse" = some (.ref (clsA mg "InUse"))
  z_UnknownName : mg "UnknownName" = some (.ref (clsA mg "UnknownName"))
  z_InvalidSize : mg "InvalidSize" = some (.ref (clsA mg "InvalidSize"))
  z_InvalidNumber : mg "InvalidNumber" = some (.ref (clsA mg "InvalidNumber"))
  z_InvalidLimit : mg "InvalidLimit" = some (.ref (clsA mg "InvalidLimit"))
  z_Mismatch : mg "Mismatch" = some (.ref (clsA mg "Mismatch"))
  z_TooMany : mg "TooMany" = some (.ref (clsA mg "TooMany"))
  z_Differs : mg "Differs" = some (.ref (clsA mg "Differs"))
  z_InvalidCommand : mg "InvalidCommand" = some (.ref (clsA mg "InvalidCommand"))
  z_Broken : mg "Broken" = some (.ref (clsA mg "Broken"))
  z_InvalidTree : mg "InvalidTree" = some (.ref (clsA mg "InvalidTree"))
  z_NothingLeft : mg "NothingLeft" = some (.ref (clsA mg "NothingLeft"))
  x_InvalidTerm : XCls P K mg "InvalidTerm" "InvalidTerm.__init__" s_InvalidTerm_init "ValueError" "ValueError.__new__" "ValueError.__init__" [.type "ValueError", .type "Exception", .type "BaseException", .type "object"] "at" p_InvalidTerm_init
  w_InvalidTerm : ExW K mg "InvalidTerm" (whyC mg whyL) (some "at")
  x_Mismatch : XCls P K mg "Mismatch" "Mismatch.__init__" s_Mismatch_init "ValueError" "ValueError.__new__" "ValueError.__init__" [.type "ValueError", .type "Exception", .type "BaseException", .type "object"] "wanted" p_Mismatch_init
  w_Mismatch : ExW K mg "Mismatch" (whyC mg whyL) (some "wanted")
  b_abs : mg "abs" = none
  b_all : mg "all" = none
  b_bool : mg "bool" = none
  b_dict : mg "dict" = none
  b_enumerate : mg "enumerate" = none
  b_int : mg "int" = none
  b_isinstance : mg "isinstance" = none
  b_len : mg "len" = none
  b_list : mg "list" = none
  b_max : mg "max" = none
  b_range : mg "range" = none
  b_repr : mg "repr" = none
  b_sorted : mg "sorted" = none
  b_str : mg "str" = none
  b_sum : mg "sum" = none
  b_super : mg "super" = none
  b_tuple : mg "tuple" = none
  b_zip : mg "zip" = none
  f__wall : FT K mg "_wall" "_wall" s__wall p__wall
  f_order_key : FT K mg "order_key" "order_key" s_order_key p_order_key
  f_summed_tables : FT K mg "summed_tables" "summed_tables" s_summed_tables p_summed_tables
  f_of_table : FT K mg "of_table" "of_table" s_of_table p_of_table
  f_is_key : FT K mg "is_key" "is_key" s_is_key p_is_key
  f_term_text : FT K mg "term_text" "term_text" s_term_text p_term_text
  f__law_feed : FT K mg "_law_feed" "_law_feed" s__law_feed p__law_feed
  f__law_take : FT K mg "_law_take" "_law_take" s__law_take p__law_take
  f__law_pick : FT K mg "_law_pick" "_law_pick" s__law_pick p__law_pick
  f__law_mixed : FT K mg "_law_mixed" "_law_mixed" s__law_mixed p__law_mixed
  f__law_same : FT K mg "_law_same" "_law_same" s__law_same p__law_same
  f__law_why : FT K mg "_law_why" "_law_why" s__law_why p__law_why
  f__law_padd : FT K mg "_law_padd" "_law_padd" s__law_padd p__law_padd
  f__law_const : FT K mg "_law_const" "_law_const" s__law_const p__law_const
  f__law_cell : FT K mg "_law_cell" "_law_cell" s__law_cell p__law_cell
  f__law_order : FT K mg "_law_order" "_law_order" s__law_order p__law_order
  f__law_terms : FT K mg "_law_terms" "_law_terms" s__law_terms p__law_terms
  f__law_is_poly : FT K mg "_law_is_poly" "_law_is_poly" s__law_is_poly p__law_is_poly
  f__law_drawn : FT K mg "_law_drawn" "_law_drawn" s__law_drawn p__law_drawn
  f_law : FT K mg "law" "law" s_law p_law
  k_Poly : CK K mg "Poly"
  n_Poly_width : FN K mg "Poly" "width"
  n_Poly_table : FN K mg "Poly" "table"
  e_Poly : NE K mg "Poly"
  i_Poly : IsK K mg "Poly"
  m_Poly_init : MT K mg "Poly" "__init__" "Poly.__init__" s_Poly_init p_Poly_init
  m_Poly_number : SM K mg "Poly" "number" "Poly.number" s_Poly_number p_Poly_number
  m_Poly_unknown : SM K mg "Poly" "unknown" "Poly.unknown" s_Poly_unknown p_Poly_unknown
  m_Poly_many : PMt K mg "Poly" "many" "Poly.many" s_Poly_many p_Poly_many
  m_Poly_degree : PMt K mg "Poly" "degree" "Poly.degree" s_Poly_degree p_Poly_degree
  m_Poly_terms : MT K mg "Poly" "terms" "Poly.terms" s_Poly_terms p_Poly_terms
  m_Poly_bool : MT K mg "Poly" "__bool__" "Poly.__bool__" s_Poly_bool p_Poly_bool
  m_Poly_len : MT K mg "Poly" "__len__" "Poly.__len__" s_Poly_len p_Poly_len
  m_Poly_repr : MT K mg "Poly" "__repr__" "Poly.__repr__" s_Poly_repr p_Poly_repr
  v_Poly_MOST : CC K mg "Poly" "MOST" (V.int 8)

theorem g_InvalidTerm (T : Top P K mg) : GEx P w K mg base "InvalidTerm" "at" "InvalidTerm" :=
  exc_ok T.x_InvalidTerm kindVE sc_InvalidTerm_init rfl rfl rfl rfl rfl rfl T.b_super fun fI c cc A outer s H E => ⟨pa_cons (pv 1) pa_nil, rfl, rfl, ⟨_, rfl⟩, pss_cons (ps_stx kindVE (pv 0) pe_str) (pss_one (ps_stx kindVE (pv 0) (pv 1)))⟩
theorem g_Mismatch (T : Top P K mg) : GEx P w K mg base "Mismatch" "wanted" "Mismatch" :=
  exc_ok T.x_Mismatch kindVE sc_Mismatch_init rfl rfl rfl rfl rfl rfl T.b_super fun fI c cc A outer s H E => ⟨pa_cons (pv 1) pa_nil, rfl, rfl, ⟨_, rfl⟩, pss_cons (ps_stx kindVE (pv 0) pe_str) (pss_one (ps_stx kindVE (pv 0) (pv 1)))⟩

theorem why_g (T : Top P K mg) (X : Cx) (g : Addr) (cdg : Value) (h : X.K = K) (hmg : X.mg = mg) : LamX.GivesTo X n__law_why "_law_why" (defScope s__law_why) g cdg (defBody s__law_why) "_law_ask" lamQ (TTwhy K (whyC mg whyL)) := by
  subst h
  subst hmg
  refine why_gives (Ng := n__law_why) (vT := "_law_told") (vE := "e") rfl sc__law_why.nd rfl rfl (by decide) (by decide) fun s H => ?_
  exact (HdsA.cons (hd_tup (NamesOf.cons ⟨rfl, by decide, .inl T.z_InvalidTerm⟩ (NamesOf.cons ⟨rfl, by decide, .inl T.z_InvalidRule⟩ (NamesOf.cons ⟨rfl, by decide, .inl T.z_ParseError⟩ NamesOf.nil))) (by size_fits)) (fun a oe cls d pn hz hv => pss_one (ps_asg (pe_tup (pa_cons (pe_xfA hz hv (pv 2)) (pa_cons (pe_xfA hz hv (pv 2)) pa_nil))) (pg_name (i := 1) sc__law_why.nd rfl (.inl rfl)))) (HdsA.cons (hd_tup (NamesOf.cons ⟨rfl, by decide, .inl T.z_InvalidName⟩ (NamesOf.cons ⟨rfl, by decide, .inl T.z_DuplicateName⟩ (NamesOf.cons ⟨rfl, by decide, .inl T.z_Ring⟩ (NamesOf.cons ⟨rfl, by decide, .inl T.z_InUse⟩ (NamesOf.cons ⟨rfl, by decide, .inl T.z_UnknownName⟩ NamesOf.nil))))) (by size_fits)) (fun a oe cls d pn hz hv => pss_one (ps_asg (pe_tup (pa_cons (pe_xfA hz hv (pv 2)) (pa_cons (pe_xfA hz hv (pv 2)) pa_nil))) (pg_name (i := 1) sc__law_why.nd rfl (.inl rfl)))) (HdsA.cons (hd_tup (NamesOf.cons ⟨rfl, by decide, .inl T.z_InvalidSize⟩ (NamesOf.cons ⟨rfl, by decide, .inl T.z_InvalidNumber⟩ (NamesOf.cons ⟨rfl, by decide, .inl T.z_InvalidLimit⟩ NamesOf.nil))) (by size_fits)) (fun a oe cls d pn hz hv => pss_one (ps_asg (pe_tup (pa_cons (pe_xfA hz hv (pv 2)) (pa_cons (pe_xfA hz hv (pv 2)) pa_nil))) (pg_name (i := 1) sc__law_why.nd rfl (.inl rfl)))) (HdsA.cons (hd_one ⟨rfl, by decide, .inl T.z_Mismatch⟩) (fun a oe cls d pn hz hv => pss_one (ps_asg (pe_tup (pa_cons (pe_xfA hz hv (pv 2)) (pa_cons (pe_xfA hz hv (pv 2)) pa_nil))) (pg_name (i := 1) sc__law_why.nd rfl (.inl rfl)))) (HdsA.cons (hd_one ⟨rfl, by decide, .inl T.z_TooMany⟩) (fun a oe cls d pn hz hv => pss_one (ps_asg (pe_tup (pa_cons (pe_xfA hz hv (pv 2)) (pa_cons (pe_xfA hz hv (pv 2)) pa_nil))) (pg_name (i := 1) sc__law_why.nd rfl (.inl rfl)))) (HdsA.cons (hd_one ⟨rfl, by decide, .inl T.z_Differs⟩) (fun a oe cls d pn hz hv => pss_one (ps_asg (pe_tup (pa_cons (pe_xfA hz hv (pv 2)) (pa_cons (pe_xfA hz hv (pv 2)) pa_nil))) (pg_name (i := 1) sc__law_why.nd rfl (.inl rfl)))) (HdsA.cons (hd_one ⟨rfl, by decide, .inl T.z_InvalidCommand⟩) (fun a oe cls d pn hz hv => pss_one (ps_asg (pe_tup (pa_cons (pe_xfA hz hv (pv 2)) (pa_cons (pe_xfA hz hv (pv 2)) pa_nil))) (pg_name (i := 1) sc__law_why.nd rfl (.inl rfl)))) (HdsA.cons (hd_one ⟨rfl, by decide, .inl T.z_Broken⟩) (fun a oe cls d pn hz hv => pss_one (ps_asg (pe_tup (pa_cons (pe_xfA hz hv (pv 2)) (pa_cons (pe_xfA hz hv (pv 2)) pa_nil))) (pg_name (i := 1) sc__law_why.nd rfl (.inl rfl)))) (HdsA.cons (hd_tup (NamesOf.cons ⟨rfl, by decide, .inl T.z_InvalidTree⟩ (NamesOf.cons ⟨rfl, by decide, .inl T.z_NothingLeft⟩ NamesOf.nil)) (by size_fits)) (fun a oe cls d pn hz hv => pss_one (ps_asg (pe_tup (pa_cons (pe_xfA hz hv (pv 2)) (pa_cons pe_non pa_nil))) (pg_name (i := 1) sc__law_why.nd rfl (.inl rfl)))) HdsA.nil)))))))))


def S_take : DS := fun ds M R => ∃ f n, ds = [.ref f, .int n] ∧ Has M f .feed ∧ 0 < n ∧ n.natAbs < 2 ^ 2000 ∧ ∀ r : Int, 0 ≤ r → r < n → R (.int r) M
theorem g__law_take (T : Top P K mg) : GFn P w K mg base 1 "_law_take" p__law_take S_take := by
  refine g_ok T.f__law_take sc__law_take (by rintro ds M R ⟨f, n, rfl, _⟩; rfl) fun f0 cdv A outer s H E hr => ⟨_, (pss_cons (ps_if (PW.pt (pw_and (pt_cmpR op_eq (pe_ix (k_ix K) (pv 0) pe_int (fun _ _ => rfl)) pe_int (nomark _)) (pw_and1 (pt_cmpR op_lt (pe_ix (k_ix K) (pv 0) pe_int (fun _ _ => rfl)) (pe_callB (k_len K) (by rfl) T.b_len (by decide +kernel) (pa_cons (pe_ix (k_ix K) (pv 0) pe_int (fun _ _ => rfl)) pa_nil)) (nomark _))))) (pss_cons (ps_set (i := 2) sc__law_take.nd rfl (by first | exact Or.inl rfl | exact Or.inr rfl) (pe_ix (k_ix K) (pe_ix (k_ix K) (pv 0) pe_int (fun _ _ => rfl)) (pe_ix (k_ix K) (pv 0) pe_int (fun _ _ => rfl)) (fun _ _ => rfl))) (pss_cons (ps_asg (pe_op (k_addU K) (pe_ix (k_ix K) (pv 0) pe_int (fun _ _ => rfl)) pe_int) (pg_sub (pv 0) pe_int set_list)) (pss_one (ps_if (pt_cmpR op_ge (pv 2) (pe_op op_pow pe_int pe_int) (nomark _)) (pss_one (ps_asg (pv 2) (pg_sub (pv 0) pe_int set_list))) (pss_cons (ps_set (i := 3) sc__law_take.nd rfl (by first | exact Or.inl rfl | exact Or.inr rfl) (pe_op (k_addU K) (pe_op op_mulU (pe_ix (k_ix K) (pv 0) pe_int (fun _ _ => rfl)) pe_int) (pe_op op_mod (pe_callTy c_intU (by rfl) T.b_int (by decide +kernel) (pa_cons (pv 2) pa_nil)) pe_int))) (pss_one (ps_asg (pe_op op_mod (pe_callTy c_intU (by rfl) T.b_int (by decide +kernel) (pa_cons (pe_op (k_addU K) (pv 3) (pe_op op_mulU (pe_ix (k_ix K) (pv 0) pe_int (fun _ _ => rfl)) pe_int)) pa_nil)) pe_int) (pg_sub (pv 0) pe_int set_list)))))))) pss_nil) (pss_cons (ps_if (pt_cmpR op_gt (pe_ix (k_ix K) (pv 0) pe_int (fun _ _ => rfl)) pe_int (nomark _)) (pss_cons (ps_set (i := 4) sc__law_take.nd rfl (by first | exact Or.inl rfl | exact Or.inr rfl) (pe_op op_mod (pe_callTy c_intU (by rfl) T.b_int (by decide +kernel) (pa_cons (pe_ix (k_ix K) (pv 0) pe_int (fun _ _ => rfl)) pa_nil)) (pv 1))) (pss_cons (ps_asg (pe_op op_fdivW (pe_ix (k_ix K) (pv 0) pe_int (fun _ _ => rfl)) (pv 1)) (pg_sub (pv 0) pe_int set_list)) (pss_one (ps_ret (pv 4))))) pss_nil) (pss_cons (ps_asg (pe_op op_mod (pe_callTy c_intU (by rfl) T.b_int (by decide +kernel) (pa_cons (pe_op (k_addU K) (pe_op op_mulU (pe_ix (k_ix K) (pv 0) pe_int (fun _ _ => rfl)) pe_int) pe_int) pa_nil)) pe_int) (pg_sub (pv 0) pe_int set_list)) (pss_one (ps_ret (pe_op op_mod (pe_callTy c_intU (by rfl) T.b_int (by decide +kernel) (pa_cons (pe_op op_fdivW (pe_op op_mod (pe_callTy c_intU (by rfl) T.b_int (by decide +kernel) (pa_cons (pe_op op_mulU (pe_ix (k_ix K) (pv 0) pe_int (fun _ _ => rfl)) (pe_ix (k_ix K) (pv 0) pe_int (fun _ _ => rfl))) pa_nil)) pe_int) pe_int) pa_nil)) (pv 1))))))), ?_⟩
  rintro ds M R ⟨f, n, rfl, hm, hn, hb, q⟩
  refine xs_unfeed hm fun ns i b s M1 hc sm h1 => ?_
  refine ys_wrap (FoldF f) foldF_wd ?_
  show Xs K _ _ [some (.ref f), some (.int n), none, none, none] M1
  obtain ⟨c1, c2, c3, c4⟩ := id hc
  refine ys_mid (fun ρ' M' => ∃ x2 x3 x4 ns i b s, ρ' = [some (.ref f), some (.int n), x2, x3, x4] ∧ FeedC ns i b s ∧ Same1 f M M' ∧ Has M' f (feedL ns i b s)) ?_ ?_
  · walk_at "xgi"
    refine ⟨fun hb0 => ?_, fun _ => ?_⟩
    · walk_at "xgi"
      refine ⟨fun hlt => ?_, fun _ => ?_⟩
      · have hlt' : i < ns.length := by simpa using hlt
        obtain ⟨z, hz⟩ := atI_ints c1 hlt'
        walk_at "xgi"
        refine xr_ix1 (xr_ixL hz ?_)
        walk_at "xgi"
        refine ⟨fun hz2 => ?_, fun _ => ?_⟩
        · walk_at "xgi"
          rename_i M3 hp3 M4 hp4
          refine ⟨_, _, _, ns, i + 1, z, s, rfl, ⟨by omega, ?_, c3, c4⟩, (sm.trans hp3.same1).trans hp4.same1, hp4.has⟩
          have := of_decide_eq_true hz2
          have e : (10 : Int) ^ (Int.toNat 18) = 1000000000000000000 := by decide
          rw [e] at this
          omega
        · walk_at "xgi"
          rename_i M3 hp3 hz2 M4 hp4
          refine ⟨_, _, _, ns, i + 1, b, _, rfl, ⟨by omega, c2, ?_, ?_⟩, (sm.trans hp3.same1).trans hp4.same1, hp4.has⟩
          · exact Int.emod_nonneg _ (by decide)
          · exact Int.lt_trans (Int.emod_lt_of_pos _ (by decide)) (by decide)
      · walk_at "xgi"
        exact ⟨_, _, _, ns, i, b, s, rfl, hc, sm, h1⟩
    · walk_at "xgi"
      exact ⟨_, _, _, ns, i, b, s, rfl, hc, sm, h1⟩
  · rintro ρ' M' ⟨x2, x3, x4, ns, i, b, s, rfl, ⟨c1, c2, c3, c4⟩, sm, h1⟩
    walk_at "xgi"
    refine ⟨fun hb0 => ?_, fun _ => ?_⟩
    · walk_at "xgi"
      rename_i M3 hp3
      refine ⟨M, ⟨hm, sm.trans hp3.same1, ns, i, b / n, s, ⟨c1, Int.ediv_nonneg c2 (by omega), c3, c4⟩, hp3.has⟩, q _ (Int.emod_nonneg _ (by omega)) (Int.emod_lt_of_pos _ hn)⟩
    · walk_at "xgi"
      rename_i M3 hp3
      refine ⟨M, ⟨hm, sm.trans hp3.same1, ns, i, b, _, ⟨c1, c2, Int.emod_nonneg _ (by decide), Int.lt_trans (Int.emod_lt_of_pos _ (by decide)) (by decide)⟩, hp3.has⟩, q _ (Int.emod_nonneg _ (by omega)) (Int.emod_lt_of_pos _ hn)⟩

def S_feed : DS := fun ds M R => ∃ ns, ds = [.scr ns] ∧ ns.length ≤ 63 ∧ ∀ f, R (.ref f) ((f, .feed) :: M)
theorem g__law_feed (T : Top P K mg) : GFn P w K mg base 1 "_law_feed" p__law_feed S_feed := by
  refine g_ok T.f__law_feed sc__law_feed (by rintro ds M R ⟨ns, rfl, _⟩; rfl) fun f0 cdv A outer s H E hr => ⟨_, (pss_cons (ps_set (i := 1) sc__law_feed.nd rfl (by first | exact Or.inl rfl | exact Or.inr rfl) (pe_callTy (k_list K) (by rfl) T.b_list (by decide +kernel) (pa_cons (pe_slice (k_sl K) (pv 0) po_none (po_some pe_int)) pa_nil))) (pss_cons (ps_set (i := 2) sc__law_feed.nd rfl (by first | exact Or.inl rfl | exact Or.inr rfl) (pe_op (k_addU K) pe_int (pe_op op_mulU pe_int (pe_callB (k_len K) (by rfl) T.b_len (by decide +kernel) (pa_cons (pv 1) pa_nil))))) (pss_cons (ps_for PassesOwn.never (by rfl) (pi_listK K (pv 1)) (pg_name (i := 3) sc__law_feed.nd rfl (by first | exact Or.inl rfl | exact Or.inr rfl)) (pss_one (ps_set (i := 2) sc__law_feed.nd rfl (by first | exact Or.inl rfl | exact Or.inr rfl) (pe_op op_mod (pe_callTy c_intU (by rfl) T.b_int (by decide +kernel) (pa_cons (pe_op (k_addU K) (pe_op (k_addU K) (pe_op op_mulU (pv 2) pe_int) (pe_op op_mod (pe_callTy c_intU (by rfl) T.b_int (by decide +kernel) (pa_cons (pv 3) pa_nil)) pe_int)) pe_int) pa_nil)) pe_int)))) (pss_one (ps_ret (pe_lstF (pe_lst (pa_cons (pv 1) (pa_cons pe_int (pa_cons pe_int (pa_cons (pv 2) pa_nil))))))))))), ?_⟩
  rintro ds M R ⟨ns, rfl, hn, q⟩
  show Xs K _ _ [some (.scr ns), none, none, none] M
  walk_at "xgo"
  first | refine xc_listL (.inl rfl) ?_ | skip
  rw [cut63 hn]
  walk_at "xgo"
  refine ys_for allV ?_
  refine xi_list ?_
  walk_at "xgo"
  refine ⟨fun i ρ' M' => ∃ s c, ρ' = [some (.scr ns), some (.lst (ns.map D.int)), some (.int s), c] ∧ 0 ≤ s ∧ s < 2147483648 ∧ M' = M, ?_, fun _ _ _ _ _ => trivial, ?_, ?_⟩
  · refine ⟨_, none, rfl, ?_, ?_, rfl⟩
    · simp; omega
    · simp; omega
  · rintro i d ρ' M' hi hd ⟨s, c, rfl, h1, h2, rfl⟩
    rw [List.getElem?_map] at hd
    cases e : ns[i]? with
    | none => rw [e] at hd; cases hd
    | some z =>
      rw [e] at hd
      cases hd
      walk_at "xgo"
      exact ⟨_, _, rfl, Int.emod_nonneg _ (by decide), Int.lt_trans (Int.emod_lt_of_pos _ (by decide)) (by decide), rfl⟩
  · rintro ρ' M' ⟨s, c, rfl, h1, h2, rfl⟩
    refine ys_ret ?_
    refine xe_tofeed ?_
    refine xe_lstM ?_
    walk_at "xgo"
    intro p
    exact ⟨p, _, rfl, ⟨.head, ⟨rfl, fun q hq hne => (List.mem_cons.mp hq).elim (fun e => absurd (congrArg Prod.fst e) hne) (fun e => List.mem_cons_of_mem _ e)⟩, ns, 0, 0, s, ⟨Int.le_refl 0, Int.le_refl 0, h1, h2⟩, .head⟩, q p⟩
/-- a pick from a list, a tuple, a text -/
def S_pick : DS := fun ds M R => ∃ f x, ds = [.ref f, x] ∧ Has M f .feed ∧
  ((∃ xs, x = .lst xs ∧ 0 < xs.length ∧ xs.length ≤ 1000000 ∧ ∀ d ∈ xs, R d M) ∨ (∃ xs, x = .tup xs ∧ 0 < xs.length ∧ xs.length ≤ 1000000 ∧ ∀ d ∈ xs, R d M) ∨
    ∃ z : Str, x = .str z ∧ 0 < z.length ∧ z.length ≤ 1000000 ∧ ∀ c ∈ z.cps.toList, R (.str ⟨#[c]⟩) M)
theorem pick_at {α : Type} {xs : List α} {r : Int} (h0 : 0 ≤ r) (h1 : r < xs.length) : ∃ d, d ∈ xs ∧ L2.atI xs r = some d := by
  obtain ⟨n, rfl⟩ := Int.eq_ofNat_of_zero_le h0
  have hn : n < xs.length := by omega
  exact ⟨xs[n], List.getElem_mem hn, atI_nat (by simp [hn])⟩
theorem g__law_pick (T : Top P K mg) : GFn P w K mg base 2 "_law_pick" p__law_pick S_pick := by
  refine g_ok T.f__law_pick sc__law_pick (by rintro ds M R ⟨f, x, rfl, _⟩; rfl) fun f0 cdv A outer s H E hr => ⟨_, (pss_one (ps_ret (pe_ix (k_ix K) (pv 1) (pe_gK (g__law_take T) (hr.mono (by decide)) (pa_cons (pv 0) (pa_cons (pe_callB (k_len K) (by rfl) T.b_len (by decide +kernel) (pa_cons (pv 1) pa_nil)) pa_nil))) (fun _ _ => rfl)))), ?_⟩
  rintro ds M R ⟨f, x, rfl, hm, hx⟩
  show Xs K _ _ [some (.ref f), some x] M
  rcases hx with ⟨xs, rfl, h0, h1, q⟩ | ⟨xs, rfl, h0, h1, q⟩ | ⟨z, rfl, h0, h1, q⟩
  · walk_at "xgo"
    refine ⟨f, _, rfl, hm, by omega, big2000 (by omega), fun r r0 r1 => ?_⟩
    obtain ⟨d, hd, e⟩ := pick_at r0 r1
    exact xr_ix1 (xr_ixL e (q d hd))
  · walk_at "xgo"
    refine ⟨f, _, rfl, hm, by omega, big2000 (by omega), fun r r0 r1 => ?_⟩
    obtain ⟨d, hd, e⟩ := pick_at r0 r1
    exact xr_ix2 (xr_ixT e (q d hd))
  · have hz : z.length = z.cps.toList.length := by simp [Str.length]
    walk_at "xgo"
    refine ⟨f, _, rfl, hm, by omega, big2000 (by omega), fun r r0 r1 => ?_⟩
    obtain ⟨d, hd, e⟩ := pick_at (xs := z.cps.toList) r0 (by omega)
    exact xr_ix3 (xr_ixS (by omega) e (q d hd))

/-! tuples of exponents -/
def isKey (ns : List Int) (m : Int) : Bool := decide ((ns.length : Int) = m) && ns.all fun n => decide (0 ≤ n)
def S_is_key : DS := fun ds M R => ∃ (ns : List Int) (m : Int), ds = [tI ns, .int m] ∧ ns.length ≤ 1000 ∧ R (.bl (isKey ns m)) M
theorem ints_at {ns : List Int} {i : Nat} {d : D} (h : (ns.map D.int)[i]? = some d) : ∃ n, ns[i]? = some n ∧ d = .int n ∧ n ∈ ns := by
  rw [List.getElem?_map] at h
  obtain ⟨n, hn, e⟩ := Option.map_eq_some_iff.mp h
  exact ⟨n, hn, e.symm, List.mem_of_getElem? hn⟩
theorem g_is_key (T : Top P K mg) : GFn P w K mg base 1 "is_key" p_is_key S_is_key := by
  refine g_ok T.f_is_key sc_is_key (by rintro ds M R ⟨ns, m, rfl, _⟩; rfl) fun f0 cdv A outer s H E hr => ⟨_, (pss_one (ps_ret (pe_and (pe_cmpR op_eq (pe_callB (k_len K) (by rfl) T.b_len (by decide +kernel) (pa_cons (pv 0) pa_nil)) (pv 1) (nomark _)) (pe_one (pe_callB (k_all K) (by rfl) T.b_all (by decide +kernel) (pa_cons (pe_lc (own := [("exponent", 2)]) (by rfl) sc_is_key.nd (pi_tupK K (pv 0)) (blkOk_by (own := [("exponent", 2)]) (N := n_is_key) (sc := defScope s_is_key) (by decide +kernel)) (fun _ _ _ _ _ => (pg_name (i := 2) sc_is_key.nd rfl (by first | exact Or.inl rfl | exact Or.inr rfl))) (fun _ _ _ _ _ => pts_nil) (fun _ _ _ _ _ => (pe_cmpR op_ge (pv 2) pe_int (nomark _)))) pa_nil)))))), ?_⟩
  rintro ds M R ⟨ns, m, rfl, hl, q⟩
  show Xs K _ _ [some (tI ns), some (.int m), none] M
  walk_at "xgo"
  refine ⟨fun h => ?_, fun h => ?_⟩
  · have hd : decide ((ns.length : Int) = m) = true := by rw [List.length_map] at h; exact h
    walk_at "xgo"
    refine xe_lc ?_
    refine xi_tup ?_
    walk_at "xgo"
    refine ⟨trivial, fun _ _ => trivial, by simp; omega, fun i ys => ys = ((ns.take i).map fun n => decide (0 ≤ n)).map D.bl, rfl, ?_, ?_⟩
    · rintro i d ys p hi hd2 rfl
      obtain ⟨n, hn, rfl, _⟩ := ints_at hd2
      walk_at "xgo"
      simp only []
      rw [List.take_add_one, hn]
      simp
    · rintro ys rfl
      rw [List.take_of_length_le (by simp)]
      walk_at "xgo"
      refine xc_all ?_
      walk_at "xgo"
      unfold isKey at q
      rw [hd, Bool.true_and] at q
      rw [List.all_map]
      exact q
  · have hd : decide ((ns.length : Int) = m) = false := by rw [List.length_map] at h; exact h
    walk_at "xgo"
    unfold isKey at q
    rw [hd, Bool.false_and] at q
    exact q
/-! polynomials: terms in the order they stand in -/
abbrev PT := List (List Int × Int)
abbrev dkv (p : PT) : List (List Key × D) := p.map fun t => (kI t.1, D.int t.2)
abbrev termD (t : List Int × Int) : D := .tup [tI t.1, .int t.2]
def valP (p : PT) (k : List Int) : Option Int := (p.find? fun t => decide (t.1 = k)).map (·.2)
def putP (p : PT) (k : List Int) (v : Int) : PT := if (p.any fun t => decide (t.1 = k)) = true then p.map (fun t => if t.1 = k then (t.1, v) else t) else p ++ [(k, v)]
def dropP (p : PT) (k : List Int) : PT := p.filter fun t => decide (t.1 ≠ k)
theorem kI_eq {a b : List Int} : (kI a = kI b) = (a = b) := propext ⟨kI_inj, fun h => by rw [h]⟩
theorem val_dkv (p : PT) (k : List Int) : valD (dkv p) (kI k) = (valP p k).map D.int := by
  unfold valD valP
  induction p with
  | nil => rfl
  | cons t p ih =>
    show Option.map _ (List.find? _ ((kI t.1, D.int t.2) :: dkv p)) = _
    rw [List.find?_cons, List.find?_cons]
    simp only [kI_eq]
    cases decide (t.1 = k) with
    | true => rfl
    | false => exact ih
theorem put_dkv (p : PT) (k : List Int) (v : Int) : putKD (dkv p) (kI k) (.int v) = dkv (putP p k v) := by
  unfold putKD putP
  have e : ((dkv p).any fun kv => decide (kv.1 = kI k)) = p.any fun t => decide (t.1 = k) := by
    rw [List.any_map]
    refine congrArg (fun f => List.any p f) (funext fun t => ?_)
    simp only [Function.comp, kI_eq]
  rw [e]
  split
  · show List.map _ (List.map _ p) = List.map _ (List.map _ p)
    rw [List.map_map, List.map_map]
    refine List.map_congr_left fun t _ => ?_
    simp only [Function.comp, kI_eq]
    split <;> rfl
  · show List.map _ p ++ _ = List.map _ (p ++ _)
    rw [List.map_append]
    rfl
theorem drop_dkv (p : PT) (k : List Int) : dropKD (dkv p) (kI k) = dkv (dropP p k) := by
  unfold dropKD dropP
  show List.filter _ (List.map _ p) = List.map _ (List.filter _ p)
  rw [List.filter_map]
  refine congrArg (List.map _) (congrArg (fun f => List.filter f p) (funext fun t => ?_))
  simp only [Function.comp, kI_eq, ne_eq]
theorem dkv_at {p : PT} {i : Nat} {k : List Key} {d : D} (h : (dkv p)[i]? = some (k, d)) : ∃ t, p[i]? = some t ∧ k = kI t.1 ∧ d = .int t.2 := by
  rw [List.getElem?_map] at h
  obtain ⟨t, ht, e⟩ := Option.map_eq_some_iff.mp h
  cases e
  exact ⟨t, ht, rfl, rfl⟩
theorem dkv_keys (p : PT) : (dkv p).map (·.1) = (p.map (·.1)).map kI := by
  rw [List.map_map, List.map_map]
  rfl

/-! Poly.__init__ -/
def badTerm (m : Int) (seen : List (List Int)) (t : List Int × Int) : Bool := !isKey t.1 m || decide (t.1 ∈ seen) || decide (t.2 = 0)
/-- the place of the first term that is refused -/
def termDue (m : Int) : List (List Int) → Nat → PT → Option Nat
  | _, _, [] => none
  | seen, i, t :: ts => if badTerm m seen t = true then some i else termDue m (seen ++ [t.1]) (i + 1) ts
abbrev pfs (m : Int) (a : Addr) (p : PT) : List (Str × D) := [("width", .int m), ("table", .dt a (dkv p))]
abbrev polyD (mg : Str → Option Value) (m : Int) (a : Addr) (p : PT) : D := .ins (clsA mg "Poly") (pfs m a p)
def TermsIn (M : Mm) (ts : PT) (x : D) : Prop := x = .lst (ts.map termD) ∨ x = .tup (ts.map termD) ∨ ∃ a, x = .ref a ∧ Has M a (.lst (ts.map termD))
def PSz (ts : PT) : Prop := ts.length ≤ 1000 ∧ ∀ t ∈ ts, t.1.length ≤ 1000
def S_pinit (mg : Str → Option Value) : DX := fun ds M R Z => ∃ (s : Addr) (M0 : Mm) (m : Int) (ts : PT) (x : D), ds = [.ref s, .int m, x] ∧ M = (s, .ins (clsA mg "Poly") []) :: M0 ∧ TermsIn M0 ts x ∧ PSz ts ∧
  match termDue m [] 0 ts with
  | some i => Z (.ref (clsA mg "InvalidTerm")) [("at", .int i), ("tag", .str "InvalidTerm")] M0
  | none => ∀ a, (∀ od, (a, MO.lck od) ∉ M0) → R .non ((s, .ins (clsA mg "Poly") (pfs m a ts)) :: M0)
theorem term_at {ts : PT} {i : Nat} {d : D} (h : (ts.map termD)[i]? = some d) : ∃ t, ts[i]? = some t ∧ d = termD t ∧ t ∈ ts := by
  rw [List.getElem?_map] at h
  obtain ⟨t, ht, e⟩ := Option.map_eq_some_iff.mp h
  exact ⟨t, ht, e.symm, List.mem_of_getElem? ht⟩
theorem valP_none {p : PT} {k : List Int} (h : k ∉ p.map (·.1)) : valP p k = none := by
  unfold valP
  rw [List.find?_eq_none.mpr fun t ht => ?_]
  · rfl
  · have : t.1 ≠ k := fun e => h (e ▸ List.mem_map_of_mem ht)
    simpa using this
theorem valP_some {p : PT} {k : List Int} (h : k ∈ p.map (·.1)) : (valP p k).isSome = true := by
  obtain ⟨t, ht, rfl⟩ := List.mem_map.mp h
  unfold valP
  rw [Option.isSome_map, List.find?_isSome]
  exact ⟨t, ht, by simp⟩
theorem valP_dec (p : PT) (k : List Int) : (valP p k).isSome = decide (k ∈ p.map (·.1)) := by
  by_cases h : k ∈ p.map (·.1)
  · rw [valP_some h, decide_eq_true h]
  · rw [valP_none h, decide_eq_false h]
    rfl
theorem put_newP {p : PT} {k : List Int} {v : Int} (h : k ∉ p.map (·.1)) : putP p k v = p ++ [(k, v)] := by
  unfold putP
  rw [if_neg]
  rw [Bool.not_eq_true, List.any_eq_false]
  intro t ht
  have : t.1 ≠ k := fun e => h (e ▸ List.mem_map_of_mem ht)
  simpa using this
theorem due_step {m : Int} {ts : PT} {i : Nat} {t : List Int × Int} (h : ts[i]? = some t) (hd : termDue m [] 0 ts = termDue m ((ts.take i).map (·.1)) i (ts.drop i)) :
    termDue m [] 0 ts = if badTerm m ((ts.take i).map (·.1)) t = true then some i else termDue m ((ts.take (i + 1)).map (·.1)) (i + 1) (ts.drop (i + 1)) := by
  obtain ⟨hi, e⟩ := List.getElem?_eq_some_iff.mp h
  rw [hd, List.drop_eq_getElem_cons hi, e, List.take_add_one, h, List.map_append]
  rfl
set_option maxHeartbeats 4000000 in
theorem g_Poly_init (T : Top P K mg) : GMx P w K mg base 3 "Poly" "__init__" p_Poly_init (S_pinit mg) := by
  refine mx_ok T.m_Poly_init sc_Poly_init (by rintro ds M R Z ⟨s, M0, m, ts, x, rfl, _⟩; rfl) fun f0 cdv A outer s H E hr => ⟨_, (pss_cons (ps_set (i := 3) sc_Poly_init.nd rfl (by first | exact Or.inl rfl | exact Or.inr rfl) pe_dnewT) (pss_cons (ps_for (passes_of rfl) (by rfl) (pi_alt (pi_enumK K T.b_enumerate (pa_cons (pv 2) pa_nil)) (pi_enumTK K T.b_enumerate (pa_cons (pv 2) pa_nil))) (pg_tupK K (n := 2) (pgs_cons (pg_name (i := 4) sc_Poly_init.nd rfl (by first | exact Or.inl rfl | exact Or.inr rfl)) (pgs_cons (pg_tupK K (n := 2) (pgs_cons (pg_name (i := 5) sc_Poly_init.nd rfl (by first | exact Or.inl rfl | exact Or.inr rfl)) (pgs_cons (pg_name (i := 6) sc_Poly_init.nd rfl (by first | exact Or.inl rfl | exact Or.inr rfl)) pgs_nil))) pgs_nil))) (pss_cons (ps_if (PW.pt (pw_or (pt_not (pt_val (pe_gK (g_is_key T) (hr.mono (by decide)) (pa_cons (pv 5) (pa_cons (pv 1) pa_nil))))) (pw_or (pt_cmp (pc_din (hu_of hr) (pv 5) (pv 3))) (pw_or1 (pt_cmpR op_eq (pv 6) pe_int (nomark _)))))) (pss_one (ps_raiseE (g_InvalidTerm T) (hr.mono (by decide)) (pa_cons (pv 4) pa_nil))) pss_nil) (pss_one (ps_dput (hu_of hr) (pv 3) (pv 5) (pv 6) (by rfl))))) (pss_cons (ps_fldC T.k_Poly.cls T.n_Poly_width (pv 0) (pv 1)) (pss_one (ps_fldC T.k_Poly.cls T.n_Poly_table (pv 0) (pv 3)))))), ?_⟩
  rintro bs ds M R Z ⟨s0, M0, m, ts, x, rfl, rfl, hx, ⟨hl, hsz⟩, q⟩ hE0
  show Xs K _ _ [some (.ref s0), some (.int m), some x, none, none, none, none] _
  have hE := hE0.few
  walk_at "xgo"
  refine xe_dnewT fun p => ?_
  walk_at "xgo"
  refine ys_to (fun ρ' M' => ∃ x4 x5 x6, ρ' = [some (.ref s0), some (.int m), some x, some (.ref p), x4, x5, x6] ∧ M' = (p, .dt (dkv ts)) :: (s0, .ins (clsA mg "Poly") []) :: M0 ∧ termDue m [] 0 ts = none) ?_ ?_
  · refine ys_for allV ?_
    rcases hx with rfl | rfl | ⟨a, rfl, ha⟩
    · refine xi_altL ?_
      refine xi_enum ?_
      walk_at "xgo"
      refine ⟨fun i ρ' M' => ∃ x4 x5 x6, ρ' = [some (.ref s0), some (.int m), some (.lst (ts.map termD)), some (.ref p), x4, x5, x6] ∧ M' = (p, .dt (dkv (ts.take i))) :: (s0, .ins (clsA mg "Poly") []) :: M0 ∧ termDue m [] 0 ts = termDue m ((ts.take i).map (·.1)) i (ts.drop i),
        ⟨_, _, _, rfl, rfl, rfl⟩, fun _ _ _ _ _ => trivial, ?_, ?_⟩
      · rintro i d ρ' M' hi ⟨d2, hd2, rfl⟩ ⟨x4, x5, x6, rfl, rfl, hdue⟩
        obtain ⟨t, ht, rfl, hm⟩ := term_at hd2
        have hstep := due_step ht hdue
        have z1 := hsz t hm
        walk_at "xgo"
        refine ys_if ?_
        walk_at "xgo"
        have hil : i < ts.length := (List.getElem?_eq_some_iff.mp ht).1
        have fail : badTerm m ((ts.take i).map (·.1)) t = true → Z (.ref (clsA mg "InvalidTerm")) [("at", .int i), ("tag", .str "InvalidTerm")] M0 := fun hb => by
          rw [if_pos hb] at hstep
          rw [hstep] at q
          exact q
        refine ⟨t.1, m, rfl, z1, ?_⟩
        cases hk : isKey t.1 m with
        | false =>
          have hb : badTerm m ((ts.take i).map (·.1)) t = true := by unfold badTerm; rw [hk]; rfl
          walk_at "xgo"
          exact ⟨sub2, fail hb⟩
        | true =>
          walk_at "xgo"
          refine ⟨_, kI t.1, .mt .head, (tD_kI _).symm, ?_⟩
          rw [val_dkv, Option.isSome_map, valP_dec]
          cases hin : decide (t.1 ∈ (ts.take i).map (·.1)) with
          | true =>
            have hb : badTerm m ((ts.take i).map (·.1)) t = true := by unfold badTerm; rw [hk, hin]; rfl
            walk_at "xgo"
            exact ⟨sub2, fail hb⟩
          | false =>
            walk_at "xgo"
            refine ⟨fun h0 => ?_, fun h0 => ?_⟩
            · have hb : badTerm m ((ts.take i).map (·.1)) t = true := by unfold badTerm; rw [hk, hin, h0]; rfl
              walk_at "xgo"
              exact ⟨sub2, fail hb⟩
            · have hb : badTerm m ((ts.take i).map (·.1)) t = false := by unfold badTerm; rw [hk, hin, h0]; rfl
              rw [hb, if_neg Bool.false_ne_true] at hstep
              have e2 : putKD (dkv (ts.take i)) (kI t.1) (.int t.2) = dkv (ts.take (i + 1)) := by
                rw [put_dkv, put_newP (of_decide_eq_false hin), List.take_add_one, ht]
                rfl
              walk_at "xgo"
              refine ⟨p, _, kI t.1, _, rfl, (tD_kI _).symm, .head, by simp; omega, .head, ?_⟩
              rw [e2]
              exact ⟨_, _, _, rfl, rfl, hstep⟩
      · rintro ρ' M' ⟨x4, x5, x6, rfl, rfl, hdue⟩
        rw [List.length_map, List.drop_length] at hdue
        exact ⟨_, _, _, rfl, by rw [List.length_map, List.take_length], hdue⟩
    · refine xi_altR ?_
      refine xi_enumT ?_
      walk_at "xgo"
      refine ⟨fun i ρ' M' => ∃ x4 x5 x6, ρ' = [some (.ref s0), some (.int m), some (.tup (ts.map termD)), some (.ref p), x4, x5, x6] ∧ M' = (p, .dt (dkv (ts.take i))) :: (s0, .ins (clsA mg "Poly") []) :: M0 ∧ termDue m [] 0 ts = termDue m ((ts.take i).map (·.1)) i (ts.drop i),
        ⟨_, _, _, rfl, rfl, rfl⟩, fun _ _ _ _ _ => trivial, ?_, ?_⟩
      · rintro i d ρ' M' hi ⟨d2, hd2, rfl⟩ ⟨x4, x5, x6, rfl, rfl, hdue⟩
        obtain ⟨t, ht, rfl, hm⟩ := term_at hd2
        have hstep := due_step ht hdue
        have z1 := hsz t hm
        walk_at "xgo"
        refine ys_if ?_
        walk_at "xgo"
        have hil : i < ts.length := (List.getElem?_eq_some_iff.mp ht).1
        have fail : badTerm m ((ts.take i).map (·.1)) t = true → Z (.ref (clsA mg "InvalidTerm")) [("at", .int i), ("tag", .str "InvalidTerm")] M0 := fun hb => by
          rw [if_pos hb] at hstep
          rw [hstep] at q
          exact q
        refine ⟨t.1, m, rfl, z1, ?_⟩
        cases hk : isKey t.1 m with
        | false =>
          have hb : badTerm m ((ts.take i).map (·.1)) t = true := by unfold badTerm; rw [hk]; rfl
          walk_at "xgo"
          exact ⟨sub2, fail hb⟩
        | true =>
          walk_at "xgo"
          refine ⟨_, kI t.1, .mt .head, (tD_kI _).symm, ?_⟩
          rw [val_dkv, Option.isSome_map, valP_dec]
          cases hin : decide (t.1 ∈ (ts.take i).map (·.1)) with
          | true =>
            have hb : badTerm m ((ts.take i).map (·.1)) t = true := by unfold badTerm; rw [hk, hin]; rfl
            walk_at "xgo"
            exact ⟨sub2, fail hb⟩
          | false =>
            walk_at "xgo"
            refine ⟨fun h0 => ?_, fun h0 => ?_⟩
            · have hb : badTerm m ((ts.take i).map (·.1)) t = true := by unfold badTerm; rw [hk, hin, h0]; rfl
              walk_at "xgo"
              exact ⟨sub2, fail hb⟩
            · have hb : badTerm m ((ts.take i).map (·.1)) t = false := by unfold badTerm; rw [hk, hin, h0]; rfl
              rw [hb, if_neg Bool.false_ne_true] at hstep
              have e2 : putKD (dkv (ts.take i)) (kI t.1) (.int t.2) = dkv (ts.take (i + 1)) := by
                rw [put_dkv, put_newP (of_decide_eq_false hin), List.take_add_one, ht]
                rfl
              walk_at "xgo"
              refine ⟨p, _, kI t.1, _, rfl, (tD_kI _).symm, .head, by simp; omega, .head, ?_⟩
              rw [e2]
              exact ⟨_, _, _, rfl, rfl, hstep⟩
      · rintro ρ' M' ⟨x4, x5, x6, rfl, rfl, hdue⟩
        rw [List.length_map, List.drop_length] at hdue
        exact ⟨_, _, _, rfl, by rw [List.length_map, List.take_length], hdue⟩
    · refine xi_altL ?_
      refine xi_enumM ?_
      walk_at "xgo"
      refine ⟨a, _, rfl, .tail (.tail ha), ?_⟩
      refine ⟨fun i ρ' M' => ∃ x4 x5 x6, ρ' = [some (.ref s0), some (.int m), some (.ref a), some (.ref p), x4, x5, x6] ∧ M' = (p, .dt (dkv (ts.take i))) :: (s0, .ins (clsA mg "Poly") []) :: M0 ∧ termDue m [] 0 ts = termDue m ((ts.take i).map (·.1)) i (ts.drop i),
        ⟨_, _, _, rfl, rfl, rfl⟩, (fun _ _ _ _ h => by obtain ⟨_, _, _, _, rfl, _⟩ := h; exact .tail (.tail ha)), ?_, ?_⟩
      · rintro i d ρ' M' hi ⟨d2, hd2, rfl⟩ ⟨x4, x5, x6, rfl, rfl, hdue⟩
        obtain ⟨t, ht, rfl, hm⟩ := term_at hd2
        have hstep := due_step ht hdue
        have z1 := hsz t hm
        walk_at "xgo"
        refine ys_if ?_
        walk_at "xgo"
        have hil : i < ts.length := (List.getElem?_eq_some_iff.mp ht).1
        have fail : badTerm m ((ts.take i).map (·.1)) t = true → Z (.ref (clsA mg "InvalidTerm")) [("at", .int i), ("tag", .str "InvalidTerm")] M0 := fun hb => by
          rw [if_pos hb] at hstep
          rw [hstep] at q
          exact q
        refine ⟨t.1, m, rfl, z1, ?_⟩
        cases hk : isKey t.1 m with
        | false =>
          have hb : badTerm m ((ts.take i).map (·.1)) t = true := by unfold badTerm; rw [hk]; rfl
          walk_at "xgo"
          exact ⟨sub2, fail hb⟩
        | true =>
          walk_at "xgo"
          refine ⟨_, kI t.1, .mt .head, (tD_kI _).symm, ?_⟩
          rw [val_dkv, Option.isSome_map, valP_dec]
          cases hin : decide (t.1 ∈ (ts.take i).map (·.1)) with
          | true =>
            have hb : badTerm m ((ts.take i).map (·.1)) t = true := by unfold badTerm; rw [hk, hin]; rfl
            walk_at "xgo"
            exact ⟨sub2, fail hb⟩
          | false =>
            walk_at "xgo"
            refine ⟨fun h0 => ?_, fun h0 => ?_⟩
            · have hb : badTerm m ((ts.take i).map (·.1)) t = true := by unfold badTerm; rw [hk, hin, h0]; rfl
              walk_at "xgo"
              exact ⟨sub2, fail hb⟩
            · have hb : badTerm m ((ts.take i).map (·.1)) t = false := by unfold badTerm; rw [hk, hin, h0]; rfl
              rw [hb, if_neg Bool.false_ne_true] at hstep
              have e2 : putKD (dkv (ts.take i)) (kI t.1) (.int t.2) = dkv (ts.take (i + 1)) := by
                rw [put_dkv, put_newP (of_decide_eq_false hin), List.take_add_one, ht]
                rfl
              walk_at "xgo"
              refine ⟨p, _, kI t.1, _, rfl, (tD_kI _).symm, .head, by simp; omega, .head, ?_⟩
              rw [e2]
              exact ⟨_, _, _, rfl, rfl, hstep⟩
      · rintro ρ' M' ⟨x4, x5, x6, rfl, rfl, hdue⟩
        rw [List.length_map, List.drop_length] at hdue
        exact ⟨_, _, _, rfl, by rw [List.length_map, List.take_length], hdue⟩
  rintro ρ' M' ⟨x4, x5, x6, rfl, rfl, hdue⟩
  rw [hdue] at q
  refine xs_frzT .head (.same (.same (.same (.sub (.same (.same (.same .nil))))))) fun hn => ?_
  walk_at "xgo"
  refine ⟨s0, _, _, rfl, .head, Nat.le_of_ble_eq_true rfl, .head, ?_⟩
  walk_at "xgo"
  refine ⟨s0, _, _, rfl, .head, Nat.le_of_ble_eq_true rfl, .head, ?_⟩
  exact q p fun od z => hn od (List.mem_cons_of_mem _ z)

/-! _law_padd -/
def addStep (two : PT) (sg : Int) (f : PT) (t : List Int × Int) : PT :=
  let v := (valP f t.1).getD 0 + sg * t.2
  let f1 := putP f t.1 v
  if v = 0 then dropP f1 t.1 else f1
def paddP (one two : PT) (sg : Int) : PT := two.foldl (addStep two sg) one
theorem valP_put_same (p : PT) (k : List Int) (v : Int) : valP (putP p k v) k = some v := by
  unfold valP putP
  split
  · rename_i h
    induction p with
    | nil => cases h
    | cons t p ih =>
      rw [List.map_cons, List.find?_cons]
      by_cases e : t.1 = k
      · rw [if_pos e]
        simp [e]
      · rw [if_neg e]
        simp only [e, decide_false]
        refine ih ?_
        rw [List.any_cons] at h
        simpa [e] using h
  · rename_i h
    rw [List.find?_append]
    have : p.find? (fun t => decide (t.1 = k)) = none := by
      rw [List.find?_eq_none]
      intro t ht e
      exact h (List.any_eq_true.mpr ⟨t, ht, e⟩)
    rw [this]
    simp
theorem nodup_at {p : PT} (h : (p.map (·.1)).Nodup) {i : Nat} {t : List Int × Int} (ht : p[i]? = some t) : valP p t.1 = some t.2 := by
  have hm := List.mem_of_getElem? ht
  unfold valP
  clear ht
  induction p with
  | nil => cases hm
  | cons u p ih =>
    rw [List.map_cons, List.nodup_cons] at h
    rw [List.find?_cons]
    rcases List.mem_cons.mp hm with e | hm
    · rw [← e]
      simp
    · have : u.1 ≠ t.1 := fun e => h.1 (e ▸ List.mem_map_of_mem hm)
      simp only [this, decide_false]
      exact ih h.2 hm
/-- tables that the law's functions get: few terms, their keys differ, so do the keys' hashes -/
structure TabOk (P : Program) (w : World) (p : PT) : Prop where
  few : p.length ≤ 1000
  nd : (p.map (·.1)).Nodup
  ha : HashApart P w ((p.map (·.1)).map kI)
def S_padd (P : Program) (w : World) : DS := fun ds M R => ∃ (p q : PT) (x : D) (b : Addr) (sg : Int), ds = [x, .dt b (dkv q), .int sg] ∧ (sg = 1 ∨ sg = -1) ∧ DcT M x (dkv p) ∧ TabOk P w p ∧ (q.map (·.1)).Nodup ∧ q.length ≤ 1000 ∧ (∀ od, (b, MO.lck od) ∉ M) ∧
  ∀ a, (∀ od, (a, MO.lck od) ∉ M) → R (.dt a (dkv (paddP p q sg))) M
theorem put_len (p : PT) (k : List Int) (v : Int) : (putP p k v).length ≤ p.length + 1 := by
  unfold putP
  split
  · rw [List.length_map]; omega
  · simp
theorem addStep_len (two : PT) (sg : Int) (f : PT) (t : List Int × Int) : (addStep two sg f t).length ≤ f.length + 1 := by
  unfold addStep
  simp only []
  split
  · exact Nat.le_trans (List.length_filter_le _ _) (put_len _ _ _)
  · exact put_len _ _ _
theorem fold_len (two : PT) (sg : Int) : ∀ (l f : PT), (l.foldl (addStep two sg) f).length ≤ f.length + l.length
  | [], _ => Nat.le_refl _
  | t :: l, f => by
    have h1 := fold_len two sg l (addStep two sg f t)
    have h2 := addStep_len two sg f t
    show (l.foldl (addStep two sg) (addStep two sg f t)).length ≤ _
    rw [List.length_cons]
    omega
set_option maxHeartbeats 4000000 in
theorem g__law_padd (T : Top P K mg) : GFn P w K mg base 1 "_law_padd" p__law_padd (S_padd P w) := by
  refine g_ok T.f__law_padd sc__law_padd (by rintro ds M R ⟨p, q, x, b, sg, rfl, _⟩; rfl) fun f0 cdv A outer s H E hr => ⟨_, (pss_cons (ps_set (i := 3) sc__law_padd.nd rfl (by first | exact Or.inl rfl | exact Or.inr rfl) (pe_callTy (c_dictT (hu3_of hr)) (by rfl) T.b_dict (by decide +kernel) (pa_cons (pv 0) pa_nil))) (pss_cons (ps_lock (ps_for PassesOwn.never (by rfl) (pi_keys (pv 1)) (pg_name (i := 4) sc__law_padd.nd rfl (by first | exact Or.inl rfl | exact Or.inr rfl)) (pss_cons (ps_dput (hu_of hr) (pv 3) (pv 4) (pe_op (k_addU K) (pe_dget2 (hu_of hr) (pv 3) (pv 4) pe_int ⟨rfl, rfl, rfl, rfl⟩) (pe_op op_mulU (pv 2) (pe_dget (hu_of hr) (pv 1) (pv 4) (fun _ _ => rfl)))) (by rfl)) (pss_one (ps_if (pt_cmpR op_eq (pe_dget (hu_of hr) (pv 3) (pv 4) (fun _ _ => rfl)) pe_int (nomark _)) (pss_one (ps_expr (pe_bmK K PySem.F.plainAttrs_dict PySem.F.slot_dict_pop PySem.F.type_dict_pop (mt_pop1T (hu_of hr)) (pv 3) (pa_cons (pv 4) pa_nil)))) pss_nil))))) (pss_one (ps_ret (pv 3))))), ?_⟩
  rintro ds M R ⟨p, q, x, b, sg, rfl, hsg, hp, ok, qd, ql, hb, r⟩
  show Xs K _ _ [some x, some (.dt b (dkv q)), some (.int sg), none, none] _
  walk_at "xgo"
  refine xc_dictT hp (by rw [dkv_keys]; exact ok.ha) fun a => ?_
  walk_at "xgo"
  refine ys_lockT (kn_varT (i := 1) rfl) (fun od z => ?_) fun od => ?_
  · rcases List.mem_cons.mp z with e | z
    · cases e
    · exact hb od z
  refine ys_for allV ?_
  refine xi_keysT ?_
  walk_at "xgo"
  refine ⟨b, dkv q, od, rfl, .head, ?_⟩
  refine ⟨fun i ρ' M' => ∃ x4, ρ' = [some x, some (.dt b (dkv q)), some (.int sg), some (.ref a), x4] ∧ M' = (b, .lck od) :: (a, .dt (dkv ((q.take i).foldl (addStep q sg) p))) :: M, ⟨_, rfl, rfl⟩, ?_, ?_, ?_⟩
  · rintro i ρ' M' hi ⟨x4, rfl, rfl⟩
    exact .head
  · rintro i d ρ' M' hi ⟨k, v, hkv, rfl⟩ ⟨x4, rfl, rfl⟩
    obtain ⟨t, ht, rfl, rfl⟩ := dkv_at hkv
    have hil : i < q.length := (List.getElem?_eq_some_iff.mp ht).1
    have hfl := fold_len q sg (q.take i) p
    rw [List.length_take, Nat.min_eq_left (Nat.le_of_lt hil)] at hfl
    have hpf := ok.few
    have hnext : (q.take (i + 1)).foldl (addStep q sg) p = addStep q sg ((q.take i).foldl (addStep q sg) p) t := by
      rw [List.take_add_one, ht, List.foldl_append]
      rfl
    generalize (q.take i).foldl (addStep q sg) p = f at hnext hfl ⊢
    walk_at "xgo"
    refine ⟨⟨_, .mt (.tail .head)⟩, ?_⟩
    walk_at "xgo"
    refine ⟨dkv f, kI t.1, .mt (.tail .head), rfl, ?_⟩
    have eg : (valD (dkv f) (kI t.1)).getD (D.int 0) = .int ((valP f t.1).getD 0) := by
      rw [val_dkv]
      cases valP f t.1 <;> rfl
    rw [eg]
    walk_at "xgo"
    refine ⟨dkv q, kI t.1, .int t.2, .fr b _, rfl, by rw [val_dkv, nodup_at qd ht]; rfl, ?_⟩
    have hs : sg.natAbs < 18446744073709551616 := by rcases hsg with rfl | rfl <;> decide
    walk_at "xgo"
    refine ⟨a, dkv f, kI t.1, _, rfl, rfl, .tail .head, by rw [List.length_map]; omega, .tail .head, ?_⟩
    rw [put_dkv]
    generalize hw : (valP f t.1).getD 0 + sg * t.2 = v at *
    have hv2 := valP_put_same f t.1 v
    refine ys_if ?_
    walk_at "xgo"
    refine ⟨dkv (putP f t.1 v), kI t.1, .int v, .mt (.tail .head), rfl, by rw [val_dkv, hv2]; rfl, ?_⟩
    have hadd : addStep q sg f t = if v = 0 then dropP (putP f t.1 v) t.1 else putP f t.1 v := by
      unfold addStep
      simp only [hw]
    walk_at "xgo"
    refine ⟨fun h0 => ?_, fun h0 => ?_⟩
    · rw [if_pos (of_decide_eq_true h0)] at hadd
      walk_at "xgo"
      refine ⟨.dtM (.tail .head), ?_⟩
      walk_at "xgo"
      refine xm_pop1T (.tail .head) (d := .int v) (by rw [val_dkv, hv2]; rfl) (.tail .head) ?_
      rw [drop_dkv]
      exact ⟨_, rfl, by rw [hnext, hadd]⟩
    · rw [if_neg (of_decide_eq_false h0)] at hadd
      walk_at "xgo"
      rw [hnext, hadd]
  · rintro ρ' M' ⟨x4, rfl, rfl⟩
    refine ⟨_, .head, ?_⟩
    refine xs_frzT .head (.same (.same (.same (.sub (.same .nil))))) fun hn => ?_
    walk_at "xgo"
    have e : q.take (dkv q).length = q := by rw [List.length_map, List.take_length]
    rw [e]
    exact r a hn

/-! tuples of at most five exponents: their hashes differ -/
def keysOf : Nat → Nat → List (List Int)
  | 0, _ => [[]]
  | n + 1, d => (List.range (d + 1)).flatMap fun x => (keysOf n (d - x)).map ((x : Int) :: ·)
def KeyIn (n d : Nat) (k : List Int) : Prop := k.length = n ∧ (∀ x ∈ k, 0 ≤ x) ∧ k.sum ≤ d
theorem KeyIn.mem : ∀ {n d : Nat} {k : List Int}, KeyIn n d k → k ∈ keysOf n d
  | 0, d, k, ⟨h, _, _⟩ => by
    rw [List.length_eq_zero_iff.mp h]
    exact List.mem_singleton.mpr rfl
  | n + 1, d, [], ⟨h, _, _⟩ => by cases h
  | n + 1, d, x :: k, ⟨h, h0, hs⟩ => by
    have hx := h0 x List.mem_cons_self
    have hk : ∀ y ∈ k, 0 ≤ y := fun y hy => h0 y (List.mem_cons_of_mem _ hy)
    have hp : 0 ≤ k.sum := by
      clear h h0 hs hx
      induction k with
      | nil => exact Int.le_refl 0
      | cons y k ih =>
        rw [List.sum_cons]
        have := hk y List.mem_cons_self
        have := ih fun z hz => hk z (List.mem_cons_of_mem _ hz)
        omega
    rw [List.sum_cons] at hs
    obtain ⟨m, rfl⟩ := Int.eq_ofNat_of_zero_le hx
    refine List.mem_flatMap.mpr ⟨m, List.mem_range.mpr (by omega), List.mem_map.mpr ⟨k, ?_, rfl⟩⟩
    refine KeyIn.mem ⟨by rw [List.length_cons] at h; omega, hk, by omega⟩
def hI (k : List Int) : Int := reduceHash (Builtin.Tuple.tupleHashOf (k.map hashInt))
def okBits : List Nat → Nat → Bool
  | [], _ => true
  | a :: l, m => !(m.testBit a) && okBits l (m ||| 1 <<< a)
theorem okBits_nd : ∀ {l : List Nat} {m : Nat}, okBits l m = true → l.Nodup ∧ ∀ a ∈ l, m.testBit a = false
  | [], m, _ => ⟨List.nodup_nil, fun _ h => nomatch h⟩
  | a :: l, m, h => by
    unfold okBits at h
    rw [Bool.and_eq_true, Bool.not_eq_true'] at h
    obtain ⟨h1, h2⟩ := okBits_nd h.2
    refine ⟨List.nodup_cons.mpr ⟨fun ha => ?_, h1⟩, fun b hb => ?_⟩
    · have := h2 a ha
      rw [Nat.testBit_or, Nat.testBit_shiftLeft] at this
      simp at this
    · rcases List.mem_cons.mp hb with rfl | hb
      · exact h.1
      · have := h2 b hb
        rw [Nat.testBit_or, Bool.or_eq_false_iff] at this
        exact this.1
def bitsOf (n m : Nat) : Bool := okBits ((keysOf n 6).map fun k => (hI k % (m : Int)).toNat) 0
theorem hI_inj6 : ∀ {n : Nat}, n ≤ 5 → ∃ m, bitsOf n m = true
  | 0, _ => ⟨11540, by decide +kernel⟩
  | 1, _ => ⟨11540, by decide +kernel⟩
  | 2, _ => ⟨11540, by decide +kernel⟩
  | 3, _ => ⟨11540, by decide +kernel⟩
  | 4, _ => ⟨2389, by decide +kernel⟩
  | 5, _ => ⟨11540, by decide +kernel⟩
  | n + 6, h => by omega
theorem nd_inj {α β : Type} {f : α → β} : ∀ {l : List α}, (l.map f).Nodup → ∀ {a b : α}, a ∈ l → b ∈ l → f a = f b → a = b
  | [], _, _, _, h, _, _ => nomatch h
  | x :: l, h, a, b, ha, hb, e => by
    rw [List.map_cons, List.nodup_cons] at h
    rcases List.mem_cons.mp ha with e1 | h1
    · rcases List.mem_cons.mp hb with e2 | h2
      · rw [e1, e2]
      · rw [← e1, e] at h
        exact absurd (List.mem_map_of_mem h2) h.1
    · rcases List.mem_cons.mp hb with e2 | h2
      · rw [← e2, ← e] at h
        exact absurd (List.mem_map_of_mem h1) h.1
      · exact nd_inj h.2 h1 h2 e
theorem hI_inj {n : Nat} (hn : n ≤ 5) {a b : List Int} (ha : KeyIn n 6 a) (hb : KeyIn n 6 b) (e : hI a = hI b) : a = b := by
  obtain ⟨m, h⟩ := hI_inj6 hn
  exact nd_inj (okBits_nd h).1 ha.mem hb.mem (by simp only [e])
theorem kI_hash (P : Program) (w : World) (k : List Int) : (tupleKind (mixKind P w)).hash (kI k) = hI k := by
  show reduceHash (Builtin.Tuple.tupleHashOf ((k.map _).map _)) = _
  rw [List.map_map]
  rfl
theorem nodup_map {α β : Type} {f : α → β} : ∀ {l : List α}, l.Nodup → (∀ a ∈ l, ∀ b ∈ l, f a = f b → a = b) → (l.map f).Nodup
  | [], _, _ => List.nodup_nil
  | x :: l, h, hi => by
    rw [List.nodup_cons] at h
    rw [List.map_cons, List.nodup_cons]
    refine ⟨fun hm => ?_, nodup_map h.2 fun a ha b hb => hi a (List.mem_cons_of_mem _ ha) b (List.mem_cons_of_mem _ hb)⟩
    obtain ⟨y, hy, e⟩ := List.mem_map.mp hm
    rw [hi y (List.mem_cons_of_mem _ hy) x List.mem_cons_self e] at hy
    exact h.1 hy
theorem apart_of (P : Program) (w : World) {n : Nat} (hn : n ≤ 5) {ks : List (List Int)} (hk : ∀ k ∈ ks, KeyIn n 6 k) (nd : ks.Nodup) : HashApart P w (ks.map kI) := by
  show ((ks.map kI).map _).Nodup
  rw [List.map_map]
  refine nodup_map nd fun a ha b hb e => hI_inj hn (hk a ha) (hk b hb) ?_
  simp only [Function.comp, kI_hash] at e
  exact e

/-! polynomials of few terms -/
structure PolyIn (n d s c : Nat) (p : PT) : Prop where
  nd : (p.map (·.1)).Nodup
  ks : ∀ t ∈ p, KeyIn n d t.1
  vs : ∀ t ∈ p, t.2 ≠ 0 ∧ t.2.natAbs ≤ c
  len : p.length ≤ s
theorem PolyIn.nil (n d s c : Nat) : PolyIn n d s c [] := ⟨List.nodup_nil, fun _ h => (nomatch h), fun _ h => (nomatch h), Nat.zero_le _⟩
theorem PolyIn.up {n d s c s2 c2 : Nat} {p : PT} (h : PolyIn n d s c p) (h1 : s ≤ s2) (h2 : c ≤ c2) : PolyIn n d s2 c2 p := ⟨h.nd, h.ks, fun t ht => ⟨(h.vs t ht).1, Nat.le_trans (h.vs t ht).2 h2⟩, Nat.le_trans h.len h1⟩
theorem KeyIn.up {n d d2 : Nat} {k : List Int} (h : KeyIn n d k) (hd : d ≤ d2) : KeyIn n d2 k := ⟨h.1, h.2.1, by have := h.2.2; omega⟩
theorem PolyIn.tab {n d s c : Nat} {p : PT} (P : Program) (w : World) (h : PolyIn n d s c p) (hn : n ≤ 5) (hd : d ≤ 6) (hs : s ≤ 1000) : TabOk P w p :=
  ⟨Nat.le_trans h.len hs, h.nd, apart_of P w hn (fun k hk => by obtain ⟨t, ht, rfl⟩ := List.mem_map.mp hk; exact (h.ks t ht).up hd) h.nd⟩
theorem putP_keys (p : PT) (k : List Int) (v : Int) : (putP p k v).map (·.1) = if k ∈ p.map (·.1) then p.map (·.1) else p.map (·.1) ++ [k] := by
  unfold putP
  by_cases h : k ∈ p.map (·.1)
  · rw [if_pos h, if_pos]
    · rw [List.map_map]
      refine List.map_congr_left fun t _ => ?_
      simp only [Function.comp]
      split <;> rfl
    · obtain ⟨t, ht, rfl⟩ := List.mem_map.mp h
      exact List.any_eq_true.mpr ⟨t, ht, by simp⟩
  · rw [if_neg h, if_neg]
    · rw [List.map_append]; rfl
    · rw [Bool.not_eq_true, List.any_eq_false]
      intro t ht
      have : t.1 ≠ k := fun e => h (e ▸ List.mem_map_of_mem ht)
      simpa using this
theorem putP_mem {p : PT} {k : List Int} {v : Int} {t : List Int × Int} (h : t ∈ putP p k v) : t = (k, v) ∨ (t ∈ p ∧ t.1 ≠ k) := by
  unfold putP at h
  split at h
  · obtain ⟨u, hu, e⟩ := List.mem_map.mp h
    split at e
    · rename_i e2
      rw [e2] at e
      exact .inl e.symm
    · rename_i e2
      rw [← e]
      exact .inr ⟨hu, e2⟩
  · rename_i hn
    rcases List.mem_append.mp h with h | h
    · refine .inr ⟨h, fun e => ?_⟩
      exact hn (List.any_eq_true.mpr ⟨t, h, by simp [e]⟩)
    · exact .inl (List.mem_singleton.mp h)
theorem putP_nd {p : PT} (h : (p.map (·.1)).Nodup) (k : List Int) (v : Int) : ((putP p k v).map (·.1)).Nodup := by
  rw [putP_keys]
  split
  · exact h
  · rename_i hk
    rw [List.nodup_append]
    exact ⟨h, by simp, fun a ha b hb e => hk (by rw [List.mem_singleton.mp hb] at e; rw [← e]; exact ha)⟩
theorem dropP_nd {p : PT} (h : (p.map (·.1)).Nodup) (k : List Int) : ((dropP p k).map (·.1)).Nodup := by
  exact h.sublist ((List.filter_sublist).map _)
theorem valP_mem {p : PT} {k : List Int} {v : Int} (h : valP p k = some v) : (k, v) ∈ p := by
  unfold valP at h
  obtain ⟨t, ht, e⟩ := Option.map_eq_some_iff.mp h
  have h1 := List.mem_of_find?_eq_some ht
  have h2 := List.find?_some ht
  rw [decide_eq_true_iff] at h2
  rw [← h2, ← e]
  exact h1
theorem addStep_nd {two : PT} {sg : Int} {f : PT} {t : List Int × Int} (h : (f.map (·.1)).Nodup) : ((addStep two sg f t).map (·.1)).Nodup := by
  unfold addStep
  simp only []
  split
  · exact dropP_nd (putP_nd h _ _) _
  · exact putP_nd h _ _
theorem addStep_in {n d s c c1 : Nat} {two : PT} {sg : Int} {f : PT} {k : List Int} {v : Int} (h : PolyIn n d s c f) (hk : KeyIn n d k) (hv : v.natAbs ≤ c1) (hs : sg = 1 ∨ sg = -1) : PolyIn n d (s + 1) (c + c1) (addStep two sg f (k, v)) := by
  have hl := addStep_len two sg f (k, v)
  refine ⟨addStep_nd h.nd, fun t ht => ?_, fun t ht => ?_, Nat.le_trans hl (Nat.succ_le_succ h.len)⟩
  · have ht2 : t ∈ putP f k ((valP f k).getD 0 + sg * v) := by
      unfold addStep at ht
      simp only [] at ht
      split at ht
      · exact (List.mem_filter.mp ht).1
      · exact ht
    rcases putP_mem ht2 with e | e
    · rw [e]; exact hk
    · exact h.ks t e.1
  · unfold addStep at ht
    simp only [] at ht
    have hc : ((valP f k).getD 0).natAbs ≤ c := by
      cases e : valP f k with
      | none => exact Nat.zero_le _
      | some u => exact (h.vs _ (valP_mem e)).2
    have hc2 : (sg * v).natAbs ≤ c1 := by rcases hs with rfl | rfl <;> omega
    split at ht
    · obtain ⟨h1, h2⟩ := List.mem_filter.mp ht
      rcases putP_mem h1 with e | e
      · rw [e] at h2
        simp at h2
      · have := h.vs t e.1
        exact ⟨this.1, by omega⟩
    · rename_i hz
      rcases putP_mem ht with e | e
      · rw [e]
        exact ⟨hz, by show Int.natAbs (_ + _) ≤ _; omega⟩
      · have := h.vs t e.1
        exact ⟨this.1, by omega⟩

/-! _law_drawn -/
def S_drawn (N D : Nat) : DS := fun ds M R => ∃ (f : Addr) (n d s : Nat), ds = [.ref f, .int n, .int d, .int s] ∧ Has M f .feed ∧ n ≤ N ∧ d ≤ D ∧ s ≤ 100 ∧
  ∀ (a : Addr) (p : PT), PolyIn n d s (s * 10 ^ 12) p → (∀ od, (a, MO.lck od) ∉ M) → R (.dt a (dkv p)) M
theorem keyIn_set {n d : Nat} {k : List Int} (h : KeyIn n d k) {i : Nat} {x : Int} (hx : k[i]? = some x) : KeyIn n (d + 1) (k.set i (x + 1)) := by
  obtain ⟨h1, h2, h3⟩ := h
  refine ⟨by rw [List.length_set]; exact h1, fun y hy => ?_, ?_⟩
  · rcases List.mem_or_eq_of_mem_set hy with e | e
    · exact h2 y e
    · have := h2 x (List.mem_of_getElem? hx)
      omega
  · have : (k.set i (x + 1)).sum = k.sum + 1 := by
      clear h1 h2 h3
      induction k generalizing i with
      | nil => simp at hx
      | cons y k ih =>
        cases i with
        | zero =>
          simp at hx
          rw [List.set_cons_zero, List.sum_cons, List.sum_cons, hx]
          omega
        | succ i =>
          rw [List.set_cons_succ, List.sum_cons, List.sum_cons, ih (by simpa using hx)]
          omega
    omega
theorem keyIn_zero (n d : Nat) : KeyIn n d (List.replicate n 0) := by
  refine ⟨List.length_replicate, fun x hx => by rw [List.eq_of_mem_replicate hx]; exact Int.le_refl 0, ?_⟩
  have : (List.replicate n (0 : Int)).sum = 0 := by
    induction n with
    | zero => rfl
    | succ n ih => rw [List.replicate_succ, List.sum_cons, ih]; rfl
  omega
set_option maxHeartbeats 4000000 in
theorem g__law_drawn (T : Top P K mg) : GFn P w K mg base 3 "_law_drawn" p__law_drawn (S_drawn 5 6) := by
  refine g_ok T.f__law_drawn sc__law_drawn (by rintro ds M R ⟨f, n, d, s, rfl, _⟩; rfl) fun f0 cdv A outer s H E hr => ⟨_, (pss_cons (ps_set (i := 4) sc__law_drawn.nd rfl (by first | exact Or.inl rfl | exact Or.inr rfl) pe_dnewT) (pss_cons (ps_for PassesOwn.never (by rfl) (pi_range1 (by rfl) T.b_range (pa_cons (pe_gK (g__law_take T) (hr.mono (by decide)) (pa_cons (pv 0) (pa_cons (pe_op (k_addU K) (pv 3) pe_int) pa_nil))) pa_nil)) (pg_name (i := 5) sc__law_drawn.nd rfl (by first | exact Or.inl rfl | exact Or.inr rfl)) (pss_cons (ps_set (i := 6) sc__law_drawn.nd rfl (by first | exact Or.inl rfl | exact Or.inr rfl) (pe_op op_repM (pe_lstF (pe_lst (pa_cons pe_int pa_nil))) (pv 1))) (pss_cons (ps_for PassesOwn.never (by rfl) (pi_range1 (by rfl) T.b_range (pa_cons (pe_gK (g__law_take T) (hr.mono (by decide)) (pa_cons (pv 0) (pa_cons (pe_op (k_addU K) (pv 2) pe_int) pa_nil))) pa_nil)) (pg_name (i := 7) sc__law_drawn.nd rfl (by first | exact Or.inl rfl | exact Or.inr rfl)) (pss_one (ps_if (pt_cmpR op_gt (pv 1) pe_int (nomark _)) (pss_cons (ps_set (i := 8) sc__law_drawn.nd rfl (by first | exact Or.inl rfl | exact Or.inr rfl) (pe_gK (g__law_take T) (hr.mono (by decide)) (pa_cons (pv 0) (pa_cons (pv 1) pa_nil)))) (pss_one (ps_asg (pe_op (k_addU K) (pe_ix (k_ix K) (pv 6) (pv 8) (fun _ _ => rfl)) pe_int) (pg_sub (pv 6) (pv 8) set_listN)))) pss_nil))) (pss_cons (ps_set (i := 9) sc__law_drawn.nd rfl (by first | exact Or.inl rfl | exact Or.inr rfl) (pe_gK (g__law_pick T) (hr.mono (by decide)) (pa_cons (pv 0) (pa_cons (pe_lstF (pe_lst (pa_cons pe_int (pa_cons pe_int (pa_cons (pe_un un_neg pe_int) (pa_cons pe_int (pa_cons (pe_un un_neg pe_int) (pa_cons pe_int (pa_cons (pe_op (k_addU K) (pe_gK (g__law_take T) (hr.mono (by decide)) (pa_cons (pv 0) (pa_cons (pe_op op_pow pe_int pe_int) pa_nil))) pe_int) pa_nil))))))))) pa_nil)))) (pss_one (ps_set (i := 4) sc__law_drawn.nd rfl (by first | exact Or.inl rfl | exact Or.inr rfl) (pe_gK (g__law_padd T) (hr.mono (by decide)) (pa_cons (pv 4) (pa_cons (pe_dispT (hu0_of hr) (pps_cons (pe_callTy (k_tup K) (by rfl) T.b_tuple (by decide +kernel) (pa_cons (pv 6) pa_nil)) (pv 9) pps_nil)) (pa_cons pe_int pa_nil)))))))))) (pss_one (ps_ret (pv 4))))), ?_⟩
  rintro ds M R ⟨f, n, d, s, rfl, hm, hn, hd, hs, r⟩
  show Xs K _ _ [some (.ref f), some (.int n), some (.int d), some (.int s), none, none, none, none, none, none] _
  walk_at "xgo"
  refine xe_dnewT fun p0 => ?_
  walk_at "xgo"
  refine xs_frzT .head (.same (.same (.same (.same (.sub (.same (.same (.same (.same (.same .nil)))))))))) fun hn0 => ?_
  refine ys_to (fun ρ' M' => ∃ a p x5 x6 x7 x8 x9, ρ' = [some (.ref f), some (.int n), some (.int d), some (.int s), some (.dt a (dkv p)), x5, x6, x7, x8, x9] ∧ Few M M' ∧ PolyIn n d s (s * 10 ^ 12) p ∧ (∀ od, (a, MO.lck od) ∉ M)) ?_ ?_
  · refine ys_for allV ?_
    refine xi_rng1 ?_
    walk_at "xgo"
    refine ⟨f, _, rfl, hm, by omega, big2000 (by omega), fun t t0 t1 => ?_⟩
    walk_at "xgo"
    refine ⟨fun i ρ' M' => ∃ a p x5 x6 x7 x8 x9, ρ' = [some (.ref f), some (.int n), some (.int d), some (.int s), some (.dt a (dkv p)), x5, x6, x7, x8, x9] ∧ Few M M' ∧ PolyIn n d i (i * 10 ^ 12) p ∧ (∀ od, (a, MO.lck od) ∉ M),
      ⟨p0, [], _, _, _, _, _, rfl, Few.refl _, PolyIn.nil _ _ _ _, hn0⟩, fun _ _ _ _ _ => trivial, ?_, ?_⟩
    · rintro i x ρ' M' hi rfl ⟨a, p, x5, x6, x7, x8, x9, rfl, few, hp, ha⟩
      refine xg_name (by decide) ?_
      refine ys_sub few ?_
      walk_at "xgo"
      refine xr_mulLM (k := (n : Int)) ?_ ?_ ?_ fun e => ?_
      · omega
      · omega
      · simp; omega
      walk_at "xgo"
      have ez : (List.replicate (n : Int).toNat [D.int 0]).flatten = (List.replicate n (0 : Int)).map D.int := by
        rw [Int.toNat_natCast, List.map_replicate]
        clear hn r hp
        induction n with
        | zero => rfl
        | succ n ih => rw [List.replicate_succ, List.replicate_succ, List.flatten_cons, ih]; rfl
      rw [ez]
      refine ys_to (fun ρ' M' => ∃ ks x7 x8, ρ' = [some (.ref f), some (.int n), some (.int d), some (.int s), some (.dt a (dkv p)), some (.int (0 + (i : Nat))), some (.ref e), x7, x8, x9] ∧ M' = (e, .lst (ks.map D.int)) :: M ∧ KeyIn n d ks) ?_ ?_
      · refine ys_for allV ?_
        refine xi_rng1 ?_
        walk_at "xgo"
        refine ⟨f, _, rfl, hm.tail, by omega, big2000 (by omega), fun u u0 u1 => ?_⟩
        walk_at "xgo"
        refine ⟨fun j ρ' M' => ∃ ks x7 x8, ρ' = [some (.ref f), some (.int n), some (.int d), some (.int s), some (.dt a (dkv p)), some (.int (0 + (i : Nat))), some (.ref e), x7, x8, x9] ∧ M' = (e, .lst (ks.map D.int)) :: M ∧ KeyIn n j ks,
          ⟨_, _, _, rfl, rfl, keyIn_zero n 0⟩, fun _ _ _ _ _ => trivial, ?_, ?_⟩
        · rintro j x ρ' M' hj rfl ⟨ks, x7, x8, rfl, rfl, hk⟩
          walk_at "xgo"
          refine ys_if ?_
          walk_at "xgo"
          refine ⟨fun h0 => ?_, fun h0 => ?_⟩
          · have h1 := of_decide_eq_true h0
            walk_at "xgo"
            refine ⟨f, _, rfl, hm.tail, by omega, big2000 (by omega), fun v v0 v1 => ?_⟩
            obtain ⟨m, rfl⟩ := Int.eq_ofNat_of_zero_le v0
            have hm2 : m < ks.length := by rw [hk.1]; omega
            obtain ⟨y, hy⟩ : ∃ y, ks[m]? = some y := ⟨_, List.getElem?_eq_getElem hm2⟩
            walk_at "xgo"
            refine xr_ix1 (xr_ixLM .head (atI_nat (by rw [List.getElem?_map, hy]; rfl)) ?_)
            walk_at "xgo"
            refine xg_setLN ?_
            walk_at "xgo"
            refine ⟨e, m, _, m, _, rfl, rfl, .head, by unfold ixN; rw [List.length_map, if_pos (by omega), if_pos (by omega)]; rfl, .head, ?_⟩
            exact ⟨_, _, _, rfl, by rw [← List.map_set], keyIn_set hk hy⟩
          · walk_at "xgo"
            exact ⟨ks, _, _, rfl, rfl, hk.up (Nat.le_succ _)⟩
        · rintro ρ' M' ⟨ks, x7, x8, rfl, rfl, hk⟩
          exact ⟨ks, _, _, rfl, rfl, hk.up (by omega)⟩
      · rintro ρ' M' ⟨ks, x7, x8, rfl, rfl, hk⟩
        walk_at "xgo"
        refine ⟨f, _, rfl, hm.tail, by decide, big2000 (by decide), fun u u0 u1 => ?_⟩
        walk_at "xgo"
        refine ⟨f, _, rfl, hm.tail, .inl ⟨_, rfl, by simp, by simp, fun v hv => ?_⟩⟩
        obtain ⟨v, rfl, v0, v1⟩ : ∃ z : Int, v = .int z ∧ z ≠ 0 ∧ z.natAbs ≤ 10 ^ 12 := by
          simp only [List.mem_cons, List.not_mem_nil, or_false] at hv
          rcases hv with rfl | rfl | rfl | rfl | rfl | rfl | rfl
          · exact ⟨_, rfl, by decide, by decide⟩
          · exact ⟨_, rfl, by decide, by decide⟩
          · exact ⟨_, rfl, by decide, by decide⟩
          · exact ⟨_, rfl, by decide, by decide⟩
          · exact ⟨_, rfl, by decide, by decide⟩
          · exact ⟨_, rfl, by decide, by decide⟩
          · exact ⟨_, rfl, by omega, by simp at u1; omega⟩
        walk_at "xgo"
        refine xe_frzVT (xe_disp1T fun b => ?_)
        walk_at "xgo"
        refine ⟨kI ks, _, (tD_kI ks).symm, .head, .head, b, _, _, rfl, .head, fun hb => ?_⟩
        walk_at "xgo"
        refine ⟨p, [(ks, v)], _, b, 1, rfl, .inl rfl, .fr a _, hp.tab P w hn hd (by omega), by simp, by simp, hb, fun a2 ha2 => ?_⟩
        have hst := addStep_in (two := [(ks, v)]) (sg := 1) hp hk v1 (.inl rfl)
        refine ⟨a2, paddP p [(ks, v)] 1, _, _, _, _, _, rfl, sub1, ?_, fun od z => ha2 od (List.mem_cons_of_mem _ z)⟩
        rw [Nat.add_one_mul]
        exact hst
    · rintro ρ' M' ⟨a, p, x5, x6, x7, x8, x9, rfl, few, hp, ha⟩
      have h1 : t.toNat ≤ s := by omega
      exact ⟨a, p, x5, x6, x7, x8, x9, rfl, few, hp.up h1 (Nat.mul_le_mul_right _ h1), ha⟩
  · rintro ρ' M' ⟨a, p, x5, x6, x7, x8, x9, rfl, few, hp, ha⟩
    refine ys_sub few ?_
    walk_at "xgo"
    exact r a p hp ha

/-! _law_order -/
theorem g__law_order (T : Top P K mg) : GKey P w K mg base 1 "_law_order" :=
  gkey_ok T.f__law_order sc__law_order rfl rfl fun f0 cdv A outer s H E hr => pss_one (ps_ret (pe_tup (pa_cons (pe_callB (k_sumT K) (by rfl) T.b_sum (by decide +kernel) (pa_cons (pv 0) pa_nil)) (pa_cons (pv 0) pa_nil))))

/-! order_key -/
theorem g_order_key (T : Top P K mg) : GKey P w K mg base 1 "order_key" :=
  gkey_ok T.f_order_key sc_order_key rfl rfl fun f0 cdv A outer s H E hr => pss_one (ps_ret (pe_tup (pa_cons (pe_callB (k_sumT K) (by rfl) T.b_sum (by decide +kernel) (pa_cons (pv 0) pa_nil)) (pa_cons (pv 0) pa_nil))))

/-! _law_terms -/
theorem sortK_perm (l : List (List Int)) : (sortK l).Perm l := List.mergeSort_perm l _
def termsP (p : PT) : PT := (sortK (p.map (·.1))).map fun k => (k, (valP p k).getD 0)
theorem termsP_len (p : PT) : (termsP p).length = p.length := by
  unfold termsP
  rw [List.length_map, (sortK_perm _).length_eq, List.length_map]
theorem termsP_keys (p : PT) : ((termsP p).map (·.1)).Perm (p.map (·.1)) := by
  unfold termsP
  rw [List.map_map]
  have : (sortK (p.map (·.1))).map ((fun t : List Int × Int => t.1) ∘ fun k => (k, (valP p k).getD 0)) = sortK (p.map (·.1)) := List.map_id _
  rw [this]
  exact sortK_perm _
theorem termsP_mem {p : PT} (nd : (p.map (·.1)).Nodup) {t : List Int × Int} (h : t ∈ termsP p) : t ∈ p := by
  unfold termsP at h
  obtain ⟨k, hk, rfl⟩ := List.mem_map.mp h
  have := (sortK_perm _).mem_iff.mp hk
  obtain ⟨u, hu, rfl⟩ := List.mem_map.mp this
  obtain ⟨i, hi⟩ := List.getElem?_of_mem hu
  rw [nodup_at nd hi]
  exact hu
theorem termsP_in {n d s c : Nat} {p : PT} (h : PolyIn n d s c p) : PolyIn n d s c (termsP p) :=
  ⟨(termsP_keys p).nodup_iff.mpr h.nd, fun t ht => h.ks t (termsP_mem h.nd ht), fun t ht => h.vs t (termsP_mem h.nd ht), by rw [termsP_len]; exact h.len⟩
theorem dcT_more {M : Mm} {x : D} {kvs : List (List Key × D)} {e : Addr × MO} (h : DcT M x kvs) : DcT (e :: M) x kvs := by
  cases h with
  | fr a => exact .fr a _
  | mt h => exact .mt (.tail h)
def S_terms : DS := fun ds M R => ∃ (x : D) (p : PT), ds = [x] ∧ DcT M x (dkv p) ∧ p.length ≤ 1000 ∧ R (.lst ((termsP p).map termD)) M
set_option maxHeartbeats 4000000 in
theorem g__law_terms (T : Top P K mg) : GFn P w K mg base 4 "_law_terms" p__law_terms S_terms := by
  refine g_ok T.f__law_terms sc__law_terms (by rintro ds M R ⟨x, p, rfl, _⟩; rfl) fun f0 cdv A outer s H E hr => ⟨_, (pss_one (ps_ret (pe_lc (own := [("_law_exps", 1)]) (by rfl) sc__law_terms.nd (pi_listK K (pe_sortK (mg := mg) (g__law_order T) (hr.mono (by decide)) (pe_callTy c_listT (by rfl) T.b_list (by decide +kernel) (pa_cons (pv 0) pa_nil)) T.b_sorted)) (blkOk_by (own := [("_law_exps", 1)]) (N := n__law_terms) (sc := defScope s__law_terms) (by decide +kernel)) (fun _ _ _ _ _ => (pg_name (i := 1) sc__law_terms.nd rfl (by first | exact Or.inl rfl | exact Or.inr rfl))) (fun _ _ _ _ _ => pts_nil) (fun _ _ _ _ _ => (pe_tup (pa_cons (pv 1) (pa_cons (pe_dget (hu_of hr) (pv 0) (pv 1) (fun _ _ => rfl)) pa_nil))))))), ?_⟩
  rintro ds M R ⟨x, p, rfl, hd, hl, r⟩
  show Xs K _ _ [some x, none] M
  walk_at "xgo"
  refine xe_lc ?_
  refine xi_list ?_
  refine xe_sortK ?_
  walk_at "xgo"
  refine xc_listT hd ?_
  have ek : ((dkv p).map fun kv => tD kv.1) = (p.map (·.1)).map tI := by
    rw [List.map_map, List.map_map]
    exact List.map_congr_left fun t _ => tD_kI t.1
  rw [ek]
  refine ⟨p.map (·.1), by rw [List.length_map]; exact hl, .inl rfl, ?_⟩
  walk_at "xgo"
  have el : ((sortK (p.map (·.1))).map tI).length = p.length := by rw [List.length_map, (sortK_perm _).length_eq, List.length_map]
  refine ⟨trivial, fun _ _ => trivial, by rw [el]; omega, fun i ys => ys = ((termsP p).take i).map termD, rfl, ?_, ?_⟩
  · rintro i d ys p1 hi hd2 rfl
    rw [List.getElem?_map] at hd2
    obtain ⟨k, hk, rfl⟩ := Option.map_eq_some_iff.mp hd2
    have hm := (sortK_perm _).mem_iff.mp (List.mem_of_getElem? hk)
    obtain ⟨v, hv⟩ := Option.isSome_iff_exists.mp (valP_some hm)
    have ht : (termsP p)[i]? = some (k, v) := by
      unfold termsP
      rw [List.getElem?_map, hk]
      simp only [Option.map_some, hv, Option.getD_some]
    walk_at "xgo"
    refine ⟨dkv p, kI k, .int v, dcT_more hd, (tD_kI k).symm, by rw [val_dkv, hv]; rfl, ?_⟩
    walk_at "xgo"
    show _ = ((termsP p).take (i + 1)).map termD
    rw [List.take_add_one, ht, List.map_append]
    rfl
  · rintro ys rfl
    rw [el, ← termsP_len p, List.take_length]
    exact r

/-! plain: the order of the terms does not count -/
theorem toks_ints : ∀ {a b : List Int}, PySem.W.keyToksAll (a.map PyData.int) = PySem.W.keyToksAll (b.map PyData.int) → a = b := by
  intro a
  induction a with
  | nil =>
    intro b h
    cases b with
    | nil => rfl
    | cons y b => simp [PySem.W.keyToksAll] at h
  | cons x a ih =>
    intro b h
    cases b with
    | nil => simp [PySem.W.keyToksAll] at h
    | cons y b =>
      simp only [List.map_cons, PySem.W.keyToksAll, PySem.W.keyToks, List.cons_append, List.nil_append, List.cons.injEq, Sum.inl.injEq, true_and] at h
      rw [h.1, ih h.2]
theorem toks_key {a b : List Int} (h : PySem.W.keyToks (keyOf a) = PySem.W.keyToks (keyOf b)) : a = b := by
  unfold keyOf at h
  simp only [PySem.W.keyToks, PySem.W.keyToksAll, List.cons_append, List.nil_append, List.cons.injEq, true_and] at h
  exact toks_ints (List.append_cancel_right h.2)
theorem le_key (a b : List Int) (h1 : PySem.W.dataLe true keyOf a b = true) (h2 : PySem.W.dataLe true keyOf b a = true) : a = b := by
  unfold PySem.W.dataLe PySem.W.sortLe at h1 h2
  simp only [cond_true, Bool.not_eq_true'] at h1 h2
  exact toks_key ((PyProof.Rows.listOrd PyProof.Rows.itemOrd).total _ _ h1 h2)
theorem sortK_perm_eq {l1 l2 : List (List Int)} (h : l1.Perm l2) : sortK l1 = sortK l2 := by
  have tot := PySem.W.sortLe_total (PyProof.Rows.listOrd PyProof.Rows.itemOrd) true fun b => PySem.W.keyToks (keyOf b)
  refine List.Perm.eq_of_pairwise (le := fun a b => PySem.W.dataLe true keyOf a b = true) (fun a b _ _ => le_key a b) (PySem.W.sort_pairwise tot l1) (PySem.W.sort_pairwise tot l2) ?_
  exact ((sortK_perm l1).trans h).trans (sortK_perm l2).symm
theorem valP_perm {p q : PT} (h : q.Perm p) (nd : (p.map (·.1)).Nodup) (k : List Int) : valP q k = valP p k := by
  have ndq : (q.map (·.1)).Nodup := (h.map (·.1)).nodup_iff.mpr nd
  cases e : valP p k with
  | none =>
    unfold valP at e ⊢
    rw [Option.map_eq_none_iff, List.find?_eq_none] at e ⊢
    exact fun t ht => e t (h.mem_iff.mp ht)
  | some v =>
    unfold valP at e
    obtain ⟨t, ht, e2⟩ := Option.map_eq_some_iff.mp e
    have h1 := List.mem_of_find?_eq_some ht
    have h2 : t.1 = k := by
      have := List.find?_some ht
      simpa using this
    obtain ⟨i, hi⟩ := List.getElem?_of_mem (h.mem_iff.mpr h1)
    have := nodup_at ndq hi
    rw [h2, e2] at this
    exact this
theorem termsP_perm {p q : PT} (h : q.Perm p) (nd : (p.map (·.1)).Nodup) : termsP q = termsP p := by
  unfold termsP
  rw [sortK_perm_eq (h.map (·.1))]
  exact List.map_congr_left fun k _ => by rw [valP_perm h nd]
theorem termsP_self {p : PT} (nd : (p.map (·.1)).Nodup) : (termsP p).Perm p := by
  have hnp : p.Nodup := by
    rw [List.nodup_iff_pairwise_ne] at nd ⊢
    rw [List.pairwise_map] at nd
    exact nd.imp fun hne e => hne (by rw [e])
  have hk := termsP_keys p
  have hnt : ((termsP p).map (·.1)).Nodup := hk.nodup_iff.mpr nd
  have hnq : (termsP p).Nodup := by
    rw [List.nodup_iff_pairwise_ne] at hnt ⊢
    rw [List.pairwise_map] at hnt
    exact hnt.imp fun hne e => hne (by rw [e])
  refine (List.perm_ext_iff_of_nodup hnq hnp).mpr fun t => ⟨fun ht => termsP_mem nd ht, fun ht => ?_⟩
  have h1 : t.1 ∈ (termsP p).map (·.1) := hk.mem_iff.mpr (List.mem_map_of_mem ht)
  obtain ⟨u, hu, e⟩ := List.mem_map.mp h1
  have h2 := termsP_mem nd hu
  obtain ⟨i, hi⟩ := List.getElem?_of_mem ht
  obtain ⟨j, hj⟩ := List.getElem?_of_mem h2
  have e1 := nodup_at nd hi
  have e2 := nodup_at nd hj
  rw [e, e1] at e2
  have e3 : t.2 = u.2 := Option.some.inj e2
  have : u = t := Prod.ext e e3.symm
  rw [← this]
  exact hu

/-! _law_mixed, of terms -/
def S_mixed : DS := fun ds M R => ∃ (f : Addr) (p : PT), ds = [.ref f, .lst (p.map termD)] ∧ Has M f .feed ∧ p.length ≤ 1000 ∧ ∀ (a : Addr) (q : PT), q.Perm p → R (.ref a) ((a, .lst (q.map termD)) :: M)
set_option maxHeartbeats 4000000 in
theorem g__law_mixed (T : Top P K mg) : GFn P w K mg base 3 "_law_mixed" p__law_mixed S_mixed := by
  refine g_ok T.f__law_mixed sc__law_mixed (by rintro ds M R ⟨f, p, rfl, _⟩; rfl) fun f0 cdv A outer s H E hr => ⟨_, (pss_cons (ps_set (i := 2) sc__law_mixed.nd rfl (by first | exact Or.inl rfl | exact Or.inr rfl) (pe_lstN (pe_lst pa_nil))) (pss_cons (ps_for PassesOwn.never (by rfl) (pi_listK K (pv 1)) (pg_name (i := 3) sc__law_mixed.nd rfl (by first | exact Or.inl rfl | exact Or.inr rfl)) (pss_one (ps_expr (pe_bmK K PySem.F.plainAttrs_list PySem.F.slot_list_insert PySem.F.type_list_insert m_insert (pv 2) (pa_cons (pe_gK (g__law_take T) (hr.mono (by decide)) (pa_cons (pv 0) (pa_cons (pe_op (k_addU K) (pe_callB (k_len K) (by rfl) T.b_len (by decide +kernel) (pa_cons (pv 2) pa_nil)) pe_int) pa_nil))) (pa_cons (pv 3) pa_nil)))))) (pss_one (ps_ret (pv 2))))), ?_⟩
  rintro ds M R ⟨f, p, rfl, hf, hl, r⟩
  show Xs K _ _ [some (.ref f), some (.lst (p.map termD)), none, none] _
  walk_at "xgo"
  intro a
  walk_at "xgo"
  refine ys_to (fun ρ' M' => ∃ (x3 : Option D) (q : PT), ρ' = [some (.ref f), some (.lst (p.map termD)), some (.ref a), x3] ∧ M' = (a, .lst (q.map termD)) :: M ∧ q.Perm p) ?_ ?_
  · refine ys_for allV ?_
    refine xi_list ?_
    walk_at "xgo"
    refine ⟨fun i ρ' M' => ∃ (x3 : Option D) (q : PT), ρ' = [some (.ref f), some (.lst (p.map termD)), some (.ref a), x3] ∧ M' = (a, .lst (q.map termD)) :: M ∧ q.Perm (p.take i), ⟨_, [], rfl, rfl, .refl _⟩, fun _ _ _ _ _ => trivial, ?_, ?_⟩
    · rintro i d ρ' M' hi hd ⟨x3, q, rfl, rfl, hq⟩
      rw [List.getElem?_map] at hd
      obtain ⟨t, ht, rfl⟩ := Option.map_eq_some_iff.mp hd
      have hil : i < p.length := (List.getElem?_eq_some_iff.mp ht).1
      have hql : q.length = i := by rw [hq.length_eq, List.length_take]; omega
      walk_at "xgo"
      refine xc_lenM .head ?_
      walk_at "xgo"
      refine ⟨f, q.length + 1, by rw [List.length_map], .tail hf, by omega, by omega, fun u u0 u1 => ?_⟩
      have hlq : (q.map termD).length ≤ 1000 := by rw [List.length_map]; omega
      walk_at "xgo"
      refine ⟨_, q.take u.toNat ++ [t] ++ q.drop u.toNat, rfl, ?_, ?_⟩
      · rw [List.map_append, List.map_append, List.map_take, List.map_drop]
        rfl
      · rw [List.take_add_one, ht]
        have e : q.take u.toNat ++ q.drop u.toNat = q := List.take_append_drop _ _
        have h1 : (q.take u.toNat ++ [t] ++ q.drop u.toNat).Perm (q ++ [t]) := by
          rw [List.append_assoc]
          refine (List.perm_middle (l₁ := q.take u.toNat) (l₂ := q.drop u.toNat)).trans ?_
          rw [e]
          exact (List.perm_append_singleton t q).symm
        exact h1.trans (hq.append_right [t])
    · rintro ρ' M' ⟨x3, q, rfl, rfl, hq⟩
      rw [List.length_map, List.take_length] at hq
      exact ⟨_, q, rfl, rfl, hq⟩
  rintro ρ' M' ⟨x3, q, rfl, rfl, hq⟩
  walk_at "xgo"
  exact r a q hq

/-! Poly.many, Poly.terms whose list may change -/
theorem fd_table {C : Addr} {m : Int} {a : Addr} {p : PT} {M : Mm} {R : RD} (r : R (.dt a (dkv p)) M) : Fd C (.ins C (pfs m a p)) "table" M R := fd_f (fs := pfs m a p) rfl r
theorem fd_width {C : Addr} {m : Int} {a : Addr} {p : PT} {M : Mm} {R : RD} (r : R (.int m) M) : Fd C (.ins C (pfs m a p)) "width" M R := fd_f (fs := pfs m a p) rfl r
def S_Pmany (mg : Str → Option Value) : DS := fun ds M R => ∃ (m : Int) (a : Addr) (p : PT), ds = [polyD mg m a p] ∧ R (.int m) M
theorem g_Poly_many (T : Top P K mg) : GPr P w K mg base 1 "Poly" "many" p_Poly_many (S_Pmany mg) := by
  refine pr_ok T.m_Poly_many sc_Poly_many (by rintro ds M R ⟨m, a, p, rfl, _⟩; rfl) fun f0 cdv A outer s H E hr => ⟨_, (pss_one (ps_ret (pe_fldC T.k_Poly.cls T.n_Poly_width (pv 0)))), ?_⟩
  rintro ds M R ⟨m, a, p, rfl, r⟩
  show Xs K _ _ [some (polyD mg m a p)] M
  walk_at "xgo"
  exact r
def S_Pterms (mg : Str → Option Value) : DS := fun ds M R => ∃ (m : Int) (a : Addr) (p : PT), ds = [polyD mg m a p] ∧ p.length ≤ 1000 ∧ ∀ t, R (.ref t) ((t, .lst ((termsP p).map termD)) :: M)
set_option maxHeartbeats 4000000 in
theorem g_Poly_terms (T : Top P K mg) : GMt P w K mg base 4 "Poly" "terms" p_Poly_terms (S_Pterms mg) := by
  refine m_ok T.m_Poly_terms sc_Poly_terms (by rintro ds M R ⟨m, a, p, rfl, _⟩; rfl) fun f0 cdv A outer s H E hr => ⟨_, (pss_one (ps_ret (pe_lc (own := [("key", 1)]) (by rfl) sc_Poly_terms.nd (pi_listK K (pe_sortK (mg := mg) (g_order_key T) (hr.mono (by decide)) (pe_fldC T.k_Poly.cls T.n_Poly_table (pv 0)) T.b_sorted)) (blkOk_by (own := [("key", 1)]) (N := n_Poly_terms) (sc := defScope s_Poly_terms) (by decide +kernel)) (fun _ _ _ _ _ => (pg_name (i := 1) sc_Poly_terms.nd rfl (by first | exact Or.inl rfl | exact Or.inr rfl))) (fun _ _ _ _ _ => pts_nil) (fun _ _ _ _ _ => (pe_tup (pa_cons (pv 1) (pa_cons (pe_dget (hu_of hr) (pe_fldC T.k_Poly.cls T.n_Poly_table (pv 0)) (pv 1) (fun _ _ => rfl)) pa_nil))))))), ?_⟩
  rintro ds M R ⟨m, a, p, rfl, hl, r⟩
  show Xs K _ _ [some (polyD mg m a p), none] M
  walk_at "xgo"
  refine xe_lcM ?_
  refine xi_list ?_
  refine xe_sortK ?_
  walk_at "xgo"
  refine ⟨p.map (·.1), by rw [List.length_map]; exact hl, .inr ⟨dkv p, .fr a _, dkv_keys p⟩, ?_⟩
  walk_at "xgo"
  have el : ((sortK (p.map (·.1))).map tI).length = p.length := by rw [List.length_map, (sortK_perm _).length_eq, List.length_map]
  refine ⟨trivial, fun _ _ => trivial, by rw [el]; omega, fun i ys => ys = ((termsP p).take i).map termD, rfl, ?_, ?_⟩
  · rintro i d ys p1 hi hd2 rfl
    rw [List.getElem?_map] at hd2
    obtain ⟨k, hk, rfl⟩ := Option.map_eq_some_iff.mp hd2
    have hm := (sortK_perm _).mem_iff.mp (List.mem_of_getElem? hk)
    obtain ⟨v, hv⟩ := Option.isSome_iff_exists.mp (valP_some hm)
    have ht : (termsP p)[i]? = some (k, v) := by
      unfold termsP
      rw [List.getElem?_map, hk]
      simp only [Option.map_some, hv, Option.getD_some]
    walk_at "xgo"
    refine ⟨dkv p, kI k, .int v, .fr a _, (tD_kI k).symm, by rw [val_dkv, hv]; rfl, ?_⟩
    walk_at "xgo"
    show _ = ((termsP p).take (i + 1)).map termD
    rw [List.take_add_one, ht, List.map_append]
    rfl
  · rintro ys t rfl
    rw [el, ← termsP_len p, List.take_length]
    exact r t

/-! polynomials that are let -/
/-- the terms of a polynomial in m unknowns that is let -/
def PolyOk (m : Nat) (p : PT) : Prop := p.length ≤ 1000 ∧ (∀ t ∈ p, t.1.length = m ∧ (∀ x ∈ t.1, 0 ≤ x) ∧ t.2 ≠ 0) ∧ (p.map (·.1)).Nodup
theorem PolyIn.ok {n d s c : Nat} {p : PT} (h : PolyIn n d s c p) (hs : s ≤ 1000) : PolyOk n p := ⟨Nat.le_trans h.len hs, fun t ht => ⟨(h.ks t ht).1, (h.ks t ht).2.1, (h.vs t ht).1⟩, h.nd⟩
theorem PolyOk.due {m : Nat} {p : PT} (h : PolyOk m p) : termDue m [] 0 p = none := by
  have go : ∀ (ts : PT) (seen : List (List Int)) (i : Nat), (∀ t ∈ ts, t.1.length = m ∧ (∀ x ∈ t.1, 0 ≤ x) ∧ t.2 ≠ 0) → (ts.map (·.1)).Nodup → (∀ t ∈ ts, t.1 ∉ seen) → termDue m seen i ts = none := by
    intro ts
    induction ts with
    | nil => intros; rfl
    | cons t ts ih =>
      intro seen i h1 h2 h3
      obtain ⟨g1, g2, g3⟩ := h1 t List.mem_cons_self
      rw [List.map_cons, List.nodup_cons] at h2
      have hb : badTerm m seen t = false := by
        unfold badTerm isKey
        rw [decide_eq_true (by rw [g1]), List.all_eq_true.mpr (fun x hx => decide_eq_true (g2 x hx)), decide_eq_false (h3 t List.mem_cons_self), decide_eq_false g3]
        rfl
      unfold termDue
      rw [hb, if_neg Bool.false_ne_true]
      refine ih _ _ (fun u hu => h1 u (List.mem_cons_of_mem _ hu)) h2.2 fun u hu hm => ?_
      rcases List.mem_append.mp hm with hm | hm
      · exact h3 u (List.mem_cons_of_mem _ hu) hm
      · rw [List.mem_singleton] at hm
        exact h2.1 (hm ▸ List.mem_map_of_mem hu)
  exact go p [] 0 h.2.1 h.2.2 fun _ _ h => nomatch h

def S_oft (mg : Str → Option Value) : DS := fun ds M R => ∃ (m : Nat) (x : D) (p : PT), ds = [.int m, x] ∧ DcT M x (dkv p) ∧ (∀ a k od, x = .dt a k → (a, MO.lck od) ∉ M) ∧ PolyOk m p ∧ m ≤ 1000 ∧ ∀ a, (∀ od, (a, MO.lck od) ∉ M) → R (polyD mg m a p) M
set_option maxHeartbeats 4000000 in
theorem g_of_table (T : Top P K mg) : GFn P w K mg base 5 "of_table" p_of_table (S_oft mg) := by
  refine g_ok T.f_of_table sc_of_table (by rintro ds M R ⟨m, x, p, rfl, _⟩; rfl) fun f0 cdv A outer s H E hr => ⟨_, (pss_one (ps_ret (pe_mkXK (K := K) T.k_Poly (g_Poly_init T) (hr.mono (by decide)) (pa_cons (pv 0) (pa_cons (pe_callTy c_listIt (by rfl) T.b_list (by decide +kernel) (pa_cons (pe_bm0K K PySem.F.plainAttrs_dict PySem.F.slot_dict_items PySem.F.type_dict_items L2.DX.mt_itemsT (pv 1)) pa_nil)) pa_nil)) (hx := passF)))), ?_⟩
  rintro ds M R ⟨m, x, p, rfl, hd, hn, ok, hm, r⟩
  show Xs K _ _ [some (.int m), some x] M
  refine ys_ret ?_
  refine xe_frzI ?_
  refine xe_makeX ekF ?_
  walk_at "xgo"
  refine ⟨dkv p, hd, hn, ?_⟩
  have ek : ((dkv p).map fun kv => D.tup [tD kv.1, kv.2]) = p.map termD := by
    rw [List.map_map]
    refine List.map_congr_left fun t _ => ?_
    show D.tup [tD (kI t.1), .int t.2] = _
    rw [tD_kI]
  rw [ek]
  walk_at "xgo"
  refine fun s0 => ⟨s0, _, m, p, _, rfl, rfl, (by first | exact rfl | exact .inl rfl), ⟨ok.1, fun t ht => by have := (ok.2.1 t ht).1; omega⟩, ?_⟩
  rw [ok.due]
  exact fun a ha => ⟨rfl, s0, _, _, _, rfl, .head, r a ha⟩

/-! Poly.degree, number, __len__, __bool__ -/
def degP (p : PT) : Int := maxI (-1) (p.map fun t => t.1.sum)
def S_Pdeg (mg : Str → Option Value) : DS := fun ds M R => ∃ (m : Int) (a : Addr) (p : PT), ds = [polyD mg m a p] ∧ p.length ≤ 1000 ∧ (∀ od, (a, MO.lck od) ∉ M) ∧ R (.int (degP p)) M
set_option maxHeartbeats 4000000 in
theorem g_Poly_degree (T : Top P K mg) : GPr P w K mg base 3 "Poly" "degree" p_Poly_degree (S_Pdeg mg) := by
  refine pr_ok T.m_Poly_degree sc_Poly_degree (by rintro ds M R ⟨m, a, p, rfl, _⟩; rfl) fun f0 cdv A outer s H E hr => ⟨_, (pss_one (ps_ret (pe_maxDef (K := K) (mg := mg) hr (pe_lock (pe_lc (own := [("key", 1)]) (by rfl) sc_Poly_degree.nd (pi_keys (pe_fldC T.k_Poly.cls T.n_Poly_table (pv 0))) (blkOk_by (own := [("key", 1)]) (N := n_Poly_degree) (sc := defScope s_Poly_degree) (by decide +kernel)) (fun _ _ _ _ _ => (pg_name (i := 1) sc_Poly_degree.nd rfl (by first | exact Or.inl rfl | exact Or.inr rfl))) (fun _ _ _ _ _ => pts_nil) (fun _ _ _ _ _ => (pe_callB (k_sumT K) (by rfl) T.b_sum (by decide +kernel) (pa_cons (pv 1) pa_nil))))) (pe_un un_neg pe_int) T.b_max))), ?_⟩
  rintro ds M R ⟨m, a, p, rfl, hl, ha, r⟩
  show Xs K _ _ [some (polyD mg m a p), none] M
  walk_at "xgo"
  refine xe_maxDef ?_
  refine xe_lockT (kn_fldT (i := 0) (f := "table") rfl rfl) ha fun od => ?_
  refine xe_lc ?_
  refine xi_keysT ?_
  walk_at "xgo"
  refine ⟨a, dkv p, od, rfl, .head, ?_⟩
  refine ⟨.head, fun _ _ => .tail .head, by rw [List.length_map]; omega, fun i ys => ys = ((p.take i).map fun t => t.1.sum).map D.int, rfl, ?_, ?_⟩
  · rintro i d ys q0 hi ⟨k, v, hkv, rfl⟩ rfl
    obtain ⟨t, ht, rfl, rfl⟩ := dkv_at hkv
    rw [tD_kI]
    walk_at "xgo"
    refine xc_sumT ?_
    refine ⟨rfl, ?_⟩
    show _ = ((p.take (i + 1)).map fun t => t.1.sum).map D.int
    rw [List.take_add_one, ht, List.map_append, List.map_append]
    rfl
  · rintro ys rfl
    rw [List.length_map, List.take_length]
    refine ⟨_, .head, ?_⟩
    walk_at "xgo"
    exact ⟨_, _, rfl, rfl, r⟩
def numP (m : Nat) (v : Int) : PT := if v ≠ 0 then [(List.replicate m 0, v)] else []
theorem numP_ok (m : Nat) (v : Int) : PolyOk m (numP m v) := by
  unfold numP
  split
  · rename_i h
    refine ⟨Nat.le_of_ble_eq_true rfl, fun t ht => ?_, by simp⟩
    rw [List.mem_singleton.mp ht]
    exact ⟨List.length_replicate, fun x hx => by rw [List.eq_of_mem_replicate hx]; exact Int.le_refl 0, h⟩
  · exact ⟨Nat.zero_le _, (by intro t ht; cases ht), List.nodup_nil⟩
def S_Pnum (mg : Str → Option Value) : DS := fun ds M R => ∃ (m : Nat) (v : Int), ds = [.int m, .int v] ∧ m ≤ 1000 ∧ ∀ a, (∀ od, (a, MO.lck od) ∉ M) → R (polyD mg m a (numP m v)) M
set_option maxHeartbeats 4000000 in
theorem g_Poly_number (T : Top P K mg) : GSm P w K mg base 6 "Poly" "number" p_Poly_number (S_Pnum mg) := by
  refine sm_ok T.m_Poly_number sc_Poly_number (by rintro ds M R ⟨m, v, rfl, _⟩; rfl) fun f0 cdv A outer s H E hr => ⟨_, (pss_one (ps_ret (pe_gM (K := K) (mg := mg) (g_of_table T) (hr.mono (by decide)) (pa_cons (pv 0) (pa_cons (pe_ifExp (pt_cmpR op_ne (pv 1) pe_int (nomark _)) (pe_dispT (hu0_of hr) (pps_cons (pe_op (k_repG K) (pe_tup (pa_cons pe_int pa_nil)) (pv 0)) (pv 1) pps_nil)) pe_dnewT) pa_nil))))), ?_⟩
  rintro ds M R ⟨m, v, rfl, hm, r⟩
  show Xs K _ _ [some (.int m), some (.int v)] M
  walk_at "xgo"
  have e2 : numP m v = if v ≠ 0 then [(List.replicate m 0, v)] else [] := rfl
  refine ⟨fun h0 => ?_, fun h0 => ?_⟩
  · rw [if_pos (by simpa using h0)] at e2
    refine xe_frzVT ?_
    refine xe_disp1T fun p0 => ?_
    walk_at "xgo"
    refine xr_repG (by omega) (by omega) (by decide) ?_
    have e0 : (List.replicate (Int.toNat (m : Int)) [D.int 0]).flatten = (List.replicate m (0 : Int)).map D.int := by
      rw [Int.toNat_natCast]
      clear r e2 hm
      induction m with
      | zero => rfl
      | succ m ih => rw [List.replicate_succ, List.replicate_succ, List.flatten_cons, ih]; rfl
    rw [e0]
    walk_at "xgo"
    refine ⟨kI (List.replicate m 0), _, (tD_kI _).symm, .head, .head, p0, _, _, rfl, .head, fun hp0 => ?_⟩
    walk_at "xgo"
    refine ⟨m, _, numP m v, rfl, (by rw [e2]; exact .fr p0 _), fun a k od e => ?_, numP_ok m v, hm, r⟩
    cases e
    exact hp0 od
  · rw [if_neg (by simpa using h0)] at e2
    refine xe_frzVT ?_
    refine xe_dnewT fun p0 => ?_
    refine ⟨p0, [], _, rfl, .head, fun hp0 => ?_⟩
    walk_at "xgo"
    refine ⟨m, _, numP m v, rfl, (by rw [e2]; exact .fr p0 _), fun a k od e => ?_, numP_ok m v, hm, r⟩
    cases e
    exact hp0 od
def S_Plen (mg : Str → Option Value) : DX := fun ds M R _ => ∃ (m : Int) (a : Addr) (p : PT), ds = [polyD mg m a p] ∧ (∀ od, (a, MO.lck od) ∉ M) ∧ R (.int p.length) M
theorem g_Poly_len (T : Top P K mg) : GMx P w K mg base 1 "Poly" "__len__" p_Poly_len (S_Plen mg) := by
  refine mx_ok T.m_Poly_len sc_Poly_len (by rintro ds M R Z ⟨m, a, p, rfl, _⟩; rfl) fun f0 cdv A outer s H E hr => ⟨_, (pss_one (ps_ret (pe_callB c_lenDT (by rfl) T.b_len (by decide +kernel) (pa_cons (pe_fldC T.k_Poly.cls T.n_Poly_table (pv 0)) pa_nil)))), ?_⟩
  rintro bs ds M R Z ⟨m, a, p, rfl, ha, r⟩ hE0
  show Xs K _ _ [some (polyD mg m a p)] _
  walk_at "xgo"
  refine xc_lenDT (.fr a _) (fun a2 ks od e => (by cases e; exact ha od)) ?_
  rw [List.length_map]
  walk_at "xgo"
  exact r
def S_Pbool (mg : Str → Option Value) : DS := fun ds M R => ∃ (m : Int) (a : Addr) (p : PT), ds = [polyD mg m a p] ∧ (∀ od, (a, MO.lck od) ∉ M) ∧ R (.bl (decide (p ≠ []))) M
theorem g_Poly_bool (T : Top P K mg) : GMt P w K mg base 1 "Poly" "__bool__" p_Poly_bool (S_Pbool mg) := by
  refine m_ok T.m_Poly_bool sc_Poly_bool (by rintro ds M R ⟨m, a, p, rfl, _⟩; rfl) fun f0 cdv A outer s H E hr => ⟨_, (pss_one (ps_ret (pe_cmpR op_gt (pe_callB c_lenDT (by rfl) T.b_len (by decide +kernel) (pa_cons (pe_fldC T.k_Poly.cls T.n_Poly_table (pv 0)) pa_nil)) pe_int (nomark _)))), ?_⟩
  rintro ds M R ⟨m, a, p, rfl, ha, r⟩
  show Xs K _ _ [some (polyD mg m a p)] _
  walk_at "xgo"
  refine xc_lenDT (.fr a _) (fun a2 ks od e => (by cases e; exact ha od)) ?_
  rw [List.length_map]
  have e : decide ((0 : Int) < (p.length : Int)) = decide (p ≠ []) := by
    cases p with
    | nil => rfl
    | cons t p => simp
  walk_at "xgo"
  rw [e]
  exact r

open TL
/-! Poly.unknown, __repr__; _law_const, _law_cell -/
theorem emp_app (a : Str) : Str.empty ++ a = a := ext_tl (by rw [tl_append]; rfl)
theorem app_asc (a b c : Str) : a ++ b ++ c = a ++ (b ++ c) := ext_tl (by rw [tl_append, tl_append, tl_append, tl_append, List.append_assoc])
theorem num_len2 {i : Int} {k : Nat} (h0 : 0 ≤ i) (hk : 0 < k) (h : i.toNat < 10 ^ k) : (Str.ofString (toString i)).length ≤ k := by
  obtain ⟨n, rfl⟩ := Int.eq_ofNat_of_zero_le h0
  rw [len_tl, show tl (Str.ofString (toString (n : Int))) = numL n from tl_num n]
  exact numL_len hk h
def unkP (m : Nat) (i : Nat) : PT := [(List.replicate i 0 ++ [1] ++ List.replicate (m - i - 1) 0, 1)]
theorem unk_len {m i : Nat} (h : i < m) : (List.replicate i (0 : Int) ++ [1] ++ List.replicate (m - i - 1) 0).length = m := by
  rw [List.length_append, List.length_append, List.length_replicate, List.length_replicate, List.length_singleton]
  omega
theorem unkP_ok {m i : Nat} (h : i < m) : PolyOk m (unkP m i) := by
  refine ⟨Nat.le_of_ble_eq_true rfl, fun t ht => ?_, by simp [unkP]⟩
  rw [List.mem_singleton.mp ht]
  refine ⟨unk_len h, fun x hx => ?_, (show (1 : Int) ≠ 0 by decide)⟩
  rcases List.mem_append.mp hx with hx | hx
  · rcases List.mem_append.mp hx with hx | hx
    · rw [List.eq_of_mem_replicate hx]; exact Int.le_refl 0
    · rw [List.mem_singleton.mp hx]; decide
  · rw [List.eq_of_mem_replicate hx]; exact Int.le_refl 0
theorem rep_ints (n : Nat) : (List.replicate (Int.toNat (n : Int)) [D.int 0]).flatten = (List.replicate n (0 : Int)).map D.int := by
  rw [Int.toNat_natCast]
  induction n with
  | zero => rfl
  | succ m ih => rw [List.replicate_succ, List.replicate_succ, List.flatten_cons, ih]; rfl
theorem unk_tup (m i : Nat) : (List.replicate i (0 : Int)).map D.int ++ [D.int 1] ++ (List.replicate (m - i - 1) (0 : Int)).map D.int = (List.replicate i (0 : Int) ++ [1] ++ List.replicate (m - i - 1) 0).map D.int := by
  rw [List.map_append, List.map_append]
  rfl
def S_Punk (mg : Str → Option Value) : DX := fun ds M R Z => ∃ (m : Nat) (i : Int), ds = [.int m, .int i] ∧ m ≤ 1000 ∧
  if 0 ≤ i ∧ i < m then ∀ a, (∀ od, (a, MO.lck od) ∉ M) → R (polyD mg m a (unkP m i.toNat)) M
  else Z (.ref (clsA mg "Mismatch")) [("wanted", .int m), ("tag", .str "Mismatch")] M
set_option maxHeartbeats 4000000 in
theorem g_Poly_unknown (T : Top P K mg) : GSmx P w K mg base 6 "Poly" "unknown" p_Poly_unknown (S_Punk mg) := by
  refine smx_ok T.m_Poly_unknown sc_Poly_unknown (by rintro ds M R Z ⟨m, i, rfl, _⟩; rfl) fun f0 cdv A outer s H E hr => ⟨_, (pss_cons (ps_if (pt_not (pt_chain op_le op_lt pe_int (pv 1) (pv 0))) (pss_one (ps_raiseE (g_Mismatch T) (hr.mono (by decide)) (pa_cons (pv 0) pa_nil))) pss_nil) (pss_one (ps_ret (pe_gM (K := K) (mg := mg) (g_of_table T) (hr.mono (by decide)) (pa_cons (pv 0) (pa_cons (pe_dispT (hu0_of hr) (pps_cons (pe_op (k_addU K) (pe_op (k_addU K) (pe_op (k_repG K) (pe_tup (pa_cons pe_int pa_nil)) (pv 1)) (pe_tup (pa_cons pe_int pa_nil))) (pe_op (k_repG K) (pe_tup (pa_cons pe_int pa_nil)) (pe_op op_sub (pe_op op_sub (pv 0) (pv 1)) pe_int))) pe_int pps_nil)) pa_nil)))))), ?_⟩
  rintro bs ds M R Z ⟨m, i, rfl, hm, q⟩ hE0
  show Xs K _ _ [some (.int m), some (.int i)] M
  have hE := hE0.few
  refine ys_mid (fun ρ' M' => ρ' = [some (.int m), some (.int i)] ∧ M' = M ∧ 0 ≤ i ∧ i < m) ?_ ?_
  · refine ys_if ?_
    walk_at "xgo"
    refine ⟨fun h0 => ?_, fun h0 => ?_⟩
    · have g0 := of_decide_eq_true h0
      walk_at "xgo"
      refine ⟨fun h1 => ?_, fun h1 => ?_⟩
      · have g1 : ¬ i < (m : Int) := of_decide_eq_false (by simpa using h1)
        rw [if_neg fun z => g1 z.2] at q
        walk_at "xgo"
        first | exact ⟨Few.refl _, q⟩ | exact q
      · have g1 : i < (m : Int) := of_decide_eq_true (by simpa using h1)
        walk_at "xgo"
        first | exact ⟨rfl, rfl, g0, g1⟩ | exact ⟨g0, g1⟩
    · have g0 := of_decide_eq_false h0
      rw [if_neg fun z => g0 z.1] at q
      walk_at "xgo"
      first | exact ⟨Few.refl _, q⟩ | exact q
  rintro ρ' M' ⟨rfl, rfl, h0, h1⟩
  rw [if_pos ⟨h0, h1⟩] at q
  obtain ⟨i, rfl⟩ := Int.eq_ofNat_of_zero_le h0
  rw [Int.toNat_natCast] at q
  have him : i < m := by omega
  have e3 : (m : Int) - (i : Int) - 1 = ((m - i - 1 : Nat) : Int) := by omega
  walk_at "xgo"
  refine xe_frzVT ?_
  refine xe_disp1T fun p0 => ?_
  walk_at "xgo"
  refine xr_repG (by omega) (by omega) (by decide) ?_
  rw [rep_ints]
  have l1 : ((List.replicate i (0 : Int)).map D.int).length ≤ 1000 := by rw [List.length_map, List.length_replicate]; omega
  walk_at "xgo"
  rw [e3]
  refine xr_repG (by omega) (by omega) (by decide) ?_
  rw [rep_ints]
  have l2 : ((List.replicate (m - i - 1) (0 : Int)).map D.int).length ≤ 1000 := by rw [List.length_map, List.length_replicate]; omega
  walk_at "xgo"
  rw [unk_tup]
  refine ⟨kI (List.replicate i 0 ++ [1] ++ List.replicate (m - i - 1) 0), _, (tD_kI _).symm, .head, .head, p0, _, _, rfl, .head, fun hp0 => ?_⟩
  walk_at "xgo"
  refine ⟨m, _, unkP m i, rfl, .fr p0 _, fun a k od e => ?_, unkP_ok him, hm, q⟩
  cases e
  exact hp0 od
def reprT (m : Int) (n : Nat) : Str := (((((Str.empty ++ "Poly(" : Str) ++ (toString m : String) : Str) ++ " unknowns, " : Str) ++ (toString (n : Int) : String) : Str) ++ " terms)" : Str)
theorem repr_len (m : Nat) (hm : m ≤ 1000) : (Str.empty ++ Str.ofString "Poly(" ++ Str.ofString (toString (m : Int))).length ≤ 100 := by
  rw [app_len, app_len]
  exact Nat.le_trans (Nat.add_le_add_left (num_len2 (i := (m : Int)) (k := 4) (by omega) (by decide) (by omega)) _) (by decide)
def S_Prepr (mg : Str → Option Value) : DS := fun ds M R => ∃ (m : Nat) (a : Addr) (p : PT), ds = [polyD mg m a p] ∧ m ≤ 1000 ∧ p.length ≤ 1000 ∧ (∀ od, (a, MO.lck od) ∉ M) ∧ R (.str (reprT m p.length)) M
set_option maxHeartbeats 4000000 in
theorem g_Poly_repr (T : Top P K mg) : GMt P w K mg base 1 "Poly" "__repr__" p_Poly_repr (S_Prepr mg) := by
  refine m_ok T.m_Poly_repr sc_Poly_repr (by rintro ds M R ⟨m, a, p, rfl, _⟩; rfl) fun f0 cdv A outer s H E hr => ⟨_, (pss_one (ps_ret (pe_joined (PJ.cons pe_str (PJ.cons (pe_fmt (pe_fldC T.k_Poly.cls T.n_Poly_width (pv 0))) (PJ.cons pe_str (PJ.cons (pe_fmt (pe_callB c_lenDT (by rfl) T.b_len (by decide +kernel) (pa_cons (pe_fldC T.k_Poly.cls T.n_Poly_table (pv 0)) pa_nil))) (PJ.cons pe_str PJ.nil)))))))), ?_⟩
  rintro ds M R ⟨m, a, p, rfl, hm, hl, ha, r⟩
  show Xs K _ _ [some (polyD mg m a p)] _
  walk_at "xgo"
  have b1 := repr_len m hm
  obtain ⟨z1, hz1⟩ : ∃ z, z = Str.empty ++ Str.ofString "Poly(" ++ Str.ofString (toString (m : Int)) := ⟨_, rfl⟩
  rw [← hz1] at b1
  have er : reprT m p.length = ((z1 ++ " unknowns, " : Str) ++ (toString (p.length : Int) : String) : Str) ++ " terms)" := by rw [hz1]; rfl
  rw [er] at r
  rw [← hz1]
  refine ⟨Nat.le_trans b1 (by decide), ?_⟩
  have l2 : (Str.ofString " unknowns, ").length = 11 := rfl
  walk_at "xgo"
  refine xc_lenDT (.fr a _) (fun a2 ks od e => (by cases e; exact ha od)) ?_
  rw [List.length_map]
  have n2 := num_len2 (i := (p.length : Int)) (k := 4) (by omega) (by decide) (by omega)
  refine fmt_iK (by omega) ?_
  have b2 : (z1 ++ Str.ofString " unknowns, " ++ Str.ofString (toString (p.length : Int))).length ≤ 200 := by
    rw [app_len, app_len, l2]
    exact Nat.le_trans (Nat.add_le_add (Nat.add_le_add_right b1 11) n2) (by decide)
  refine ⟨_, rfl, Nat.le_trans b2 (by decide), ?_⟩
  generalize z1 ++ Str.ofString " unknowns, " ++ Str.ofString (toString (p.length : Int)) = z2 at b2 r ⊢
  clear n2 l2 er
  have l3 : (Str.ofString " terms)").length = 7 := rfl
  walk_at "xgo"
  exact r
def S_lconst : DS := fun ds M R => ∃ (m : Nat) (v : Int), ds = [.int m, .int v] ∧ m ≤ 1000 ∧ ∀ a, (∀ od, (a, MO.lck od) ∉ M) → R (.dt a (dkv (numP m v))) M
set_option maxHeartbeats 4000000 in
theorem g__law_const (T : Top P K mg) : GFn P w K mg base 1 "_law_const" p__law_const S_lconst := by
  refine g_ok T.f__law_const sc__law_const (by rintro ds M R ⟨m, v, rfl, _⟩; rfl) fun f0 cdv A outer s H E hr => ⟨_, (pss_one (ps_ret (pe_ifExp (pt_cmpR op_ne (pv 1) pe_int (nomark _)) (pe_dispT (hu0_of hr) (pps_cons (pe_op (k_repG K) (pe_tup (pa_cons pe_int pa_nil)) (pv 0)) (pv 1) pps_nil)) pe_dnewT))), ?_⟩
  rintro ds M R ⟨m, v, rfl, hm, r⟩
  show Xs K _ _ [some (.int m), some (.int v)] M
  refine ys_ret ?_
  refine xe_frzVT ?_
  walk_at "xgo"
  have e2 : numP m v = if v ≠ 0 then [(List.replicate m 0, v)] else [] := rfl
  refine ⟨fun h0 => ?_, fun h0 => ?_⟩
  · rw [if_pos (by simpa using h0)] at e2
    rw [e2] at r
    refine xe_disp1T fun p0 => ?_
    walk_at "xgo"
    refine xr_repG (by omega) (by omega) (by decide) ?_
    rw [rep_ints]
    walk_at "xgo"
    exact ⟨kI (List.replicate m 0), _, (tD_kI _).symm, .head, .head, p0, _, _, rfl, .head, fun hp0 => r p0 hp0⟩
  · rw [if_neg (by simpa using h0)] at e2
    rw [e2] at r
    refine xe_dnewT fun p0 => ?_
    exact ⟨p0, [], _, rfl, .head, fun hp0 => r p0 hp0⟩
def S_lcell : DS := fun ds M R => ∃ (m i : Nat), ds = [.int m, .int i] ∧ m ≤ 1000 ∧ i < m ∧ ∀ a, (∀ od, (a, MO.lck od) ∉ M) → R (.dt a (dkv (unkP m i))) M
set_option maxHeartbeats 4000000 in
theorem g__law_cell (T : Top P K mg) : GFn P w K mg base 1 "_law_cell" p__law_cell S_lcell := by
  refine g_ok T.f__law_cell sc__law_cell (by rintro ds M R ⟨m, i, rfl, _⟩; rfl) fun f0 cdv A outer s H E hr => ⟨_, (pss_one (ps_ret (pe_dispT (hu0_of hr) (pps_cons (pe_op (k_addU K) (pe_op (k_addU K) (pe_op (k_repG K) (pe_tup (pa_cons pe_int pa_nil)) (pv 1)) (pe_tup (pa_cons pe_int pa_nil))) (pe_op (k_repG K) (pe_tup (pa_cons pe_int pa_nil)) (pe_op op_sub (pe_op op_sub (pv 0) (pv 1)) pe_int))) pe_int pps_nil)))), ?_⟩
  rintro ds M R ⟨m, i, rfl, hm, him, r⟩
  show Xs K _ _ [some (.int m), some (.int i)] M
  have e3 : (m : Int) - (i : Int) - 1 = ((m - i - 1 : Nat) : Int) := by omega
  refine ys_ret ?_
  refine xe_frzVT ?_
  refine xe_disp1T fun p0 => ?_
  walk_at "xgo"
  refine xr_repG (by omega) (by omega) (by decide) ?_
  rw [rep_ints]
  have l1 : ((List.replicate i (0 : Int)).map D.int).length ≤ 1000 := by rw [List.length_map, List.length_replicate]; omega
  walk_at "xgo"
  rw [e3]
  refine xr_repG (by omega) (by omega) (by decide) ?_
  rw [rep_ints]
  have l2 : ((List.replicate (m - i - 1) (0 : Int)).map D.int).length ≤ 1000 := by rw [List.length_map, List.length_replicate]; omega
  walk_at "xgo"
  rw [unk_tup]
  exact ⟨kI (List.replicate i 0 ++ [1] ++ List.replicate (m - i - 1) 0), _, (tD_kI _).symm, .head, .head, p0, _, _, rfl, .head, fun hp0 => r p0 hp0⟩

/-- the same plain data twice; on the left a list that may still change, or such a list in front -/
def S_same (n : Nat) : DS := fun ds M R => (∃ d, ds = [d, d] ∧ pl n d = true ∧ R (.bl true) M) ∨ (∃ a xs, ds = [.ref a, .lst xs] ∧ Has M a (.lst xs) ∧ pl n (.lst xs) = true ∧ R (.bl true) M) ∨
  (∃ a xs us, ds = [.lst (.ref a :: us), .lst (.lst xs :: us)] ∧ Has M a (.lst xs) ∧ pl n (.lst (.lst xs :: us)) = true ∧ R (.bl true) M)
theorem same_len {n : Nat} {ds : List D} {M : Mm} {R : RD} (h : S_same n ds M R) : ds.length = 2 := by
  rcases h with ⟨d, rfl, _⟩ | ⟨a, xs, rfl, _⟩ | ⟨a, xs, us, rfl, _⟩ <;> rfl
theorem same_zero {ds : List D} {M : Mm} {R : RD} (h : S_same 0 ds M R) : False := by
  rcases h with ⟨d, _, h, _⟩ | ⟨a, xs, _, _, h, _⟩ | ⟨a, xs, us, _, _, h, _⟩ <;> cases h
theorem g_same_n (T : Top P K mg) : ∀ n : Nat, GFn P w K mg base n "_law_same" p__law_same (S_same n) := by
  intro n
  induction n with
  | zero =>
    obtain ⟨f, fd, F, h1, h2⟩ := T.f__law_same.ex
    refine ⟨f, fd, ⟨fun vs H Q E h => ?_, fun A outer s H args us vs Q E _ _ _ _ h => ?_⟩, h1, F.kp, h2⟩
    · obtain ⟨G, M, ds, R, _, _, h3, _⟩ := h
      exact (same_zero h3).elim
    · obtain ⟨G, M, ds, R, _, _, h3, _⟩ := h
      exact (same_zero h3).elim
  | succ n ih =>
    refine g_ok T.f__law_same sc__law_same (fun ds M R h => same_len h) fun f0 cdv A outer s H E hr => ⟨_, (pss_cons (ps_if (PW.pt (pw_or (pt_cmp (pc_isN (pv 1))) (pw_or1 (pt_cmp (pc_isN (pv 0)))))) (pss_one (ps_ret (pe_and (pe_cmp (pc_isN (pv 0))) (pe_one (pe_cmp (pc_isN (pv 1))))))) pss_nil) (pss_cons (ps_if (PW.pt (pw_or (pt_val (pe_callB (k_isi K) (by rfl) T.b_isinstance (by decide +kernel) (pa_cons (pv 1) (pa_cons (pe_bltn (v := .ty "bool") (by rfl) T.b_bool (by decide +kernel) rfl) pa_nil)))) (pw_or1 (pt_val (pe_callB (k_isi K) (by rfl) T.b_isinstance (by decide +kernel) (pa_cons (pv 0) (pa_cons (pe_bltn (v := .ty "bool") (by rfl) T.b_bool (by decide +kernel) rfl) pa_nil))))))) (pss_one (ps_ret (pe_and (pe_callB (k_isi K) (by rfl) T.b_isinstance (by decide +kernel) (pa_cons (pv 1) (pa_cons (pe_bltn (v := .ty "bool") (by rfl) T.b_bool (by decide +kernel) rfl) pa_nil))) (pe_and (pe_callB (k_isi K) (by rfl) T.b_isinstance (by decide +kernel) (pa_cons (pv 0) (pa_cons (pe_bltn (v := .ty "bool") (by rfl) T.b_bool (by decide +kernel) rfl) pa_nil))) (pe_one (pe_cmpR op_eq (pv 0) (pv 1) (nomark _))))))) pss_nil) (pss_cons (ps_if (pt_val (pe_callB (k_isiT K) (by rfl) T.b_isinstance (by decide +kernel) (pa_cons (pv 1) (pa_cons (pe_tup (pa_cons (pe_bltn (v := .ty "int") (by rfl) T.b_int (by decide +kernel) rfl) (pa_cons (pe_bltn (v := .ty "str") (by rfl) T.b_str (by decide +kernel) rfl) pa_nil))) pa_nil)))) (pss_cons (ps_set (i := 2) sc__law_same.nd rfl (by first | exact Or.inl rfl | exact Or.inr rfl) (pe_cmpR op_eq (pe_callB (k_isi K) (by rfl) T.b_isinstance (by decide +kernel) (pa_cons (pv 0) (pa_cons (pe_bltn (v := .ty "int") (by rfl) T.b_int (by decide +kernel) rfl) pa_nil))) (pe_callB (k_isi K) (by rfl) T.b_isinstance (by decide +kernel) (pa_cons (pv 1) (pa_cons (pe_bltn (v := .ty "int") (by rfl) T.b_int (by decide +kernel) rfl) pa_nil))) (nomark _))) (pss_one (ps_ret (pe_and (pe_callB (k_isiT K) (by rfl) T.b_isinstance (by decide +kernel) (pa_cons (pv 0) (pa_cons (pe_tup (pa_cons (pe_bltn (v := .ty "int") (by rfl) T.b_int (by decide +kernel) rfl) (pa_cons (pe_bltn (v := .ty "str") (by rfl) T.b_str (by decide +kernel) rfl) pa_nil))) pa_nil))) (pe_and (pv 2) (pe_one (pe_cmpR op_eq (pv 0) (pv 1) (nomark _)))))))) pss_nil) (pss_cons (ps_if (pt_cmpR op_ne (pe_callB (k_isi K) (by rfl) T.b_isinstance (by decide +kernel) (pa_cons (pv 1) (pa_cons (pe_bltn (v := .ty "tuple") (by rfl) T.b_tuple (by decide +kernel) rfl) pa_nil))) (pe_callB (k_isi K) (by rfl) T.b_isinstance (by decide +kernel) (pa_cons (pv 0) (pa_cons (pe_bltn (v := .ty "tuple") (by rfl) T.b_tuple (by decide +kernel) rfl) pa_nil))) (nomark _)) (pss_one (ps_ret pe_bl)) pss_nil) (pss_cons (ps_if (pt_cmpR op_ne (pe_callB (k_isi K) (by rfl) T.b_isinstance (by decide +kernel) (pa_cons (pv 1) (pa_cons (pe_bltn (v := .ty "list") (by rfl) T.b_list (by decide +kernel) rfl) pa_nil))) (pe_callB (k_isi K) (by rfl) T.b_isinstance (by decide +kernel) (pa_cons (pv 0) (pa_cons (pe_bltn (v := .ty "list") (by rfl) T.b_list (by decide +kernel) rfl) pa_nil))) (nomark _)) (pss_one (ps_ret pe_bl)) pss_nil) (pss_one (ps_ret (pe_and (pe_cmpR op_eq (pe_callB (k_len K) (by rfl) T.b_len (by decide +kernel) (pa_cons (pv 0) pa_nil)) (pe_callB (k_len K) (by rfl) T.b_len (by decide +kernel) (pa_cons (pv 1) pa_nil)) (nomark _)) (pe_one (pe_callB (k_all K) (by rfl) T.b_all (by decide +kernel) (pa_cons (pe_lc (own := [("_law_one", 3), ("_law_two", 4)]) (by rfl) sc__law_same.nd (pi_zipK K T.b_zip (pa_cons (pv 0) (pa_cons (pv 1) pa_nil))) (blkOk_by (own := [("_law_one", 3), ("_law_two", 4)]) (N := n__law_same) (sc := defScope s__law_same) (by decide +kernel)) (fun _ _ _ _ _ => (pg_tupK K (n := 2) (pgs_cons (pg_name (i := 3) sc__law_same.nd rfl (by first | exact Or.inl rfl | exact Or.inr rfl)) (pgs_cons (pg_name (i := 4) sc__law_same.nd rfl (by first | exact Or.inl rfl | exact Or.inr rfl)) pgs_nil)))) (fun _ _ _ _ _ => pts_nil) (fun _ _ _ _ _ => (pe_gK ih hr (pa_cons (pv 3) (pa_cons (pv 4) pa_nil))))) pa_nil))))))))))), ?_⟩
    intro ds M R h0
    have turn : ∀ (xs : List D), (decide (xs.length ≤ 1000000) && xs.all (pl n)) = true → ∀ (i : Nat) (a b : D), xs[i]? = some a → xs[i]? = some b → a = b ∧ pl n a = true := by
      intro xs h i a b h1 h2
      rw [Bool.and_eq_true, List.all_eq_true] at h
      exact ⟨Option.some.inj (h1.symm.trans h2), h.2 a (List.mem_of_getElem? h1)⟩
    have bound : ∀ (xs : List D), (decide (xs.length ≤ 1000000) && xs.all (pl n)) = true → min xs.length xs.length ≤ 16000000 := by
      intro xs h
      rw [Bool.and_eq_true] at h
      have := of_decide_eq_true h.1
      omega
    have fin : ∀ m : Nat, List.replicate m (D.bl true) = (List.replicate m true).map D.bl := fun m => by simp
    rcases h0 with ⟨d, rfl, hp, q⟩ | ⟨ad, xs, rfl, hm, hp, q⟩ | ⟨ad, xs, us, rfl, hm, hp, q⟩
    · show Xs K _ _ [some d, some d, none, none, none] M
      cases d with
      | non => walk_at "xgi"; exact q
      | bl b => walk_at "xgi"; simpa using q
      | int i => walk_at "xgi"; simpa using q
      | str z => walk_at "xgi"; simpa using q
      | lst xs =>
        walk_at "xgi"
        refine xe_lc ?_
        refine xi_zipA ?_
        walk_at "xgi"
        refine ⟨_, _, xs, xs, rfl, .inl ⟨rfl, rfl⟩, trivial, fun _ _ => trivial, bound xs hp, fun i ys => ys = List.replicate i (.bl true), rfl, ?_, ?_⟩
        · rintro i d ys p hi ⟨a, b, h1, h2, rfl⟩ rfl
          obtain ⟨rfl, h3⟩ := turn xs hp i a b h1 h2
          walk_at "xgi"
          exact .inl ⟨a, rfl, h3, rfl, List.replicate_succ'.symm⟩
        · rintro ys rfl
          rw [fin]
          walk_at "xgi"
          refine xc_all ?_
          rw [all_rep]
          exact q
      | tup xs =>
        walk_at "xgi"
        refine xe_lc ?_
        refine xi_zipA ?_
        walk_at "xgi"
        refine ⟨_, _, xs, xs, rfl, .inr ⟨rfl, rfl⟩, trivial, fun _ _ => trivial, bound xs hp, fun i ys => ys = List.replicate i (.bl true), rfl, ?_, ?_⟩
        · rintro i d ys p hi ⟨a, b, h1, h2, rfl⟩ rfl
          obtain ⟨rfl, h3⟩ := turn xs hp i a b h1 h2
          walk_at "xgi"
          exact .inl ⟨a, rfl, h3, rfl, List.replicate_succ'.symm⟩
        · rintro ys rfl
          rw [fin]
          walk_at "xgi"
          refine xc_all ?_
          rw [all_rep]
          exact q
      | _ => cases hp
    · show Xs K _ _ [some (.ref ad), some (.lst xs), none, none, none] M
      walk_at "xgi"
      refine xc_isiM hm (by walk_at "kb") ?_
      walk_at "xgi"
      refine xc_isiM hm (by walk_at "kb") ?_
      walk_at "xgi"
      refine xc_isiM hm (by walk_at "kb") ?_
      walk_at "xgi"
      refine xc_lenM hm ?_
      walk_at "xgi"
      refine xe_lc ?_
      refine xi_zipRL ?_
      walk_at "xgi"
      refine ⟨ad, xs, xs, rfl, hm, hm, fun _ _ => .tail hm, bound xs hp, fun i ys => ys = List.replicate i (.bl true), rfl, ?_, ?_⟩
      · rintro i d ys p hi ⟨a, b, h1, h2, rfl⟩ rfl
        obtain ⟨rfl, h3⟩ := turn xs hp i a b h1 h2
        walk_at "xgi"
        exact .inl ⟨a, rfl, h3, rfl, List.replicate_succ'.symm⟩
      · rintro ys rfl
        rw [fin]
        walk_at "xgi"
        refine xc_all ?_
        rw [all_rep]
        exact q
    · show Xs K _ _ [some (.lst (.ref ad :: us)), some (.lst (.lst xs :: us)), none, none, none] M
      have hlen : ((D.ref ad :: us).length : Int) = ((D.lst xs :: us).length : Int) := by rw [List.length_cons, List.length_cons]
      have hb := bound _ hp
      walk_at "xgi"
      refine xe_lc ?_
      refine xi_zipA ?_
      walk_at "xgi"
      refine ⟨_, _, D.ref ad :: us, D.lst xs :: us, rfl, .inl ⟨rfl, rfl⟩, trivial, fun _ _ => trivial, by simp only [List.length_cons] at hb ⊢; omega, fun i ys => ys = List.replicate i (.bl true), rfl, ?_, ?_⟩
      · rintro i d ys p hi ⟨a, b, h1, h2, rfl⟩ rfl
        cases i with
        | zero =>
          cases h1
          cases h2
          have h3 := (turn _ hp 0 _ _ rfl rfl).2
          walk_at "xgi"
          exact .inr (.inl ⟨ad, xs, rfl, .tail hm, h3, rfl, List.replicate_succ'.symm⟩)
        | succ i =>
          obtain ⟨rfl, h3⟩ := turn _ hp (i + 1) a b (by simpa using h1) h2
          walk_at "xgi"
          exact .inl ⟨a, rfl, h3, rfl, List.replicate_succ'.symm⟩
      · rintro ys rfl
        rw [show min (D.ref ad :: us).length (D.lst xs :: us).length = us.length + 1 by simp]
        rw [fin]
        walk_at "xgi"
        refine xc_all ?_
        rw [all_rep]
        exact q
theorem g__law_same (T : Top P K mg) : GFn P w K mg base 6 "_law_same" p__law_same (S_same 6) := g_same_n T 6

/-! _law_is_poly -/
theorem pl_tI (n : Nat) (k : List Int) (h : k.length ≤ 1000000) : pl (n + 2) (tI k) = true := by
  show (decide ((k.map D.int).length ≤ 1000000) && (k.map D.int).all (pl (n + 1))) = true
  rw [List.length_map, decide_eq_true h, Bool.true_and, List.all_map, List.all_eq_true]
  intro x _
  rfl
theorem pl_term (n : Nat) (t : List Int × Int) (h : t.1.length ≤ 1000000) : pl (n + 3) (termD t) = true := by
  show (decide (2 ≤ 1000000) && ([tI t.1, D.int t.2]).all (pl (n + 2))) = true
  rw [List.all_cons, pl_tI n t.1 h]
  rfl
theorem pl_terms (n : Nat) (p : PT) (h : p.length ≤ 1000000) (ht : ∀ t ∈ p, t.1.length ≤ 1000000) : pl (n + 4) (.lst (p.map termD)) = true := by
  show (decide ((p.map termD).length ≤ 1000000) && (p.map termD).all (pl (n + 3))) = true
  rw [List.length_map, decide_eq_true h, Bool.true_and, List.all_map, List.all_eq_true]
  intro t htm
  exact pl_term n t (ht t htm)
theorem PolyOk.pl {m : Nat} {p : PT} (ok : PolyOk m p) (hm : m ≤ 1000) (n : Nat) : pl (n + 4) (.lst ((termsP p).map termD)) = true := by
  refine pl_terms n _ (by rw [termsP_len]; have := ok.1; omega) fun t ht => ?_
  have := (ok.2.1 t (termsP_mem ok.2.2 ht)).1
  omega
def S_ispoly (mg : Str → Option Value) : DS := fun ds M R => ∃ (m : Nat) (a b : Addr) (p q : PT), ds = [polyD mg m a p, .int m, .dt b (dkv q)] ∧ PolyOk m p ∧ q.length ≤ 1000 ∧ m ≤ 1000 ∧ termsP p = termsP q ∧ R (.bl true) M
set_option maxHeartbeats 4000000 in
theorem g__law_is_poly (T : Top P K mg) : GFn P w K mg base 7 "_law_is_poly" p__law_is_poly (S_ispoly mg) := by
  refine g_ok T.f__law_is_poly sc__law_is_poly (by rintro ds M R ⟨m, a, b, p, q, rfl, _⟩; rfl) fun f0 cdv A outer s H E hr => ⟨_, (pss_one (ps_ret (pe_and (pe_callB (k_isi K) (by rfl) T.b_isinstance (by decide +kernel) (pa_cons (pv 0) (pa_cons (pe_clsK (K := K) T.k_Poly) pa_nil))) (pe_one (pe_gK (g__law_same T) (hr.mono (by decide)) (pa_cons (pe_lstF (pe_lst (pa_cons (pe_propK (K := K) (mg := mg) T.k_Poly (g_Poly_many T) (hr.mono (by decide)) (pv 0)) (pa_cons (pe_mK0 (K := K) T.k_Poly (g_Poly_terms T) (hr.mono (by decide)) (pv 0)) pa_nil)))) (pa_cons (pe_lstF (pe_lst (pa_cons (pv 1) (pa_cons (pe_gK (g__law_terms T) (hr.mono (by decide)) (pa_cons (pv 2) pa_nil)) pa_nil)))) pa_nil))))))), ?_⟩
  rintro ds M R ⟨m, a, b, p, q, rfl, ok, hq, hm, e, r⟩
  show Xs K _ _ [some (polyD mg m a p), some (.int m), some (.dt b (dkv q))] _
  have hpl := ok.pl hm 1
  walk_at "xgo"
  refine xe_cref ?_
  walk_at "xgo"
  refine xc_isiC T.k_Poly T.i_Poly (.inl ⟨_, rfl⟩) ?_
  walk_at "xgo"
  refine ⟨isC_f, m, a, p, rfl, ?_⟩
  walk_at "x1"
  refine xe_frzVL ?_
  walk_at "xgo"
  refine ⟨m, a, p, rfl, ok.1, fun t => ⟨t, _, _, rfl, .head, ?_⟩⟩
  walk_at "xgo"
  refine ⟨_, q, rfl, .fr b _, hq, ?_⟩
  rw [e]
  rw [e] at hpl
  walk_at "xgo"
  refine .inl ⟨_, rfl, ?_, ?_⟩
  · show (decide (2 ≤ 1000000) && ([D.int m, .lst ((termsP q).map termD)]).all (pl 5)) = true
    rw [List.all_cons, List.all_cons, hpl]
    rfl
  exact r

def S_law (Pt : Addr) : DS := fun ds M R => ∃ ns, ds = [.scr ns] ∧ ns.length ≤ 63 ∧ M = [(Pt, .tab lamQ)] ∧ ∀ M', R (.bl true) M'
theorem law_in {Pt : Addr} {ns : List Int} (h : ns.length ≤ 63) : S_law Pt [.scr ns] [(Pt, .tab lamQ)] fun d _ => d = .bl true := ⟨ns, rfl, h, rfl, fun _ => rfl⟩

theorem tabs {f Pt : Addr} : ∀ p ∈ ([(f, .feed), (Pt, .tab lamQ)] : Mm), ∀ q', p.2 = .tab q' → p = (Pt, .tab lamQ) := by
  intro p hp q' e
  simp only [List.mem_cons, List.not_mem_nil, or_false] at hp
  rcases hp with rfl | rfl
  · cases e
  · cases e
    rfl
theorem bl_of {R : RD} {M : Mm} {b : Bool} (h : b = true) (r : R (.bl true) M) : R (.bl b) M := by rw [h]; exact r
abbrev misD (m : Nat) : D := .tup [.str "Mismatch", .int m]
theorem PolyOk.perm {m : Nat} {p q : PT} (h : PolyOk m p) (e : q.Perm p) : PolyOk m q :=
  ⟨by rw [e.length_eq]; exact h.1, fun t ht => h.2.1 t (e.mem_iff.mp ht), ((e.map _).nodup_iff).mpr h.2.2⟩
theorem fmax : ∀ (r : List Int) (n : Int), r.foldl max n ∈ n :: r ∧ ∀ x ∈ n :: r, x ≤ r.foldl max n
  | [], n => ⟨List.mem_cons_self, fun x hx => by rw [List.mem_singleton.mp hx]; exact Int.le_refl n⟩
  | y :: r, n => by
    obtain ⟨h1, h2⟩ := fmax r (max n y)
    have hm := h2 (max n y) List.mem_cons_self
    refine ⟨?_, fun x hx => ?_⟩
    · show r.foldl max (max n y) ∈ _
      rcases List.mem_cons.mp h1 with e | e
      · rw [e]
        rcases Int.le_total n y with g | g
        · rw [Int.max_eq_right g]; exact List.mem_cons_of_mem _ List.mem_cons_self
        · rw [Int.max_eq_left g]; exact List.mem_cons_self
      · exact List.mem_cons_of_mem _ (List.mem_cons_of_mem _ e)
    · show x ≤ r.foldl max (max n y)
      rcases List.mem_cons.mp hx with rfl | hx
      · omega
      rcases List.mem_cons.mp hx with rfl | hx
      · omega
      · exact h2 x (List.mem_cons_of_mem _ hx)
theorem maxI_perm {d : Int} {l1 l2 : List Int} (h : l1.Perm l2) : maxI d l1 = maxI d l2 := by
  cases l1 with
  | nil => rw [List.nil_perm.mp h]
  | cons n r =>
    cases l2 with
    | nil => exact absurd h.length_eq (by simp)
    | cons m t =>
      obtain ⟨a1, a2⟩ := fmax r n
      obtain ⟨b1, b2⟩ := fmax t m
      exact Int.le_antisymm (b2 _ (h.mem_iff.mp a1)) (a2 _ (h.mem_iff.mpr b1))
theorem degP_perm {p q : PT} (h : q.Perm p) : degP q = degP p := maxI_perm (h.map _)
theorem intsD_tk (p : PT) : IntsD (dkv p) := by
  intro kv h
  obtain ⟨t, _, rfl⟩ := List.mem_map.mp h
  exact ⟨_, rfl⟩
theorem ne_of (p q : PT) (h : q.length = p.length) : (if true = true then !decide (p = []) else decide (p = [])) = decide (q ≠ []) := by
  cases p <;> cases q <;> first | rfl | (cases h)
theorem repr_eq (m : Int) (n : Nat) : reprT m n = (((Str.ofString "Poly(" ++ Str.ofString (toString m)) ++ Str.ofString " unknowns, ") ++ Str.ofString (toString (n : Int))) ++ Str.ofString " terms)" := by
  unfold reprT
  rw [emp_app]
theorem app_le {a b : Str} {k l : Nat} (h1 : a.length ≤ k) (h2 : b.length ≤ l) : (a ++ b).length ≤ k + l := by rw [app_len]; omega
theorem adds {a b : Str} {k l : Nat} (h1 : a.length ≤ k) (h2 : b.length ≤ l) (h : k + l ≤ 16000000) : a.length + b.length ≤ 16000000 := by omega
theorem eqDD_nil (p : PT) : eqDD (dkv p) [] = decide (p = []) := by cases p <;> rfl
theorem ys_frzN {t : TS} (h : Xs K t ⟨fun ρ' M' => ∃ a ds ρ2 M2, Cut M' a (.lst ds) M2 ∧ SubA a (.lst ds) ρ' ρ2 ∧ nx ρ2 M2, rt, bk, ct⟩ ρ M) : Xs K t ⟨nx, rt, bk, ct⟩ ρ M := by
  intro σ G H D s w k
  refine h σ G H D s w ⟨fun σ' G' H' ρ' M' e s' w' q => ?_, k.rt, k.bk, k.ct⟩
  obtain ⟨a, ds, ρ2, M2, hc, hs, q⟩ := q
  obtain ⟨_, xs, h1, h2⟩ := w'.mo _ hc.mem
  obtain ⟨e2, w2⟩ := w'.cut hc rfl h1
  exact k.nx σ' _ H' ρ2 M2 (e.trans e2) ((s'.up e2).sub hs (.lst upd_same (h2.up e2))) w2 q
theorem eqv_misD (m : Nat) : PyData.eqv (pyN 4 (misD m)) (pyN 4 (misD m)) = true := by
  show PyData.eqv (.tuple [.str _, _]) (.tuple [.str _, _]) = true
  simp [PyData.eqv, PyData.eqvAll, pyN]
theorem plS_misD (m : Nat) : plS 4 (misD m) = true := by
  show ([D.str "Mismatch", .int m]).all (plS 3) = true
  rw [List.all_cons, List.all_cons]
  rw [show plS 3 (.str "Mismatch") = true by decide +kernel]
  rfl
local macro_rules | `(tactic| walk_at "xum") => `(tactic| repeat ((fail_if_success (with_reducible show Xe K (tMeth _ _ _ _ _ _ _) _ _ _)); walk_at "x1"))
local macro_rules | `(tactic| walk_at "xup") => `(tactic| repeat ((fail_if_success (with_reducible show Xs _ _ _ _ _)); walk_at "x1"))
set_option maxHeartbeats 8000000 in
theorem g_law (T : Top P K mg) {f0 c Pt : Addr} {fd : FuncData} (F : FunC K "law" "law" s_law f0 c fd) (TB : LamX.TabB base mg c Pt) : FnOk P w K mg base CX0 12 f0 fd p_law (spOf K (S_law Pt)) := by
  refine fnc_ok F sc_law (by rintro ds M R ⟨z, rfl, _⟩; rfl) fun A outer s H E hr => ⟨_, (pss_cons (ps_set (i := 1) sc_law.nd rfl (by first | exact Or.inl rfl | exact Or.inr rfl) (pe_gK (g__law_feed T) (hr.mono (by decide)) (pa_cons (pv 0) pa_nil))) (pss_cons (ps_for PassesOwn.never (by rfl) (pi_range1 (by rfl) T.b_range (pa_cons pe_int pa_nil)) (pg_name (i := 2) sc_law.nd rfl (by first | exact Or.inl rfl | exact Or.inr rfl)) (pss_cons (ps_set (i := 3) sc_law.nd rfl (by first | exact Or.inl rfl | exact Or.inr rfl) (pe_gK (g__law_take T) (hr.mono (by decide)) (pa_cons (pv 1) (pa_cons pe_int pa_nil)))) (pss_cons (ps_set (i := 4) sc_law.nd rfl (by first | exact Or.inl rfl | exact Or.inr rfl) (pe_gK (g__law_drawn T) (hr.mono (by decide)) (pa_cons (pv 1) (pa_cons (pv 3) (pa_cons pe_int (pa_cons pe_int pa_nil)))))) (pss_cons (ps_set (i := 5) sc_law.nd rfl (by first | exact Or.inl rfl | exact Or.inr rfl) (pe_gK (g__law_mixed T) (hr.mono (by decide)) (pa_cons (pv 1) (pa_cons (pe_gK (g__law_terms T) (hr.mono (by decide)) (pa_cons (pv 4) pa_nil)) pa_nil)))) (pss_cons (ps_set (i := 6) sc_law.nd rfl (by first | exact Or.inl rfl | exact Or.inr rfl) (pe_mkXK (K := K) T.k_Poly (g_Poly_init T) (hr.mono (by decide)) (pa_cons (pv 3) (pa_cons (pe_ifExp (pt_cmpR op_eq (pe_gK (g__law_take T) (hr.mono (by decide)) (pa_cons (pv 1) (pa_cons pe_int pa_nil))) pe_int (nomark _)) (pv 5) (pe_callTy (k_tup K) (by rfl) T.b_tuple (by decide +kernel) (pa_cons (pv 5) pa_nil))) pa_nil)) (hx := passF))) (pss_cons (ps_expr (pe_bm0K K PySem.F.plainAttrs_list PySem.F.slot_list_clear PySem.F.type_list_clear mt_clear (pv 5))) (pss_cons (ps_for PassesOwn.never (by rfl) (pi_range1 (by rfl) T.b_range (pa_cons pe_int pa_nil)) (pg_name (i := 7) sc_law.nd rfl (by first | exact Or.inl rfl | exact Or.inr rfl)) (pss_cons (ps_set (i := 8) sc_law.nd rfl (by first | exact Or.inl rfl | exact Or.inr rfl) (pe_mK0 (K := K) T.k_Poly (g_Poly_terms T) (hr.mono (by decide)) (pv 6))) (pss_cons (ps_if (pt_not (pt_val (pe_gK (g__law_same T) (hr.mono (by decide)) (pa_cons (pe_lstF (pe_lst (pa_cons (pv 8) (pa_cons (pe_propK (K := K) (mg := mg) T.k_Poly (g_Poly_many T) (hr.mono (by decide)) (pv 6)) (pa_cons (pe_callB (c_lenC (K := K) (mg := mg) (x := "Poly") (g_Poly_len T) (hr.mono (by decide)) (hx := passF)) (by rfl) T.b_len (by decide +kernel) (pa_cons (pv 6) pa_nil)) (pa_cons (pe_callTy (c_boolC (K := K) (mg := mg) (g_Poly_bool T) (hr.mono (by decide))) (by rfl) T.b_bool (by decide +kernel) (pa_cons (pv 6) pa_nil)) pa_nil)))))) (pa_cons (pe_lstF (pe_lst (pa_cons (pe_gK (g__law_terms T) (hr.mono (by decide)) (pa_cons (pv 4) pa_nil)) (pa_cons (pv 3) (pa_cons (pe_callB c_lenDT (by rfl) T.b_len (by decide +kernel) (pa_cons (pv 4) pa_nil)) (pa_cons (pe_cmpR (k_neT hr) (pv 4) pe_dnewT (nomark _)) pa_nil)))))) pa_nil))))) (pss_one (ps_ret pe_bl)) pss_nil) (pss_one (ps_expr (pe_bmK K PySem.F.plainAttrs_list PySem.F.slot_list_append PySem.F.type_list_append mt_append (pv 8) (pa_cons pe_int pa_nil))))))) (pss_cons (ps_set (i := 9) sc_law.nd rfl (by first | exact Or.inl rfl | exact Or.inr rfl) (pe_maxDef (K := K) (mg := mg) hr (pe_lock (pe_lc (own := [("_law_exps", 13)]) (by rfl) sc_law.nd (pi_keys (pv 4)) (blkOk_by (own := [("_law_exps", 13)]) (N := n_law) (sc := defScope s_law) (by decide +kernel)) (fun _ _ _ _ _ => (pg_name (i := 13) sc_law.nd rfl (by first | exact Or.inl rfl | exact Or.inr rfl))) (fun _ _ _ _ _ => pts_nil) (fun _ _ _ _ _ => (pe_callB (k_sumT K) (by rfl) T.b_sum (by decide +kernel) (pa_cons (pv 13) pa_nil))))) (pe_un un_neg pe_int) T.b_max)) (pss_cons (ps_set (i := 10) sc_law.nd rfl (by first | exact Or.inl rfl | exact Or.inr rfl) (pe_op (k_addU K) (pe_op (k_addU K) (pe_op (k_addU K) (pe_op (k_addU K) pe_str (pe_callTy c_strI (by rfl) T.b_str (by decide +kernel) (pa_cons (pv 3) pa_nil))) pe_str) (pe_callTy c_strI (by rfl) T.b_str (by decide +kernel) (pa_cons (pe_callB c_lenDT (by rfl) T.b_len (by decide +kernel) (pa_cons (pv 4) pa_nil)) pa_nil))) pe_str)) (pss_cons (ps_if (pt_not (pt_val (pe_gK (g__law_same T) (hr.mono (by decide)) (pa_cons (pe_lstF (pe_lst (pa_cons (pe_propK (K := K) (mg := mg) T.k_Poly (g_Poly_degree T) (hr.mono (by decide)) (pv 6)) (pa_cons (pe_callB (c_reprC (K := K) (mg := mg) (g_Poly_repr T) (hr.mono (by decide))) (by rfl) T.b_repr (by decide +kernel) (pa_cons (pv 6) pa_nil)) pa_nil)))) (pa_cons (pe_lstF (pe_lst (pa_cons (pv 9) (pa_cons (pv 10) pa_nil)))) pa_nil))))) (pss_one (ps_ret pe_bl)) pss_nil) (pss_cons (ps_asg (pe_tup (pa_cons (pe_op op_sub (pe_gK (g__law_take T) (hr.mono (by decide)) (pa_cons (pv 1) (pa_cons pe_int pa_nil))) pe_int) (pa_cons (pe_op op_sub (pe_gK (g__law_take T) (hr.mono (by decide)) (pa_cons (pv 1) (pa_cons (pe_op (k_addU K) (pv 3) pe_int) pa_nil))) pe_int) pa_nil))) (pg_tupK K (n := 2) (pgs_cons (pg_name (i := 11) sc_law.nd rfl (by first | exact Or.inl rfl | exact Or.inr rfl)) (pgs_cons (pg_name (i := 12) sc_law.nd rfl (by first | exact Or.inl rfl | exact Or.inr rfl)) pgs_nil)))) (pss_cons (ps_if (pt_not (pt_val (pe_gM (K := K) (mg := mg) (g__law_is_poly T) (hr.mono (by decide)) (pa_cons (pe_smK (K := K) T.k_Poly (g_Poly_number T) (hr.mono (by decide)) (pa_cons (pv 3) (pa_cons (pv 11) pa_nil))) (pa_cons (pv 3) (pa_cons (pe_gK (g__law_const T) (hr.mono (by decide)) (pa_cons (pv 3) (pa_cons (pv 11) pa_nil))) pa_nil)))))) (pss_one (ps_ret pe_bl)) pss_nil) (pss_one (ps_if (pt_chain op_le op_lt pe_int (pv 12) (pv 3)) (pss_one (ps_if (pt_not (pt_val (pe_gM (K := K) (mg := mg) (g__law_is_poly T) (hr.mono (by decide)) (pa_cons (pe_smX (K := K) T.k_Poly (g_Poly_unknown T) (hr.mono (by decide)) (pa_cons (pv 3) (pa_cons (pv 12) pa_nil)) (hx := passF)) (pa_cons (pv 3) (pa_cons (pe_gK (g__law_cell T) (hr.mono (by decide)) (pa_cons (pv 3) (pa_cons (pv 12) pa_nil))) pa_nil)))))) (pss_one (ps_ret pe_bl)) pss_nil)) (pss_one (ps_if (pt_cmpR (k_neD K hr.units) (pe_why (K := K) (mg := mg) T.f__law_why sc__law_why rfl (why_g T) TB hr (fun A outer s H E f c' hr => (pe_smX (K := K) T.k_Poly (g_Poly_unknown T) (hr.mono (by decide)) (pa_cons (pv 3) (pa_cons (pv 12) pa_nil))))) (pe_tup (pa_cons pe_str (pa_cons (pv 3) pa_nil))) (nomark _)) (pss_one (ps_ret pe_bl)) pss_nil)))))))))))))))) (pss_one (ps_ret (pe_gK (g__law_same T) (hr.mono (by decide)) (pa_cons (pe_lstF (pe_lst (pa_cons (pe_cc T.k_Poly T.v_Poly_MOST) (pa_cons (pe_mK0 (K := K) T.k_Poly (g_Poly_terms T) (hr.mono (by decide)) (pe_smK (K := K) T.k_Poly (g_Poly_number T) (hr.mono (by decide)) (pa_cons pe_int (pa_cons pe_int pa_nil)))) (pa_cons (pe_propK (K := K) (mg := mg) T.k_Poly (g_Poly_degree T) (hr.mono (by decide)) (pe_mkXK (K := K) T.k_Poly (g_Poly_init T) (hr.mono (by decide)) (pa_cons pe_int (pa_cons (pe_lstF (pe_lst (pa_cons (pe_tup (pa_cons (pe_tup pa_nil) (pa_cons pe_int pa_nil))) pa_nil))) pa_nil)) (hx := passF))) pa_nil))))) (pa_cons (pe_lstF (pe_lst (pa_cons pe_int (pa_cons (pe_lstF (pe_lst pa_nil)) (pa_cons pe_int pa_nil))))) pa_nil))))))), ?_⟩
  rintro ds M R ⟨ns, rfl, hn, rfl, q⟩
  show Xs K _ _ [some (.scr ns), none, none, none, none, none, none, none, none, none, none, none, none, none] _
  walk_at "xgo"
  refine ⟨ns, rfl, hn, fun f => ?_⟩
  walk_at "xgo"
  refine ys_to (fun ρ' M' => ∃ x2 x3 x4 x5 x6 x7 x8 x9 x10 x11 x12, ρ' = [some (.scr ns), some (.ref f), x2, x3, x4, x5, x6, x7, x8, x9, x10, x11, x12, none] ∧ M' = [(f, .feed), (Pt, .tab lamQ)]) ?_ ?_
  · refine ys_for allV ?_
    refine xi_rng1 ?_
    walk_at "xgo"
    refine ⟨fun i ρ' M' => ∃ x2 x3 x4 x5 x6 x7 x8 x9 x10 x11 x12, ρ' = [some (.scr ns), some (.ref f), x2, x3, x4, x5, x6, x7, x8, x9, x10, x11, x12, none] ∧ M' = [(f, .feed), (Pt, .tab lamQ)], ⟨_, _, _, _, _, _, _, _, _, _, _, rfl, rfl⟩, fun _ _ _ _ _ => trivial, ?_, ?_⟩
    · rintro i d ρ' M' hi rfl ⟨x2, x3, x4, x5, x6, x7, x8, x9, x10, x11, x12, rfl, rfl⟩
      walk_at "xgo"
      refine ⟨f, 6, rfl, .head, by decide, by decide, fun r r0 r1 => ?_⟩
      obtain ⟨m, rfl⟩ := Int.eq_ofNat_of_zero_le r0
      have hm : m ≤ 5 := by omega
      walk_at "xgo"
      refine ⟨f, m, 5, 6, rfl, .head, by omega, by decide, by decide, fun a p hp ha => ?_⟩
      have ok := hp.ok (by decide)
      have hpl := hp.len
      walk_at "xgo"
      refine ⟨_, p, rfl, .fr a _, by omega, ?_⟩
      walk_at "xgo"
      refine ⟨f, termsP p, rfl, .head, by rw [termsP_len]; omega, fun h qq hq => ?_⟩
      have eT : termsP qq = termsP p := (termsP_perm hq (ok.perm (termsP_self ok.2.2)).2.2).trans (termsP_perm (termsP_self ok.2.2) ok.2.2)
      have eD : degP qq = degP p := (degP_perm hq).trans (degP_perm (termsP_self ok.2.2))
      have hql : qq.length = p.length := hq.length_eq.trans (termsP_len p)
      have okq : PolyOk m qq := (ok.perm (termsP_self ok.2.2)).perm hq
      walk_at "xup"
      refine ys_mid (fun ρ' M' => ∃ a2, (∀ od, (a2, MO.lck od) ∉ [(h, MO.lst (qq.map termD)), (f, .feed), (Pt, .tab lamQ)]) ∧ ρ' = [some (.scr ns), some (.ref f), some (.int (0 + (i : Int))), some (.int m), some (.dt a (dkv p)), some (.ref h), some (polyD mg m a2 qq), x7, x8, x9, x10, x11, x12, none] ∧ M' = [(h, .lst (qq.map termD)), (f, .feed), (Pt, .tab lamQ)]) ?_ ?_
      · walk_at "x1"
        refine xe_frzI ?_
        refine xe_makeX ekF ?_
        walk_at "xgo"
        refine ⟨f, 2, rfl, .tail .head, by decide, by decide, fun t t0 t1 => ?_⟩
        walk_at "xgo"
        refine ⟨fun h0 => ?_, fun h0 => ?_⟩
        · walk_at "xgo"
          refine fun s1 => ⟨s1, _, m, qq, _, rfl, rfl, .inr (.inr ⟨_, rfl, .head⟩), ⟨okq.1, fun t ht => by have := (okq.2.1 t ht).1; omega⟩, ?_⟩
          rw [okq.due]
          refine fun a1 ha1 => ⟨rfl, s1, _, _, _, rfl, .head, ?_⟩
          walk_at "xgo"
          exact ⟨a1, ha1, rfl, rfl⟩
        · walk_at "xgo"
          refine fun s1 => ⟨s1, _, m, qq, _, rfl, rfl, .inr (.inl rfl), ⟨okq.1, fun t ht => by have := (okq.2.1 t ht).1; omega⟩, ?_⟩
          rw [okq.due]
          refine fun a1 ha1 => ⟨rfl, s1, _, _, _, rfl, .head, ?_⟩
          walk_at "xgo"
          exact ⟨a1, ha1, rfl, rfl⟩
      rintro ρ' M' ⟨a2, ha2, rfl, rfl⟩
      have nl1 : ∀ od, (a2, MO.lck od) ∉ ([(f, .feed), (Pt, .tab lamQ)] : Mm) := fun od hh => ha2 od (List.mem_cons_of_mem _ hh)
      have nla : ∀ (t : Addr) (ds : List D) (od : Obj), (a, MO.lck od) ∉ ([(t, .lst ds), (f, .feed), (Pt, .tab lamQ)] : Mm) := fun t ds od hh => by
        rcases List.mem_cons.mp hh with e | e
        · cases e
        · exact ha od e
      have nl2 : ∀ (t : Addr) (ds : List D) (od : Obj), (a2, MO.lck od) ∉ ([(t, .lst ds), (f, .feed), (Pt, .tab lamQ)] : Mm) := fun t ds od hh => by
        rcases List.mem_cons.mp hh with e | e
        · cases e
        · exact nl1 od e
      walk_at "xgo"
      refine xe_bm0 ?_
      walk_at "xgo"
      refine xm_clear .head .head ?_
      walk_at "xgo"
      refine xs_frzL .head (.same (.same (.same (.same (.same (.sub (.same (.same (.same (.same (.same (.same (.same (.same .nil)))))))))))))) ?_
      refine ys_to (fun ρ' M' => ∃ x7 x8, ρ' = [some (.scr ns), some (.ref f), some (.int (0 + (i : Int))), some (.int m), some (.dt a (dkv p)), some (.lst []), some (polyD mg m a2 qq), x7, x8, x9, x10, x11, x12, none] ∧ M' = [(f, .feed), (Pt, .tab lamQ)]) ?_ ?_
      · refine ys_for allV ?_
        refine xi_rng1 ?_
        walk_at "xgo"
        refine ⟨fun j ρ' M' => ∃ x7 x8, ρ' = [some (.scr ns), some (.ref f), some (.int (0 + (i : Int))), some (.int m), some (.dt a (dkv p)), some (.lst []), some (polyD mg m a2 qq), x7, x8, x9, x10, x11, x12, none] ∧ M' = [(f, .feed), (Pt, .tab lamQ)], ⟨_, _, rfl, rfl⟩, fun _ _ _ _ _ => trivial, ?_, ?_⟩
        · rintro j d ρ' M' hj rfl ⟨x7, x8, rfl, rfl⟩
          walk_at "x1"
          refine ys_frzN ?_
          walk_at "xgo"
          refine ⟨m, a2, qq, rfl, okq.1, fun t => ?_⟩
          walk_at "xgo"
          refine ys_if ?_
          walk_at "xgo"
          refine ⟨isC_f, m, a2, qq, rfl, ?_⟩
          walk_at "xgo"
          refine xc_lenC ekF isC_f ?_
          refine ⟨m, a2, qq, rfl, nl2 _ _, _, rfl, ⟨by omega, by omega⟩, ?_⟩
          walk_at "xgo"
          refine xc_boolC isC_f ?_
          refine ⟨m, a2, qq, rfl, nl2 _ _, _, rfl, ?_⟩
          walk_at "xgo"
          refine ⟨_, p, rfl, .fr a _, by omega, ?_⟩
          walk_at "xgo"
          refine xc_lenDT (.fr a _) (fun a3 ks od e => (by cases e; exact nla _ _ od)) ?_
          rw [List.length_map]
          walk_at "xgo"
          refine xe_frzVT ?_
          refine xe_dnewT fun p0 => ?_
          refine ⟨p0, [], _, rfl, .head, fun hp0 => ?_⟩
          refine xr_dictT (.fr a _) (.fr p0 _) (intsD_tk p) (by intro kv h; cases h) ?_
          rw [eqDD_nil]
          walk_at "xgo"
          rw [← eT, ← hql, ne_of p qq hql]
          refine .inr (.inr ⟨t, (termsP qq).map termD, _, rfl, .head, ?_, ?_⟩)
          · show (decide (4 ≤ 1000000) && ([.lst ((termsP qq).map termD), D.int m, .int qq.length, .bl (decide (qq ≠ []))]).all (pl 5)) = true
            rw [List.all_cons, okq.pl (by omega) 1]
            rfl
          refine ⟨_, rfl, fun h => (nomatch h), fun _ => ?_⟩
          walk_at "xgo"
          refine xm_append .head .head (by rw [List.length_map, termsP_len]; omega) ?_
          exact ⟨t, _, _, _, .head, .same (.same (.same (.same (.same (.same (.same (.same (.sub (.same (.same (.same (.same (.same .nil))))))))))))), _, _, rfl, rfl⟩
        · rintro ρ' M' ⟨x7, x8, rfl, rfl⟩
          exact ⟨_, _, rfl, rfl⟩
      rintro ρ' M' ⟨y7, y8, rfl, rfl⟩
      refine ys_mid (fun ρ' M' => ρ' = [some (.scr ns), some (.ref f), some (.int (0 + (i : Int))), some (.int m), some (.dt a (dkv p)), some (.lst []), some (polyD mg m a2 qq), y7, y8, some (.int (degP p)), x10, x11, x12, none] ∧ M' = [(f, .feed), (Pt, .tab lamQ)]) ?_ ?_
      · walk_at "x1"
        refine xe_maxDef ?_
        refine xe_lockT (kn_varT (i := 4) rfl) ha fun od => ?_
        refine xe_lc ?_
        refine xi_keysT ?_
        walk_at "xgo"
        refine ⟨a, dkv p, od, rfl, .head, ?_⟩
        refine ⟨.head, fun _ _ => .tail .head, by rw [List.length_map]; omega, fun i ys => ys = ((p.take i).map fun t => t.1.sum).map D.int, rfl, ?_, ?_⟩
        · rintro i d ys q0 hi ⟨k, v, hkv, rfl⟩ rfl
          obtain ⟨t, ht, rfl, rfl⟩ := dkv_at hkv
          rw [tD_kI]
          walk_at "xgo"
          refine xc_sumT ?_
          refine ⟨rfl, ?_⟩
          show _ = ((p.take (i + 1)).map fun t => t.1.sum).map D.int
          rw [List.take_add_one, ht, List.map_append, List.map_append]
          rfl
        · rintro ys rfl
          rw [List.length_map, List.take_length]
          refine ⟨_, .head, ?_⟩
          walk_at "xgo"
          refine ⟨_, _, rfl, rfl, ?_⟩
          walk_at "xgo"
          first | exact ⟨rfl, rfl⟩ | rfl
      rintro ρ' M' ⟨rfl, rfl⟩
      refine ys_mid (fun ρ' M' => ρ' = [some (.scr ns), some (.ref f), some (.int (0 + (i : Int))), some (.int m), some (.dt a (dkv p)), some (.lst []), some (polyD mg m a2 qq), y7, y8, some (.int (degP p)), some (.str (reprT m p.length)), x11, x12, none] ∧ M' = [(f, .feed), (Pt, .tab lamQ)]) ?_ ?_
      · rw [repr_eq]
        walk_at "xgo"
        have n1 : (Str.ofString (toString (m : Int))).length ≤ 4 := num_len2 (i := (m : Int)) (k := 4) (by omega) (by decide) (by omega)
        have n2 : (Str.ofString (toString (p.length : Int))).length ≤ 4 := num_len2 (i := (p.length : Int)) (k := 4) (by omega) (by decide) (by omega)
        refine xr_addSt (adds (k := 5) (l := 4) (by decide +kernel) n1 (by decide)) ?_
        have b1 := app_le (a := Str.ofString "Poly(") (k := 5) (by decide +kernel) n1
        generalize Str.ofString "Poly(" ++ Str.ofString (toString (m : Int)) = z1 at b1 ⊢
        clear n1
        have l2 : (Str.ofString " unknowns, ").length = 11 := rfl
        have b2 := app_le b1 (Nat.le_of_eq l2)
        walk_at "x1"
        refine xr_addSt (adds b1 (Nat.le_of_eq l2) (by decide)) ?_
        generalize z1 ++ Str.ofString " unknowns, " = z2 at b2 ⊢
        clear b1 l2
        have b3 := app_le b2 n2
        generalize hz : Str.ofString (toString (p.length : Int)) = z3 at n2 b3 ⊢
        walk_at "xgo"
        refine xc_lenDT (.fr a _) (fun a3 ks od e => (by cases e; exact ha od)) ?_
        rw [List.length_map]
        walk_at "xgo"
        rw [hz]
        refine xr_addSt (adds b2 n2 (by decide)) ?_
        generalize z2 ++ z3 = z4 at b3 ⊢
        clear b2 n2 hz
        have l3 : (Str.ofString " terms)").length = 7 := rfl
        walk_at "xgo"
        first | exact ⟨rfl, rfl⟩ | rfl
      rintro ρ' M' ⟨rfl, rfl⟩
      refine ys_mid (fun ρ' M' => ρ' = [some (.scr ns), some (.ref f), some (.int (0 + (i : Int))), some (.int m), some (.dt a (dkv p)), some (.lst []), some (polyD mg m a2 qq), y7, y8, some (.int (degP p)), some (.str (reprT m p.length)), x11, x12, none] ∧ M' = [(f, .feed), (Pt, .tab lamQ)]) ?_ ?_
      · refine ys_if ?_
        walk_at "xgo"
        refine ⟨isC_f, m, a2, qq, rfl, okq.1, nl1, ?_⟩
        walk_at "xgo"
        refine xc_reprC isC_f ?_
        refine ⟨m, a2, qq, rfl, by omega, okq.1, nl1, _, rfl, ?_⟩
        rw [hql, eD]
        walk_at "xgo"
        refine .inl ⟨_, rfl, rfl, ?_⟩
        refine ⟨_, rfl, fun h => (nomatch h), fun _ => ?_⟩
        walk_at "xgo"
        first | exact ⟨rfl, rfl⟩ | rfl
      rintro ρ' M' ⟨rfl, rfl⟩
      walk_at "xgo"
      refine ⟨f, 2001, rfl, .head, by decide, by decide, fun v v0 v1 => ?_⟩
      walk_at "xgo"
      refine ⟨f, m + 3, rfl, .head, by omega, big2000 (by omega), fun u u0 u1 => ?_⟩
      walk_at "xup"
      refine ys_mid (fun ρ' M' => ρ' = [some (.scr ns), some (.ref f), some (.int (0 + (i : Int))), some (.int m), some (.dt a (dkv p)), some (.lst []), some (polyD mg m a2 qq), y7, y8, some (.int (degP p)), some (.str (reprT m p.length)), some (.int (v - 1000)), some (.int (u - 1)), none] ∧ M' = [(f, .feed), (Pt, .tab lamQ)]) ?_ ?_
      · refine ys_if ?_
        walk_at "xgo"
        refine ⟨m, v - 1000, rfl, by omega, fun a4 ha4 => ?_⟩
        walk_at "xgo"
        refine ⟨m, v - 1000, rfl, by omega, fun a5 ha5 => ?_⟩
        walk_at "xgo"
        refine ⟨m, a4, a5, numP m (v - 1000), _, rfl, numP_ok m _, (numP_ok m _).1, by omega, rfl, ?_⟩
        refine ⟨_, rfl, fun h => (nomatch h), fun _ => ?_⟩
        walk_at "xgo"
        first | exact ⟨rfl, rfl⟩ | rfl
      rintro ρ' M' ⟨rfl, rfl⟩
      refine ys_if ?_
      walk_at "xgo"
      refine ⟨fun h0 => ?_, fun h0 => ?_⟩
      · walk_at "xgo"
        refine ⟨fun h1 => ?_, fun h1 => ?_⟩
        · have g0 := of_decide_eq_true h0
          have g1 := of_decide_eq_true h1
          obtain ⟨at', hat⟩ : ∃ n : Nat, u - 1 = n := ⟨(u - 1).toNat, by omega⟩
          rw [hat]
          refine ys_if ?_
          walk_at "xgo"
          refine ⟨m, at', rfl, by omega, ?_⟩
          rw [if_pos ⟨by omega, by omega⟩, Int.toNat_natCast]
          refine fun a6 ha6 => ?_
          walk_at "xgo"
          refine ⟨m, at', rfl, by omega, by omega, fun a7 ha7 => ?_⟩
          walk_at "xgo"
          refine ⟨m, a6, a7, unkP m at', _, rfl, unkP_ok (by omega), (unkP_ok (m := m) (by omega)).1, by omega, rfl, ?_⟩
          refine ⟨_, rfl, fun h => (nomatch h), fun _ => ?_⟩
          walk_at "xgo"
          first | exact ⟨_, _, _, _, _, _, _, _, _, _, _, rfl, rfl⟩ | rfl
        · have g1 := of_decide_eq_false h1
          refine ys_if ?_
          walk_at "xgo"
          refine xe_why (.tail .head) tabs (fun b E hE => ?_)
          walk_at "xgo"
          refine ⟨m, u - 1, rfl, by omega, ?_⟩
          rw [if_neg (fun z => g1 z.2)]
          refine (T.w_Mismatch).told ?_
          clear hE b
          walk_at "xgo"
          refine xr_neP 4 (.same _) (.same _) (by decide) (plS_misD _) (plS_misD _) ?_
          rw [eqv_misD]
          walk_at "xgo"
          first | exact ⟨_, _, _, _, _, _, _, _, _, _, _, rfl, rfl⟩ | rfl
      · have g0 := of_decide_eq_false h0
        refine ⟨_, rfl, fun h => (nomatch h), fun _ => ?_⟩
        refine ys_if ?_
        walk_at "xgo"
        refine xe_why (.tail .head) tabs (fun b E hE => ?_)
        walk_at "xgo"
        refine ⟨m, u - 1, rfl, by omega, ?_⟩
        rw [if_neg (fun z => g0 z.1)]
        refine (T.w_Mismatch).told ?_
        clear hE b
        walk_at "xgo"
        refine xr_neP 4 (.same _) (.same _) (by decide) (plS_misD _) (plS_misD _) ?_
        rw [eqv_misD]
        walk_at "xgo"
        first | exact ⟨_, _, _, _, _, _, _, _, _, _, _, rfl, rfl⟩ | rfl
    · rintro ρ' M' ⟨x2, x3, x4, x5, x6, x7, x8, x9, x10, x11, x12, rfl, rfl⟩
      exact ⟨_, _, _, _, _, _, _, _, _, _, _, rfl, rfl⟩
  · rintro ρ' M' ⟨x2, x3, x4, x5, x6, x7, x8, x9, x10, x11, x12, rfl, rfl⟩
    walk_at "xum"
    refine xe_frzVL ?_
    walk_at "xgo"
    refine ⟨8, 0, rfl, by decide, fun a0 ha0 => ?_⟩
    walk_at "xgo"
    refine ⟨8, a0, numP 8 0, rfl, by decide, fun t => ⟨t, _, _, rfl, .head, ?_⟩⟩
    walk_at "xgo"
    refine xe_frzI ?_
    refine xe_makeX ekF ?_
    walk_at "xgo"
    refine fun s1 => ⟨s1, _, 0, [([], 5)], _, rfl, rfl, .inl rfl, ⟨by decide, by decide⟩, ?_⟩
    rw [show termDue 0 [] 0 [([], 5)] = none by decide +kernel]
    refine fun a1 ha1 => ⟨rfl, s1, _, _, _, rfl, .head, ?_⟩
    walk_at "xgo"
    refine ⟨isC_f, 0, a1, [([], 5)], rfl, by decide, ha1, ?_⟩
    walk_at "xgo"
    rw [show termsP (numP 8 0) = [] from List.length_eq_zero_iff.mp (by rw [termsP_len]; rfl), show degP [([], 5)] = 0 by decide]
    refine .inl ⟨.lst [.int 8, .lst [], .int 0], rfl, by decide +kernel, ?_⟩
    exact q _

theorem top_mk {P : Program} {K : PySem.W.Frag} {h : Heap} {mg : Str → Option Value} (X : K.In h) (G : h.Ns mainGlobals mg)
    (z_abs : PySem.W.nsIn K mainGlobals "abs" = some none)
    (z_all : PySem.W.nsIn K mainGlobals "all" = some none)
    (z_bool : PySem.W.nsIn K mainGlobals "bool" = some none)
    (z_dict : PySem.W.nsIn K mainGlobals "dict" = some none)
    (z_enumerate : PySem.W.nsIn K mainGlobals "enumerate" = some none)
    (z_int : PySem.W.nsIn K mainGlobals "int" = some none)
    (z_isinstance : PySem.W.nsIn K mainGlobals "isinstance" = some none)
    (z_len : PySem.W.nsIn K mainGlobals "len" = some none)
    (z_list : PySem.W.nsIn K mainGlobals "list" = some none)
    (z_max : PySem.W.nsIn K mainGlobals "max" = some none)
    (z_range : PySem.W.nsIn K mainGlobals "range" = some none)
    (z_repr : PySem.W.nsIn K mainGlobals "repr" = some none)
    (z_sorted : PySem.W.nsIn K mainGlobals "sorted" = some none)
    (z_str : PySem.W.nsIn K mainGlobals "str" = some none)
    (z_sum : PySem.W.nsIn K mainGlobals "sum" = some none)
    (z_super : PySem.W.nsIn K mainGlobals "super" = some none)
    (z_tuple : PySem.W.nsIn K mainGlobals "tuple" = some none)
    (z_zip : PySem.W.nsIn K mainGlobals "zip" = some none)
    {C_InvalidTerm : Addr} (a_InvalidTerm : PySem.W.nsIn K mainGlobals "InvalidTerm" = some (some (.ref C_InvalidTerm)))
    {C_InvalidRule : Addr} (a_InvalidRule : PySem.W.nsIn K mainGlobals "InvalidRule" = some (some (.ref C_InvalidRule)))
    {C_ParseError : Addr} (a_ParseError : PySem.W.nsIn K mainGlobals "ParseError" = some (some (.ref C_ParseError)))
    {C_InvalidName : Addr} (a_InvalidName : PySem.W.nsIn K mainGlobals "InvalidName" = some (some (.ref C_InvalidName)))
    {C_DuplicateName : Addr} (a_DuplicateName : PySem.W.nsIn K mainGlobals "DuplicateName" = some (some (.ref C_DuplicateName)))
    {C_Ring : Addr} (a_Ring : PySem.W.nsIn K mainGlobals "Ring" = some (some (.ref C_Ring)))
    {C_InUse : Addr} (a_InUse : PySem.W.nsIn K mainGlobals "InUse" = some (some (.ref C_InUse)))
    {C_UnknownName : Addr} (a_UnknownName : PySem.W.nsIn K mainGlobals "UnknownName" = some (some (.ref C_UnknownName)))
    {C_InvalidSize : Addr} (a_InvalidSize : PySem.W.nsIn K mainGlobals "InvalidSize" = some (some (.ref C_InvalidSize)))
    {C_InvalidNumber : Addr} (a_InvalidNumber : PySem.W.nsIn K mainGlobals "InvalidNumber" = some (some (.ref C_InvalidNumber)))
    {C_InvalidLimit : Addr} (a_InvalidLimit : PySem.W.nsIn K mainGlobals "InvalidLimit" = some (some (.ref C_InvalidLimit)))
    {C_Mismatch : Addr} (a_Mismatch : PySem.W.nsIn K mainGlobals "Mismatch" = some (some (.ref C_Mismatch)))
    {C_TooMany : Addr} (a_TooMany : PySem.W.nsIn K mainGlobals "TooMany" = some (some (.ref C_TooMany)))
    {C_Differs : Addr} (a_Differs : PySem.W.nsIn K mainGlobals "Differs" = some (some (.ref C_Differs)))
    {C_InvalidCommand : Addr} (a_InvalidCommand : PySem.W.nsIn K mainGlobals "InvalidCommand" = some (some (.ref C_InvalidCommand)))
    {C_Broken : Addr} (a_Broken : PySem.W.nsIn K mainGlobals "Broken" = some (some (.ref C_Broken)))
    {C_InvalidTree : Addr} (a_InvalidTree : PySem.W.nsIn K mainGlobals "InvalidTree" = some (some (.ref C_InvalidTree)))
    {C_NothingLeft : Addr} (a_NothingLeft : PySem.W.nsIn K mainGlobals "NothingLeft" = some (some (.ref C_NothingLeft)))
    (opq : PySem.W.nsIn K cStatics "thirdparty.any" = some none) (ptop : (P.main.scope.names.lookup ("super" : Str)).isSome = false)
    {I_InvalidTerm cc_InvalidTerm ca_InvalidTerm : Addr} {oc_InvalidTerm kV_InvalidTerm dc_InvalidTerm pm_InvalidTerm ct_InvalidTerm cl_InvalidTerm cm_InvalidTerm : Value} {od_InvalidTerm an_InvalidTerm cld_InvalidTerm cdd_InvalidTerm : Option Addr} {sl_InvalidTerm csl_InvalidTerm ccs_InvalidTerm : Array (Option Value)} {vs_InvalidTerm : Array Value} {fl_InvalidTerm : Str} {tf_InvalidTerm : Tok}
    (o1_InvalidTerm : PySem.W.excInitIn K C_InvalidTerm [.type "ValueError", .type "Exception", .type "BaseException", .type "object"] "ValueError.__new__" = true)
    (o2_InvalidTerm : PySem.W.excOver K C_InvalidTerm [.type "ValueError", .type "Exception", .type "BaseException", .type "object"] = true)
    (hd_InvalidTerm : PySem.W.hasDictIn K C_InvalidTerm = true)
    (sa_InvalidTerm : PySem.W.findIn K (.ref C_InvalidTerm) "__setattr__" = some (some (.builtin "object.__setattr__")))
    (exC_InvalidTerm : PySem.W.subIn K (.ref C_InvalidTerm) (.type "BaseException") = some true)
    (ty_InvalidTerm : PySem.W.typeIn K (.ref C_InvalidTerm) = some (.type "type"))
    (kc_InvalidTerm : PySem.W.keepIn K (.ref C_InvalidTerm) = true)
    (nt_InvalidTerm : PySem.W.findIn K (.ref C_InvalidTerm) "tag" = some none)
    (nf_InvalidTerm : PySem.W.findIn K (.ref C_InvalidTerm) "at" = some none)
    (fi_InvalidTerm : PySem.W.findIn K (.ref C_InvalidTerm) "__init__" = some (some (.ref I_InvalidTerm)))
    (tI_InvalidTerm : PySem.W.typeIn K (.ref I_InvalidTerm) = some (.type "function"))
    (l_InvalidTerm : K.lookup I_InvalidTerm = some ⟨oc_InvalidTerm, od_InvalidTerm, .func (XX.supFd "__init__" "InvalidTerm.__init__" (defArgs s_InvalidTerm_init) (defBody s_InvalidTerm_init) (defScope s_InvalidTerm_init) cc_InvalidTerm .none kV_InvalidTerm dc_InvalidTerm pm_InvalidTerm an_InvalidTerm ca_InvalidTerm ct_InvalidTerm), sl_InvalidTerm⟩)
    (cell_InvalidTerm : K.lookup cc_InvalidTerm = some ⟨cl_InvalidTerm, cld_InvalidTerm, .cell (some (.ref C_InvalidTerm)), csl_InvalidTerm⟩)
    (code_InvalidTerm : PySem.W.codeIn K (.ref ca_InvalidTerm) "InvalidTerm.__init__" = true)
    (cod_InvalidTerm : K.lookup ca_InvalidTerm = some ⟨cm_InvalidTerm, cdd_InvalidTerm, .fields vs_InvalidTerm, ccs_InvalidTerm⟩)
    (v2_InvalidTerm : vs_InvalidTerm[2]? = some (.str fl_InvalidTerm tf_InvalidTerm))
    (hf_InvalidTerm : ((P.main.file : Str) == fl_InvalidTerm) = true)
    (own_InvalidTerm : PySem.W.mroIn K C_InvalidTerm (.ref C_InvalidTerm) = some true)
    (bas_InvalidTerm : PySem.W.mroIn K C_InvalidTerm (.type "ValueError") = some true)
    (alo_InvalidTerm : PySem.W.ks_superIn K C_InvalidTerm C_InvalidTerm "__init__" = some (some (.builtin "ValueError.__init__")))
    (xf_InvalidTerm : L2.xfB K C_InvalidTerm = true)
    (pk_InvalidTerm : pickB K (.ref C_InvalidTerm) ([([PySem.Value.ref C_InvalidTerm, PySem.Value.ref C_InvalidRule, PySem.Value.ref C_ParseError], some "at"), ([PySem.Value.ref C_InvalidName, PySem.Value.ref C_DuplicateName, PySem.Value.ref C_Ring, PySem.Value.ref C_InUse, PySem.Value.ref C_UnknownName], some "name"), ([PySem.Value.ref C_InvalidSize, PySem.Value.ref C_InvalidNumber, PySem.Value.ref C_InvalidLimit], some "given"), ([PySem.Value.ref C_Mismatch], some "wanted"), ([PySem.Value.ref C_TooMany], some "most"), ([PySem.Value.ref C_Differs], some "size"), ([PySem.Value.ref C_InvalidCommand], some "first"), ([PySem.Value.ref C_Broken], some "label"), ([PySem.Value.ref C_InvalidTree, PySem.Value.ref C_NothingLeft], none)] : Clauses) (some "at") = true)
    {I_Mismatch cc_Mismatch ca_Mismatch : Addr} {oc_Mismatch kV_Mismatch dc_Mismatch pm_Mismatch ct_Mismatch cl_Mismatch cm_Mismatch : Value} {od_Mismatch an_Mismatch cld_Mismatch cdd_Mismatch : Option Addr} {sl_Mismatch csl_Mismatch ccs_Mismatch : Array (Option Value)} {vs_Mismatch : Array Value} {fl_Mismatch : Str} {tf_Mismatch : Tok}
    (o1_Mismatch : PySem.W.excInitIn K C_Mismatch [.type "ValueError", .type "Exception", .type "BaseException", .type "object"] "ValueError.__new__" = true)
    (o2_Mismatch : PySem.W.excOver K C_Mismatch [.type "ValueError", .type "Exception", .type "BaseException", .type "object"] = true)
    (hd_Mismatch : PySem.W.hasDictIn K C_Mismatch = true)
    (sa_Mismatch : PySem.W.findIn K (.ref C_Mismatch) "__setattr__" = some (some (.builtin "object.__setattr__")))
    (exC_Mismatch : PySem.W.subIn K (.ref C_Mismatch) (.type "BaseException") = some true)
    (ty_Mismatch : PySem.W.typeIn K (.ref C_Mismatch) = some (.type "type"))
    (kc_Mismatch : PySem.W.keepIn K (.ref C_Mismatch) = true)
    (nt_Mismatch : PySem.W.findIn K (.ref C_Mismatch) "tag" = some none)
    (nf_Mismatch : PySem.W.findIn K (.ref C_Mismatch) "wanted" = some none)
    (fi_Mismatch : PySem.W.findIn K (.ref C_Mismatch) "__init__" = some (some (.ref I_Mismatch)))
    (tI_Mismatch : PySem.W.typeIn K (.ref I_Mismatch) = some (.type "function"))
    (l_Mismatch : K.lookup I_Mismatch = some ⟨oc_Mismatch, od_Mismatch, .func (XX.supFd "__init__" "Mismatch.__init__" (defArgs s_Mismatch_init) (defBody s_Mismatch_init) (defScope s_Mismatch_init) cc_Mismatch .none kV_Mismatch dc_Mismatch pm_Mismatch an_Mismatch ca_Mismatch ct_Mismatch), sl_Mismatch⟩)
    (cell_Mismatch : K.lookup cc_Mismatch = some ⟨cl_Mismatch, cld_Mismatch, .cell (some (.ref C_Mismatch)), csl_Mismatch⟩)
    (code_Mismatch : PySem.W.codeIn K (.ref ca_Mismatch) "Mismatch.__init__" = true)
    (cod_Mismatch : K.lookup ca_Mismatch = some ⟨cm_Mismatch, cdd_Mismatch, .fields vs_Mismatch, ccs_Mismatch⟩)
    (v2_Mismatch : vs_Mismatch[2]? = some (.str fl_Mismatch tf_Mismatch))
    (hf_Mismatch : ((P.main.file : Str) == fl_Mismatch) = true)
    (own_Mismatch : PySem.W.mroIn K C_Mismatch (.ref C_Mismatch) = some true)
    (bas_Mismatch : PySem.W.mroIn K C_Mismatch (.type "ValueError") = some true)
    (alo_Mismatch : PySem.W.ks_superIn K C_Mismatch C_Mismatch "__init__" = some (some (.builtin "ValueError.__init__")))
    (xf_Mismatch : L2.xfB K C_Mismatch = true)
    (pk_Mismatch : pickB K (.ref C_Mismatch) ([([PySem.Value.ref C_InvalidTerm, PySem.Value.ref C_InvalidRule, PySem.Value.ref C_ParseError], some "at"), ([PySem.Value.ref C_InvalidName, PySem.Value.ref C_DuplicateName, PySem.Value.ref C_Ring, PySem.Value.ref C_InUse, PySem.Value.ref C_UnknownName], some "name"), ([PySem.Value.ref C_InvalidSize, PySem.Value.ref C_InvalidNumber, PySem.Value.ref C_InvalidLimit], some "given"), ([PySem.Value.ref C_Mismatch], some "wanted"), ([PySem.Value.ref C_TooMany], some "most"), ([PySem.Value.ref C_Differs], some "size"), ([PySem.Value.ref C_InvalidCommand], some "first"), ([PySem.Value.ref C_Broken], some "label"), ([PySem.Value.ref C_InvalidTree, PySem.Value.ref C_NothingLeft], none)] : Clauses) (some "wanted") = true)
    {F__wall : Addr} {od__wall an__wall : Option Addr} {sl__wall : Array (Option Value)} {oc__wall kV__wall dc__wall pm__wall cd__wall ct__wall : Value}
    (a__wall : PySem.W.nsIn K mainGlobals "_wall" = some (some (.ref F__wall)))
    (l__wall : K.lookup F__wall = some ⟨oc__wall, od__wall, .func (PySem.W.fnOf "_wall" "_wall" (defArgs s__wall) (defBody s__wall) (defScope s__wall) .none kV__wall dc__wall pm__wall an__wall cd__wall ct__wall), sl__wall⟩) (c__wall : PySem.W.codeIn K cd__wall "_wall" = true) (k__wall : PySem.W.keepIn K (.ref F__wall) = true)
    {F_order_key : Addr} {od_order_key an_order_key : Option Addr} {sl_order_key : Array (Option Value)} {oc_order_key kV_order_key dc_order_key pm_order_key cd_order_key ct_order_key : Value}
    (a_order_key : PySem.W.nsIn K mainGlobals "order_key" = some (some (.ref F_order_key)))
    (l_order_key : K.lookup F_order_key = some ⟨oc_order_key, od_order_key, .func (PySem.W.fnOf "order_key" "order_key" (defArgs s_order_key) (defBody s_order_key) (defScope s_order_key) .none kV_order_key dc_order_key pm_order_key an_order_key cd_order_key ct_order_key), sl_order_key⟩) (c_order_key : PySem.W.codeIn K cd_order_key "order_key" = true) (k_order_key : PySem.W.keepIn K (.ref F_order_key) = true)
    {F_summed_tables : Addr} {od_summed_tables an_summed_tables : Option Addr} {sl_summed_tables : Array (Option Value)} {oc_summed_tables kV_summed_tables dc_summed_tables pm_summed_tables cd_summed_tables ct_summed_tables : Value}
    (a_summed_tables : PySem.W.nsIn K mainGlobals "summed_tables" = some (some (.ref F_summed_tables)))
    (l_summed_tables : K.lookup F_summed_tables = some ⟨oc_summed_tables, od_summed_tables, .func (PySem.W.fnOf "summed_tables" "summed_tables" (defArgs s_summed_tables) (defBody s_summed_tables) (defScope s_summed_tables) .none kV_summed_tables dc_summed_tables pm_summed_tables an_summed_tables cd_summed_tables ct_summed_tables), sl_summed_tables⟩) (c_summed_tables : PySem.W.codeIn K cd_summed_tables "summed_tables" = true) (k_summed_tables : PySem.W.keepIn K (.ref F_summed_tables) = true)
    {F_of_table : Addr} {od_of_table an_of_table : Option Addr} {sl_of_table : Array (Option Value)} {oc_of_table kV_of_table dc_of_table pm_of_table cd_of_table ct_of_table : Value}
    (a_of_table : PySem.W.nsIn K mainGlobals "of_table" = some (some (.ref F_of_table)))
    (l_of_table : K.lookup F_of_table = some ⟨oc_of_table, od_of_table, .func (PySem.W.fnOf "of_table" "of_table" (defArgs s_of_table) (defBody s_of_table) (defScope s_of_table) .none kV_of_table dc_of_table pm_of_table an_of_table cd_of_table ct_of_table), sl_of_table⟩) (c_of_table : PySem.W.codeIn K cd_of_table "of_table" = true) (k_of_table : PySem.W.keepIn K (.ref F_of_table) = true)
    {F_is_key : Addr} {od_is_key an_is_key : Option Addr} {sl_is_key : Array (Option Value)} {oc_is_key kV_is_key dc_is_key pm_is_key cd_is_key ct_is_key : Value}
    (a_is_key : PySem.W.nsIn K mainGlobals "is_key" = some (some (.ref F_is_key)))
    (l_is_key : K.lookup F_is_key = some ⟨oc_is_key, od_is_key, .func (PySem.W.fnOf "is_key" "is_key" (defArgs s_is_key) (defBody s_is_key) (defScope s_is_key) .none kV_is_key dc_is_key pm_is_key an_is_key cd_is_key ct_is_key), sl_is_key⟩) (c_is_key : PySem.W.codeIn K cd_is_key "is_key" = true) (k_is_key : PySem.W.keepIn K (.ref F_is_key) = true)
    {F_term_text : Addr} {od_term_text an_term_text : Option Addr} {sl_term_text : Array (Option Value)} {oc_term_text kV_term_text dc_term_text pm_term_text cd_term_text ct_term_text : Value}
    (a_term_text : PySem.W.nsIn K mainGlobals "term_text" = some (some (.ref F_term_text)))
    (l_term_text : K.lookup F_term_text = some ⟨oc_term_text, od_term_text, .func (PySem.W.fnOf "term_text" "term_text" (defArgs s_term_text) (defBody s_term_text) (defScope s_term_text) .none kV_term_text dc_term_text pm_term_text an_term_text cd_term_text ct_term_text), sl_term_text⟩) (c_term_text : PySem.W.codeIn K cd_term_text "term_text" = true) (k_term_text : PySem.W.keepIn K (.ref F_term_text) = true)
    {F__law_feed : Addr} {od__law_feed an__law_feed : Option Addr} {sl__law_feed : Array (Option Value)} {oc__law_feed kV__law_feed dc__law_feed pm__law_feed cd__law_feed ct__law_feed : Value}
    (a__law_feed : PySem.W.nsIn K mainGlobals "_law_feed" = some (some (.ref F__law_feed)))
    (l__law_feed : K.lookup F__law_feed = some ⟨oc__law_feed, od__law_feed, .func (PySem.W.fnOf "_law_feed" "_law_feed" (defArgs s__law_feed) (defBody s__law_feed) (defScope s__law_feed) .none kV__law_feed dc__law_feed pm__law_feed an__law_feed cd__law_feed ct__law_feed), sl__law_feed⟩) (c__law_feed : PySem.W.codeIn K cd__law_feed "_law_feed" = true) (k__law_feed : PySem.W.keepIn K (.ref F__law_feed) = true)
    {F__law_take : Addr} {od__law_take an__law_take : Option Addr} {sl__law_take : Array (Option Value)} {oc__law_take kV__law_take dc__law_take pm__law_take cd__law_take ct__law_take : Value}
    (a__law_take : PySem.W.nsIn K mainGlobals "_law_take" = some (some (.ref F__law_take)))
    (l__law_take : K.lookup F__law_take = some ⟨oc__law_take, od__law_take, .func (PySem.W.fnOf "_law_take" "_law_take" (defArgs s__law_take) (defBody s__law_take) (defScope s__law_take) .none kV__law_take dc__law_take pm__law_take an__law_take cd__law_take ct__law_take), sl__law_take⟩) (c__law_take : PySem.W.codeIn K cd__law_take "_law_take" = true) (k__law_take : PySem.W.keepIn K (.ref F__law_take) = true)
    {F__law_pick : Addr} {od__law_pick an__law_pick : Option Addr} {sl__law_pick : Array (Option Value)} {oc__law_pick kV__law_pick dc__law_pick pm__law_pick cd__law_pick ct__law_pick : Value}
    (a__law_pick : PySem.W.nsIn K mainGlobals "_law_pick" = some (some (.ref F__law_pick)))
    (l__law_pick : K.lookup F__law_pick = some ⟨oc__law_pick, od__law_pick, .func (PySem.W.fnOf "_law_pick" "_law_pick" (defArgs s__law_pick) (defBody s__law_pick) (defScope s__law_pick) .none kV__law_pick dc__law_pick pm__law_pick an__law_pick cd__law_pick ct__law_pick), sl__law_pick⟩) (c__law_pick : PySem.W.codeIn K cd__law_pick "_law_pick" = true) (k__law_pick : PySem.W.keepIn K (.ref F__law_pick) = true)
    {F__law_mixed : Addr} {od__law_mixed an__law_mixed : Option Addr} {sl__law_mixed : Array (Option Value)} {oc__law_mixed kV__law_mixed dc__law_mixed pm__law_mixed cd__law_mixed ct__law_mixed : Value}
    (a__law_mixed : PySem.W.nsIn K mainGlobals "_law_mixed" = some (some (.ref F__law_mixed)))
    (l__law_mixed : K.lookup F__law_mixed = some ⟨oc__law_mixed, od__law_mixed, .func (PySem.W.fnOf "_law_mixed" "_law_mixed" (defArgs s__law_mixed) (defBody s__law_mixed) (defScope s__law_mixed) .none kV__law_mixed dc__law_mixed pm__law_mixed an__law_mixed cd__law_mixed ct__law_mixed), sl__law_mixed⟩) (c__law_mixed : PySem.W.codeIn K cd__law_mixed "_law_mixed" = true) (k__law_mixed : PySem.W.keepIn K (.ref F__law_mixed) = true)
    {F__law_same : Addr} {od__law_same an__law_same : Option Addr} {sl__law_same : Array (Option Value)} {oc__law_same kV__law_same dc__law_same pm__law_same cd__law_same ct__law_same : Value}
    (a__law_same : PySem.W.nsIn K mainGlobals "_law_same" = some (some (.ref F__law_same)))
    (l__law_same : K.lookup F__law_same = some ⟨oc__law_same, od__law_same, .func (PySem.W.fnOf "_law_same" "_law_same" (defArgs s__law_same) (defBody s__law_same) (defScope s__law_same) .none kV__law_same dc__law_same pm__law_same an__law_same cd__law_same ct__law_same), sl__law_same⟩) (c__law_same : PySem.W.codeIn K cd__law_same "_law_same" = true) (k__law_same : PySem.W.keepIn K (.ref F__law_same) = true)
    {F__law_why : Addr} {od__law_why an__law_why : Option Addr} {sl__law_why : Array (Option Value)} {oc__law_why kV__law_why dc__law_why pm__law_why cd__law_why ct__law_why : Value}
    (a__law_why : PySem.W.nsIn K mainGlobals "_law_why" = some (some (.ref F__law_why)))
    (l__law_why : K.lookup F__law_why = some ⟨oc__law_why, od__law_why, .func (PySem.W.fnOf "_law_why" "_law_why" (defArgs s__law_why) (defBody s__law_why) (defScope s__law_why) .none kV__law_why dc__law_why pm__law_why an__law_why cd__law_why ct__law_why), sl__law_why⟩) (c__law_why : PySem.W.codeIn K cd__law_why "_law_why" = true) (k__law_why : PySem.W.keepIn K (.ref F__law_why) = true)
    {F__law_padd : Addr} {od__law_padd an__law_padd : Option Addr} {sl__law_padd : Array (Option Value)} {oc__law_padd kV__law_padd dc__law_padd pm__law_padd cd__law_padd ct__law_padd : Value}
    (a__law_padd : PySem.W.nsIn K mainGlobals "_law_padd" = some (some (.ref F__law_padd)))
    (l__law_padd : K.lookup F__law_padd = some ⟨oc__law_padd, od__law_padd, .func (PySem.W.fnOf "_law_padd" "_law_padd" (defArgs s__law_padd) (defBody s__law_padd) (defScope s__law_padd) .none kV__law_padd dc__law_padd pm__law_padd an__law_padd cd__law_padd ct__law_padd), sl__law_padd⟩) (c__law_padd : PySem.W.codeIn K cd__law_padd "_law_padd" = true) (k__law_padd : PySem.W.keepIn K (.ref F__law_padd) = true)
    {F__law_const : Addr} {od__law_const an__law_const : Option Addr} {sl__law_const : Array (Option Value)} {oc__law_const kV__law_const dc__law_const pm__law_const cd__law_const ct__law_const : Value}
    (a__law_const : PySem.W.nsIn K mainGlobals "_law_const" = some (some (.ref F__law_const)))
    (l__law_const : K.lookup F__law_const = some ⟨oc__law_const, od__law_const, .func (PySem.W.fnOf "_law_const" "_law_const" (defArgs s__law_const) (defBody s__law_const) (defScope s__law_const) .none kV__law_const dc__law_const pm__law_const an__law_const cd__law_const ct__law_const), sl__law_const⟩) (c__law_const : PySem.W.codeIn K cd__law_const "_law_const" = true) (k__law_const : PySem.W.keepIn K (.ref F__law_const) = true)
    {F__law_cell : Addr} {od__law_cell an__law_cell : Option Addr} {sl__law_cell : Array (Option Value)} {oc__law_cell kV__law_cell dc__law_cell pm__law_cell cd__law_cell ct__law_cell : Value}
    (a__law_cell : PySem.W.nsIn K mainGlobals "_law_cell" = some (some (.ref F__law_cell)))
    (l__law_cell : K.lookup F__law_cell = some ⟨oc__law_cell, od__law_cell, .func (PySem.W.fnOf "_law_cell" "_law_cell" (defArgs s__law_cell) (defBody s__law_cell) (defScope s__law_cell) .none kV__law_cell dc__law_cell pm__law_cell an__law_cell cd__law_cell ct__law_cell), sl__law_cell⟩) (c__law_cell : PySem.W.codeIn K cd__law_cell "_law_cell" = true) (k__law_cell : PySem.W.keepIn K (.ref F__law_cell) = true)
    {F__law_order : Addr} {od__law_order an__law_order : Option Addr} {sl__law_order : Array (Option Value)} {oc__law_order kV__law_order dc__law_order pm__law_order cd__law_order ct__law_order : Value}
    (a__law_order : PySem.W.nsIn K mainGlobals "_law_order" = some (some (.ref F__law_order)))
    (l__law_order : K.lookup F__law_order = some ⟨oc__law_order, od__law_order, .func (PySem.W.fnOf "_law_order" "_law_order" (defArgs s__law_order) (defBody s__law_order) (defScope s__law_order) .none kV__law_order dc__law_order pm__law_order an__law_order cd__law_order ct__law_order), sl__law_order⟩) (c__law_order : PySem.W.codeIn K cd__law_order "_law_order" = true) (k__law_order : PySem.W.keepIn K (.ref F__law_order) = true)
    {F__law_terms : Addr} {od__law_terms an__law_terms : Option Addr} {sl__law_terms : Array (Option Value)} {oc__law_terms kV__law_terms dc__law_terms pm__law_terms cd__law_terms ct__law_terms : Value}
    (a__law_terms : PySem.W.nsIn K mainGlobals "_law_terms" = some (some (.ref F__law_terms)))
    (l__law_terms : K.lookup F__law_terms = some ⟨oc__law_terms, od__law_terms, .func (PySem.W.fnOf "_law_terms" "_law_terms" (defArgs s__law_terms) (defBody s__law_terms) (defScope s__law_terms) .none kV__law_terms dc__law_terms pm__law_terms an__law_terms cd__law_terms ct__law_terms), sl__law_terms⟩) (c__law_terms : PySem.W.codeIn K cd__law_terms "_law_terms" = true) (k__law_terms : PySem.W.keepIn K (.ref F__law_terms) = true)
    {F__law_is_poly : Addr} {od__law_is_poly an__law_is_poly : Option Addr} {sl__law_is_poly : Array (Option Value)} {oc__law_is_poly kV__law_is_poly dc__law_is_poly pm__law_is_poly cd__law_is_poly ct__law_is_poly : Value}
    (a__law_is_poly : PySem.W.nsIn K mainGlobals "_law_is_poly" = some (some (.ref F__law_is_poly)))
    (l__law_is_poly : K.lookup F__law_is_poly = some ⟨oc__law_is_poly, od__law_is_poly, .func (PySem.W.fnOf "_law_is_poly" "_law_is_poly" (defArgs s__law_is_poly) (defBody s__law_is_poly) (defScope s__law_is_poly) .none kV__law_is_poly dc__law_is_poly pm__law_is_poly an__law_is_poly cd__law_is_poly ct__law_is_poly), sl__law_is_poly⟩) (c__law_is_poly : PySem.W.codeIn K cd__law_is_poly "_law_is_poly" = true) (k__law_is_poly : PySem.W.keepIn K (.ref F__law_is_poly) = true)
    {F__law_drawn : Addr} {od__law_drawn an__law_drawn : Option Addr} {sl__law_drawn : Array (Option Value)} {oc__law_drawn kV__law_drawn dc__law_drawn pm__law_drawn cd__law_drawn ct__law_drawn : Value}
    (a__law_drawn : PySem.W.nsIn K mainGlobals "_law_drawn" = some (some (.ref F__law_drawn)))
    (l__law_drawn : K.lookup F__law_drawn = some ⟨oc__law_drawn, od__law_drawn, .func (PySem.W.fnOf "_law_drawn" "_law_drawn" (defArgs s__law_drawn) (defBody s__law_drawn) (defScope s__law_drawn) .none kV__law_drawn dc__law_drawn pm__law_drawn an__law_drawn cd__law_drawn ct__law_drawn), sl__law_drawn⟩) (c__law_drawn : PySem.W.codeIn K cd__law_drawn "_law_drawn" = true) (k__law_drawn : PySem.W.keepIn K (.ref F__law_drawn) = true)
    {F_law : Addr} {od_law an_law : Option Addr} {sl_law : Array (Option Value)} {oc_law kV_law dc_law pm_law cd_law ct_law : Value}
    (a_law : PySem.W.nsIn K mainGlobals "law" = some (some (.ref F_law)))
    (l_law : K.lookup F_law = some ⟨oc_law, od_law, .func (PySem.W.fnOf "law" "law" (defArgs s_law) (defBody s_law) (defScope s_law) .none kV_law dc_law pm_law an_law cd_law ct_law), sl_law⟩) (c_law : PySem.W.codeIn K cd_law "law" = true) (k_law : PySem.W.keepIn K (.ref F_law) = true)
    {C_Poly : Addr} (a_Poly : PySem.W.nsIn K mainGlobals "Poly" = some (some (.ref C_Poly))) (pg_Poly : PySem.W.plainGet K C_Poly Str.empty = true) (hd_Poly : PySem.W.hasDictIn K C_Poly = true) (po_Poly : PySem.W.plainOver K C_Poly = true) (sa_Poly : PySem.W.findIn K (.ref C_Poly) "__setattr__" = some (some (.builtin "object.__setattr__"))) (mk_Poly : PySem.W.makesIn K C_Poly = true) (kc_Poly : PySem.W.keepIn K (.ref C_Poly) = true)
    (nf_Poly_width : PySem.W.findIn K (.ref C_Poly) "width" = some none)
    (nf_Poly_table : PySem.W.findIn K (.ref C_Poly) "table" = some none)
    (en_Poly : PySem.W.findIn K (.ref C_Poly) "__ne__" = some (some (.builtin "object.__ne__"))) (ic_Poly : PySem.W.findIn K (.ref C_Poly) "__class__" = some (some (.builtin "object.__class__"))) (ig_Poly : PySem.W.specialIn K (.builtin "object.__class__") "__get__" = some (some (.builtin "getset_descriptor.__get__"))) (it_Poly : PySem.W.takesIn K (.builtin "object.__class__") = some true) (io_Poly : PySem.W.mroIn K C_Poly (.type "object") = some true)
    (rd_Poly : PySem.W.readsIn K C_Poly (.type "type") = true) (ga_Poly : PySem.W.specialIn K (.ref C_Poly) "__getattribute__" = some (some (.builtin "type.__getattribute__")))
    {F_Poly_init : Addr} {od_Poly_init an_Poly_init : Option Addr} {sl_Poly_init : Array (Option Value)} {oc_Poly_init kV_Poly_init dc_Poly_init pm_Poly_init cd_Poly_init ct_Poly_init : Value}
    (fi_Poly_init : PySem.W.findIn K (.ref C_Poly) "__init__" = some (some (.ref F_Poly_init))) (is_Poly_init : PySem.W.isFn K (.ref F_Poly_init) = true)
    (l_Poly_init : K.lookup F_Poly_init = some ⟨oc_Poly_init, od_Poly_init, .func (PySem.W.fnOf "__init__" "Poly.__init__" (defArgs s_Poly_init) (defBody s_Poly_init) (defScope s_Poly_init) .none kV_Poly_init dc_Poly_init pm_Poly_init an_Poly_init cd_Poly_init ct_Poly_init), sl_Poly_init⟩) (c_Poly_init : PySem.W.codeIn K cd_Poly_init "Poly.__init__" = true) (k_Poly_init : PySem.W.keepIn K (.ref F_Poly_init) = true)
    {F_Poly_number : Addr} {od_Poly_number an_Poly_number : Option Addr} {sl_Poly_number : Array (Option Value)} {oc_Poly_number kV_Poly_number dc_Poly_number pm_Poly_number cd_Poly_number ct_Poly_number : Value}
    {P_Poly_number : Addr} {re_Poly_number : List Value} (at_Poly_number : PySem.W.findCls K (.ref C_Poly) (.type "type") "number" = some (.get (.builtin "staticmethod.__get__") (.ref P_Poly_number) .none (.ref C_Poly))) (rc_Poly_number : PySem.W.recIn K P_Poly_number "staticmethod" = some (.ref F_Poly_number :: re_Poly_number))
    (l_Poly_number : K.lookup F_Poly_number = some ⟨oc_Poly_number, od_Poly_number, .func (PySem.W.fnOf "number" "Poly.number" (defArgs s_Poly_number) (defBody s_Poly_number) (defScope s_Poly_number) .none kV_Poly_number dc_Poly_number pm_Poly_number an_Poly_number cd_Poly_number ct_Poly_number), sl_Poly_number⟩) (c_Poly_number : PySem.W.codeIn K cd_Poly_number "Poly.number" = true) (k_Poly_number : PySem.W.keepIn K (.ref F_Poly_number) = true)
    {F_Poly_unknown : Addr} {od_Poly_unknown an_Poly_unknown : Option Addr} {sl_Poly_unknown : Array (Option Value)} {oc_Poly_unknown kV_Poly_unknown dc_Poly_unknown pm_Poly_unknown cd_Poly_unknown ct_Poly_unknown : Value}
    {P_Poly_unknown : Addr} {re_Poly_unknown : List Value} (at_Poly_unknown : PySem.W.findCls K (.ref C_Poly) (.type "type") "unknown" = some (.get (.builtin "staticmethod.__get__") (.ref P_Poly_unknown) .none (.ref C_Poly))) (rc_Poly_unknown : PySem.W.recIn K P_Poly_unknown "staticmethod" = some (.ref F_Poly_unknown :: re_Poly_unknown))
    (l_Poly_unknown : K.lookup F_Poly_unknown = some ⟨oc_Poly_unknown, od_Poly_unknown, .func (PySem.W.fnOf "unknown" "Poly.unknown" (defArgs s_Poly_unknown) (defBody s_Poly_unknown) (defScope s_Poly_unknown) .none kV_Poly_unknown dc_Poly_unknown pm_Poly_unknown an_Poly_unknown cd_Poly_unknown ct_Poly_unknown), sl_Poly_unknown⟩) (c_Poly_unknown : PySem.W.codeIn K cd_Poly_unknown "Poly.unknown" = true) (k_Poly_unknown : PySem.W.keepIn K (.ref F_Poly_unknown) = true)
    {F_Poly_many : Addr} {od_Poly_many an_Poly_many : Option Addr} {sl_Poly_many : Array (Option Value)} {oc_Poly_many kV_Poly_many dc_Poly_many pm_Poly_many cd_Poly_many ct_Poly_many : Value}
    {P_Poly_many : Addr} {re_Poly_many : List Value} (at_Poly_many : PySem.W.findIn K (.ref C_Poly) "many" = some (some (.ref P_Poly_many))) (gp_Poly_many : PySem.W.specialIn K (.ref P_Poly_many) "__get__" = some (some (.builtin "property.__get__"))) (tk_Poly_many : PySem.W.takesIn K (.ref P_Poly_many) = some true) (rc_Poly_many : PySem.W.recIn K P_Poly_many "property" = some (.ref F_Poly_many :: re_Poly_many))
    (l_Poly_many : K.lookup F_Poly_many = some ⟨oc_Poly_many, od_Poly_many, .func (PySem.W.fnOf "many" "Poly.many" (defArgs s_Poly_many) (defBody s_Poly_many) (defScope s_Poly_many) .none kV_Poly_many dc_Poly_many pm_Poly_many an_Poly_many cd_Poly_many ct_Poly_many), sl_Poly_many⟩) (c_Poly_many : PySem.W.codeIn K cd_Poly_many "Poly.many" = true) (k_Poly_many : PySem.W.keepIn K (.ref F_Poly_many) = true)
    {F_Poly_degree : Addr} {od_Poly_degree an_Poly_degree : Option Addr} {sl_Poly_degree : Array (Option Value)} {oc_Poly_degree kV_Poly_degree dc_Poly_degree pm_Poly_degree cd_Poly_degree ct_Poly_degree : Value}
    {P_Poly_degree : Addr} {re_Poly_degree : List Value} (at_Poly_degree : PySem.W.findIn K (.ref C_Poly) "degree" = some (some (.ref P_Poly_degree))) (gp_Poly_degree : PySem.W.specialIn K (.ref P_Poly_degree) "__get__" = some (some (.builtin "property.__get__"))) (tk_Poly_degree : PySem.W.takesIn K (.ref P_Poly_degree) = some true) (rc_Poly_degree : PySem.W.recIn K P_Poly_degree "property" = some (.ref F_Poly_degree :: re_Poly_degree))
    (l_Poly_degree : K.lookup F_Poly_degree = some ⟨oc_Poly_degree, od_Poly_degree, .func (PySem.W.fnOf "degree" "Poly.degree" (defArgs s_Poly_degree) (defBody s_Poly_degree) (defScope s_Poly_degree) .none kV_Poly_degree dc_Poly_degree pm_Poly_degree an_Poly_degree cd_Poly_degree ct_Poly_degree), sl_Poly_degree⟩) (c_Poly_degree : PySem.W.codeIn K cd_Poly_degree "Poly.degree" = true) (k_Poly_degree : PySem.W.keepIn K (.ref F_Poly_degree) = true)
    {F_Poly_terms : Addr} {od_Poly_terms an_Poly_terms : Option Addr} {sl_Poly_terms : Array (Option Value)} {oc_Poly_terms kV_Poly_terms dc_Poly_terms pm_Poly_terms cd_Poly_terms ct_Poly_terms : Value}
    (fi_Poly_terms : PySem.W.findIn K (.ref C_Poly) "terms" = some (some (.ref F_Poly_terms))) (is_Poly_terms : PySem.W.isFn K (.ref F_Poly_terms) = true)
    (l_Poly_terms : K.lookup F_Poly_terms = some ⟨oc_Poly_terms, od_Poly_terms, .func (PySem.W.fnOf "terms" "Poly.terms" (defArgs s_Poly_terms) (defBody s_Poly_terms) (defScope s_Poly_terms) .none kV_Poly_terms dc_Poly_terms pm_Poly_terms an_Poly_terms cd_Poly_terms ct_Poly_terms), sl_Poly_terms⟩) (c_Poly_terms : PySem.W.codeIn K cd_Poly_terms "Poly.terms" = true) (k_Poly_terms : PySem.W.keepIn K (.ref F_Poly_terms) = true)
    {F_Poly_bool : Addr} {od_Poly_bool an_Poly_bool : Option Addr} {sl_Poly_bool : Array (Option Value)} {oc_Poly_bool kV_Poly_bool dc_Poly_bool pm_Poly_bool cd_Poly_bool ct_Poly_bool : Value}
    (fi_Poly_bool : PySem.W.findIn K (.ref C_Poly) "__bool__" = some (some (.ref F_Poly_bool))) (is_Poly_bool : PySem.W.isFn K (.ref F_Poly_bool) = true)
    (l_Poly_bool : K.lookup F_Poly_bool = some ⟨oc_Poly_bool, od_Poly_bool, .func (PySem.W.fnOf "__bool__" "Poly.__bool__" (defArgs s_Poly_bool) (defBody s_Poly_bool) (defScope s_Poly_bool) .none kV_Poly_bool dc_Poly_bool pm_Poly_bool an_Poly_bool cd_Poly_bool ct_Poly_bool), sl_Poly_bool⟩) (c_Poly_bool : PySem.W.codeIn K cd_Poly_bool "Poly.__bool__" = true) (k_Poly_bool : PySem.W.keepIn K (.ref F_Poly_bool) = true)
    {F_Poly_len : Addr} {od_Poly_len an_Poly_len : Option Addr} {sl_Poly_len : Array (Option Value)} {oc_Poly_len kV_Poly_len dc_Poly_len pm_Poly_len cd_Poly_len ct_Poly_len : Value}
    (fi_Poly_len : PySem.W.findIn K (.ref C_Poly) "__len__" = some (some (.ref F_Poly_len))) (is_Poly_len : PySem.W.isFn K (.ref F_Poly_len) = true)
    (l_Poly_len : K.lookup F_Poly_len = some ⟨oc_Poly_len, od_Poly_len, .func (PySem.W.fnOf "__len__" "Poly.__len__" (defArgs s_Poly_len) (defBody s_Poly_len) (defScope s_Poly_len) .none kV_Poly_len dc_Poly_len pm_Poly_len an_Poly_len cd_Poly_len ct_Poly_len), sl_Poly_len⟩) (c_Poly_len : PySem.W.codeIn K cd_Poly_len "Poly.__len__" = true) (k_Poly_len : PySem.W.keepIn K (.ref F_Poly_len) = true)
    {F_Poly_repr : Addr} {od_Poly_repr an_Poly_repr : Option Addr} {sl_Poly_repr : Array (Option Value)} {oc_Poly_repr kV_Poly_repr dc_Poly_repr pm_Poly_repr cd_Poly_repr ct_Poly_repr : Value}
    (fi_Poly_repr : PySem.W.findIn K (.ref C_Poly) "__repr__" = some (some (.ref F_Poly_repr))) (is_Poly_repr : PySem.W.isFn K (.ref F_Poly_repr) = true)
    (l_Poly_repr : K.lookup F_Poly_repr = some ⟨oc_Poly_repr, od_Poly_repr, .func (PySem.W.fnOf "__repr__" "Poly.__repr__" (defArgs s_Poly_repr) (defBody s_Poly_repr) (defScope s_Poly_repr) .none kV_Poly_repr dc_Poly_repr pm_Poly_repr an_Poly_repr cd_Poly_repr ct_Poly_repr), sl_Poly_repr⟩) (c_Poly_repr : PySem.W.codeIn K cd_Poly_repr "Poly.__repr__" = true) (k_Poly_repr : PySem.W.keepIn K (.ref F_Poly_repr) = true)
    {u_Poly_MOST : Tok} (cv_Poly_MOST : PySem.W.findCls K (.ref C_Poly) (.type "type") "MOST" = some (.val (.int 8 u_Poly_MOST))) : Top P K mg := by
  have ew : whyC mg whyL = ([([PySem.Value.ref C_InvalidTerm, PySem.Value.ref C_InvalidRule, PySem.Value.ref C_ParseError], some "at"), ([PySem.Value.ref C_InvalidName, PySem.Value.ref C_DuplicateName, PySem.Value.ref C_Ring, PySem.Value.ref C_InUse, PySem.Value.ref C_UnknownName], some "name"), ([PySem.Value.ref C_InvalidSize, PySem.Value.ref C_InvalidNumber, PySem.Value.ref C_InvalidLimit], some "given"), ([PySem.Value.ref C_Mismatch], some "wanted"), ([PySem.Value.ref C_TooMany], some "most"), ([PySem.Value.ref C_Differs], some "size"), ([PySem.Value.ref C_InvalidCommand], some "first"), ([PySem.Value.ref C_Broken], some "label"), ([PySem.Value.ref C_InvalidTree, PySem.Value.ref C_NothingLeft], none)] : Clauses) := by simp only [whyC, whyL, List.map, clsA_of (PySem.W.mg_of X G a_InvalidTerm), clsA_of (PySem.W.mg_of X G a_InvalidRule), clsA_of (PySem.W.mg_of X G a_ParseError), clsA_of (PySem.W.mg_of X G a_InvalidName), clsA_of (PySem.W.mg_of X G a_DuplicateName), clsA_of (PySem.W.mg_of X G a_Ring), clsA_of (PySem.W.mg_of X G a_InUse), clsA_of (PySem.W.mg_of X G a_UnknownName), clsA_of (PySem.W.mg_of X G a_InvalidSize), clsA_of (PySem.W.mg_of X G a_InvalidNumber), clsA_of (PySem.W.mg_of X G a_InvalidLimit), clsA_of (PySem.W.mg_of X G a_Mismatch), clsA_of (PySem.W.mg_of X G a_TooMany), clsA_of (PySem.W.mg_of X G a_Differs), clsA_of (PySem.W.mg_of X G a_InvalidCommand), clsA_of (PySem.W.mg_of X G a_Broken), clsA_of (PySem.W.mg_of X G a_InvalidTree), clsA_of (PySem.W.mg_of X G a_NothingLeft)]
  exact
  { b_abs := PySem.W.mg_none_of X G z_abs
    b_all := PySem.W.mg_none_of X G z_all
    b_bool := PySem.W.mg_none_of X G z_bool
    b_dict := PySem.W.mg_none_of X G z_dict
    b_enumerate := PySem.W.mg_none_of X G z_enumerate
    b_int := PySem.W.mg_none_of X G z_int
    b_isinstance := PySem.W.mg_none_of X G z_isinstance
    b_len := PySem.W.mg_none_of X G z_len
    b_list := PySem.W.mg_none_of X G z_list
    b_max := PySem.W.mg_none_of X G z_max
    b_range := PySem.W.mg_none_of X G z_range
    b_repr := PySem.W.mg_none_of X G z_repr
    b_sorted := PySem.W.mg_none_of X G z_sorted
    b_str := PySem.W.mg_none_of X G z_str
    b_sum := PySem.W.mg_none_of X G z_sum
    b_super := PySem.W.mg_none_of X G z_super
    b_tuple := PySem.W.mg_none_of X G z_tuple
    b_zip := PySem.W.mg_none_of X G z_zip
    z_InvalidTerm := cls_at X G a_InvalidTerm
    z_InvalidRule := cls_at X G a_InvalidRule
    z_ParseError := cls_at X G a_ParseError
    z_InvalidName := cls_at X G a_InvalidName
    z_DuplicateName := cls_at X G a_DuplicateName
    z_Ring := cls_at X G a_Ring
    z_InUse := cls_at X G a_InUse
    z_UnknownName := cls_at X G a_UnknownName
    z_InvalidSize := cls_at X G a_InvalidSize
    z_InvalidNumber := cls_at X G a_InvalidNumber
    z_InvalidLimit := cls_at X G a_InvalidLimit
    z_Mismatch := cls_at X G a_Mismatch
    z_TooMany := cls_at X G a_TooMany
    z_Differs := cls_at X G a_Differs
    z_InvalidCommand := cls_at X G a_InvalidCommand
    z_Broken := cls_at X G a_Broken
    z_InvalidTree := cls_at X G a_InvalidTree
    z_NothingLeft := cls_at X G a_NothingLeft
    x_InvalidTerm := XCls.mk' X G a_InvalidTerm o1_InvalidTerm o2_InvalidTerm hd_InvalidTerm sa_InvalidTerm exC_InvalidTerm ty_InvalidTerm kc_InvalidTerm nt_InvalidTerm nf_InvalidTerm fi_InvalidTerm tI_InvalidTerm l_InvalidTerm cell_InvalidTerm code_InvalidTerm cod_InvalidTerm v2_InvalidTerm hf_InvalidTerm ptop own_InvalidTerm bas_InvalidTerm alo_InvalidTerm opq fun _ _ _ _ _ _ us hl => match us, hl with | [_, _], _ => rfl
    w_InvalidTerm := ExW.mk' X G a_InvalidTerm ew xf_InvalidTerm pk_InvalidTerm nt_InvalidTerm fun f z => by cases z; exact nf_InvalidTerm
    x_Mismatch := XCls.mk' X G a_Mismatch o1_Mismatch o2_Mismatch hd_Mismatch sa_Mismatch exC_Mismatch ty_Mismatch kc_Mismatch nt_Mismatch nf_Mismatch fi_Mismatch tI_Mismatch l_Mismatch cell_Mismatch code_Mismatch cod_Mismatch v2_Mismatch hf_Mismatch ptop own_Mismatch bas_Mismatch alo_Mismatch opq fun _ _ _ _ _ _ us hl => match us, hl with | [_, _], _ => rfl
    w_Mismatch := ExW.mk' X G a_Mismatch ew xf_Mismatch pk_Mismatch nt_Mismatch fun f z => by cases z; exact nf_Mismatch
    f__wall := FT.mk' X G a__wall l__wall c__wall k__wall fun _ _ _ _ _ _ us hl => match us, hl with | [_], _ => rfl
    f_order_key := FT.mk' X G a_order_key l_order_key c_order_key k_order_key fun _ _ _ _ _ _ us hl => match us, hl with | [_], _ => rfl
    f_summed_tables := FT.mk' X G a_summed_tables l_summed_tables c_summed_tables k_summed_tables fun _ _ _ _ _ _ us hl => match us, hl with | [_, _, _], _ => rfl
    f_of_table := FT.mk' X G a_of_table l_of_table c_of_table k_of_table fun _ _ _ _ _ _ us hl => match us, hl with | [_, _], _ => rfl
    f_is_key := FT.mk' X G a_is_key l_is_key c_is_key k_is_key fun _ _ _ _ _ _ us hl => match us, hl with | [_, _], _ => rfl
    f_term_text := FT.mk' X G a_term_text l_term_text c_term_text k_term_text fun _ _ _ _ _ _ us hl => match us, hl with | [_, _, _], _ => rfl
    f__law_feed := FT.mk' X G a__law_feed l__law_feed c__law_feed k__law_feed fun _ _ _ _ _ _ us hl => match us, hl with | [_], _ => rfl
    f__law_take := FT.mk' X G a__law_take l__law_take c__law_take k__law_take fun _ _ _ _ _ _ us hl => match us, hl with | [_, _], _ => rfl
    f__law_pick := FT.mk' X G a__law_pick l__law_pick c__law_pick k__law_pick fun _ _ _ _ _ _ us hl => match us, hl with | [_, _], _ => rfl
    f__law_mixed := FT.mk' X G a__law_mixed l__law_mixed c__law_mixed k__law_mixed fun _ _ _ _ _ _ us hl => match us, hl with | [_, _], _ => rfl
    f__law_same := FT.mk' X G a__law_same l__law_same c__law_same k__law_same fun _ _ _ _ _ _ us hl => match us, hl with | [_, _], _ => rfl
    f__law_why := FT.mk' X G a__law_why l__law_why c__law_why k__law_why fun _ _ _ _ _ _ us hl => match us, hl with | [_], _ => rfl
    f__law_padd := FT.mk' X G a__law_padd l__law_padd c__law_padd k__law_padd fun _ _ _ _ _ _ us hl => match us, hl with | [_, _, _], _ => rfl
    f__law_const := FT.mk' X G a__law_const l__law_const c__law_const k__law_const fun _ _ _ _ _ _ us hl => match us, hl with | [_, _], _ => rfl
    f__law_cell := FT.mk' X G a__law_cell l__law_cell c__law_cell k__law_cell fun _ _ _ _ _ _ us hl => match us, hl with | [_, _], _ => rfl
    f__law_order := FT.mk' X G a__law_order l__law_order c__law_order k__law_order fun _ _ _ _ _ _ us hl => match us, hl with | [_], _ => rfl
    f__law_terms := FT.mk' X G a__law_terms l__law_terms c__law_terms k__law_terms fun _ _ _ _ _ _ us hl => match us, hl with | [_], _ => rfl
    f__law_is_poly := FT.mk' X G a__law_is_poly l__law_is_poly c__law_is_poly k__law_is_poly fun _ _ _ _ _ _ us hl => match us, hl with | [_, _, _], _ => rfl
    f__law_drawn := FT.mk' X G a__law_drawn l__law_drawn c__law_drawn k__law_drawn fun _ _ _ _ _ _ us hl => match us, hl with | [_, _, _, _], _ => rfl
    f_law := FT.mk' X G a_law l_law c_law k_law fun _ _ _ _ _ _ us hl => match us, hl with | [_], _ => rfl
    k_Poly := CK.mk' X G a_Poly pg_Poly hd_Poly po_Poly sa_Poly mk_Poly kc_Poly
    n_Poly_width := FN.mk' X G a_Poly nf_Poly_width
    n_Poly_table := FN.mk' X G a_Poly nf_Poly_table
    e_Poly := NE.mk' X G a_Poly en_Poly
    i_Poly := IsK.mk' X G a_Poly ic_Poly ig_Poly it_Poly io_Poly
    m_Poly_init := MT.mk' X G a_Poly fi_Poly_init is_Poly_init l_Poly_init c_Poly_init k_Poly_init fun _ _ _ _ _ _ us hl => match us, hl with | [_, _, _], _ => rfl
    m_Poly_number := SM.mk' X G a_Poly rd_Poly ga_Poly at_Poly_number rc_Poly_number l_Poly_number c_Poly_number k_Poly_number fun _ _ _ _ _ _ us hl => match us, hl with | [_, _], _ => rfl
    m_Poly_unknown := SM.mk' X G a_Poly rd_Poly ga_Poly at_Poly_unknown rc_Poly_unknown l_Poly_unknown c_Poly_unknown k_Poly_unknown fun _ _ _ _ _ _ us hl => match us, hl with | [_, _], _ => rfl
    m_Poly_many := PMt.mk' X G a_Poly at_Poly_many gp_Poly_many tk_Poly_many rc_Poly_many l_Poly_many c_Poly_many k_Poly_many fun _ _ _ _ _ _ us hl => match us, hl with | [_], _ => rfl
    m_Poly_degree := PMt.mk' X G a_Poly at_Poly_degree gp_Poly_degree tk_Poly_degree rc_Poly_degree l_Poly_degree c_Poly_degree k_Poly_degree fun _ _ _ _ _ _ us hl => match us, hl with | [_], _ => rfl
    m_Poly_terms := MT.mk' X G a_Poly fi_Poly_terms is_Poly_terms l_Poly_terms c_Poly_terms k_Poly_terms fun _ _ _ _ _ _ us hl => match us, hl with | [_], _ => rfl
    m_Poly_bool := MT.mk' X G a_Poly fi_Poly_bool is_Poly_bool l_Poly_bool c_Poly_bool k_Poly_bool fun _ _ _ _ _ _ us hl => match us, hl with | [_], _ => rfl
    m_Poly_len := MT.mk' X G a_Poly fi_Poly_len is_Poly_len l_Poly_len c_Poly_len k_Poly_len fun _ _ _ _ _ _ us hl => match us, hl with | [_], _ => rfl
    m_Poly_repr := MT.mk' X G a_Poly fi_Poly_repr is_Poly_repr l_Poly_repr c_Poly_repr k_Poly_repr fun _ _ _ _ _ _ us hl => match us, hl with | [_], _ => rfl
    v_Poly_MOST := CC.mk' X G a_Poly rd_Poly ga_Poly cv_Poly_MOST ⟨_, rfl⟩ }
theorem law_at {l : PySem.W.OpenLaw} {K : PySem.W.Frag} {mg : Str → Option Value} {w : World} {fa F c Pt : Addr} {h : Heap} {od an : Option Addr} {sl : Array (Option Value)} {oc kV dc pm ct : Value} (T : Top l.prog K mg) (KX : K.In h) (G : h.Ns mainGlobals mg) (hfa : mg "law" = some (.ref fa))
    (a : PySem.W.nsIn K mainGlobals "law" = some (some (.ref F))) (lk : K.lookup F = some ⟨oc, od, .func (PySem.W.fnOf "law" "law" (defArgs s_law) (defBody s_law) (defScope s_law) .none kV dc pm an (.ref c) ct), sl⟩) (cd : PySem.W.codeIn K (.ref c) "law" = true)
    (tb : h.get? Pt = some (PySem.W.tabObj #[])) (ch : PySem.W.codeHdIn K c Pt = true) (nt : (K.lookup Pt).isNone = true) : LamX.LawAtS l w K CX0 12 63 "_law_script" mg fa h := by
  have e := hfa.symm.trans (PySem.W.mg_of KX G a)
  cases e
  have one : ∀ {Q : Addr × Addr → Prop}, Q (c, Pt) → ∀ p ∈ [(c, Pt)], Q p := fun q p hp => by
    cases List.mem_singleton.mp hp
    exact q
  refine ⟨_, [(c, Pt)], spOf K (S_law Pt), one tb, one (Option.isNone_iff_eq_none.mp nt), one (PySem.W.codeHd_of_K KX ch), fun s u => .of_eq rfl, fun H a ns hl _ hT hS => law_startT (T := [(Pt, lamQ)]) (fun p hp => ?_) (by simp) hS (law_in hl), fun base _ _ TB => g_law T ⟨_, _, _, _, _, _, _, _, rfl, lk, cd⟩ (TB (c, Pt) (by simp))⟩
  cases List.mem_singleton.mp hp
  exact hT (c, Pt) (by simp)

end
end Ev
open PySem PySem.W PyProof.Rows
set_option maxHeartbeats 0 in
theorem PySem.Challenge.cw_evertally_k01_polynomials_return_their_t_holds : PySem.Challenge.rw_evertally_k01_polynomials_return_their_t.Holds := by
  w_on; o_law; k_head; (case hw => w_witness2)
  k_fill
  refine LamX.walk_ofTs (l := PySem.Challenge.rw_evertally_k01_polynomials_return_their_t) (n := 63) (k := 12) (x := "_law_script") (CX := fun _ => L2.CX0) rfl (by decide) rfl ⟨rfl, by decide, by decide⟩ (fun w h Y => PySem.W.km_in_of Y) ?F (fun _ _ _ _ _ h => h)
  case F =>
    intro w mg fa h Y KX G hmg
    refine' Ev.law_at (Ev.top_mk KX G ?z_abs ?z_all ?z_bool ?z_dict ?z_enumerate ?z_int ?z_isinstance ?z_len ?z_list ?z_max ?z_range ?z_repr ?z_sorted ?z_str ?z_sum ?z_super ?z_tuple ?z_zip ?a_InvalidTerm ?a_InvalidRule ?a_ParseError ?a_InvalidName ?a_DuplicateName ?a_Ring ?a_InUse ?a_UnknownName ?a_InvalidSize ?a_InvalidNumber ?a_InvalidLimit ?a_Mismatch ?a_TooMany ?a_Differs ?a_InvalidCommand ?a_Broken ?a_InvalidTree ?a_NothingLeft ?opq ?ptop ?o1_InvalidTerm ?o2_InvalidTerm ?hd_InvalidTerm ?sa_InvalidTerm ?exC_InvalidTerm ?ty_InvalidTerm ?kc_InvalidTerm ?nt_InvalidTerm ?nf_InvalidTerm ?fi_InvalidTerm ?tI_InvalidTerm ?l_InvalidTerm ?cell_InvalidTerm ?code_InvalidTerm ?cod_InvalidTerm ?v2_InvalidTerm ?hf_InvalidTerm ?own_InvalidTerm ?bas_InvalidTerm ?alo_InvalidTerm ?xf_InvalidTerm ?pk_InvalidTerm ?o1_Mismatch ?o2_Mismatch ?hd_Mismatch ?sa_Mismatch ?exC_Mismatch ?ty_Mismatch ?kc_Mismatch ?nt_Mismatch ?nf_Mismatch ?fi_Mismatch ?tI_Mismatch ?l_Mismatch ?cell_Mismatch ?code_Mismatch ?cod_Mismatch ?v2_Mismatch ?hf_Mismatch ?own_Mismatch ?bas_Mismatch ?alo_Mismatch ?xf_Mismatch ?pk_Mismatch ?a__wall ?l__wall ?c__wall ?k__wall ?a_order_key ?l_order_key ?c_order_key ?k_order_key ?a_summed_tables ?l_summed_tables ?c_summed_tables ?k_summed_tables ?a_of_table ?l_of_table ?c_of_table ?k_of_table ?a_is_key ?l_is_key ?c_is_key ?k_is_key ?a_term_text ?l_term_text ?c_term_text ?k_term_text ?a__law_feed ?l__law_feed ?c__law_feed ?k__law_feed ?a__law_take ?l__law_take ?c__law_take ?k__law_take ?a__law_pick ?l__law_pick ?c__law_pick ?k__law_pick ?a__law_mixed ?l__law_mixed ?c__law_mixed ?k__law_mixed ?a__law_same ?l__law_same ?c__law_same ?k__law_same ?a__law_why ?l__law_why ?c__law_why ?k__law_why ?a__law_padd ?l__law_padd ?c__law_padd ?k__law_padd ?a__law_const ?l__law_const ?c__law_const ?k__law_const ?a__law_cell ?l__law_cell ?c__law_cell ?k__law_cell ?a__law_order ?l__law_order ?c__law_order ?k__law_order ?a__law_terms ?l__law_terms ?c__law_terms ?k__law_terms ?a__law_is_poly ?l__law_is_poly ?c__law_is_poly ?k__law_is_poly ?a__law_drawn ?l__law_drawn ?c__law_drawn ?k__law_drawn ?a_law ?l_law ?c_law ?k_law ?a_Poly ?pg_Poly ?hd_Poly ?po_Poly ?sa_Poly ?mk_Poly ?kc_Poly ?nf_Poly_width ?nf_Poly_table ?en_Poly ?ic_Poly ?ig_Poly ?it_Poly ?io_Poly ?rd_Poly ?ga_Poly ?fi_Poly_init ?is_Poly_init ?l_Poly_init ?c_Poly_init ?k_Poly_init ?at_Poly_number ?rc_Poly_number ?l_Poly_number ?c_Poly_number ?k_Poly_number ?at_Poly_unknown ?rc_Poly_unknown ?l_Poly_unknown ?c_Poly_unknown ?k_Poly_unknown ?at_Poly_many ?gp_Poly_many ?tk_Poly_many ?rc_Poly_many ?l_Poly_many ?c_Poly_many ?k_Poly_many ?at_Poly_degree ?gp_Poly_degree ?tk_Poly_degree ?rc_Poly_degree ?l_Poly_degree ?c_Poly_degree ?k_Poly_degree ?fi_Poly_terms ?is_Poly_terms ?l_Poly_terms ?c_Poly_terms ?k_Poly_terms ?fi_Poly_bool ?is_Poly_bool ?l_Poly_bool ?c_Poly_bool ?k_Poly_bool ?fi_Poly_len ?is_Poly_len ?l_Poly_len ?c_Poly_len ?k_Poly_len ?fi_Poly_repr ?is_Poly_repr ?l_Poly_repr ?c_Poly_repr ?k_Poly_repr ?cv_Poly_MOST) KX G hmg ?la ?ll ?lc (PySem.W.km_tabs_of Y _ List.mem_cons_self) ?lh ?ln
    (case la => k_is)
    (case ll => k_is)
    (case lc => k_is)
    (case lh => kernel_rfl)
    (case ln => kernel_rfl)
    (case z_abs => k_is)
    (case z_all => k_is)
    (case z_bool => k_is)
    (case z_dict => k_is)
    (case z_enumerate => k_is)
    (case z_int => k_is)
    (case z_isinstance => k_is)
    (case z_len => k_is)
    (case z_list => k_is)
    (case z_max => k_is)
    (case z_range => k_is)
    (case z_repr => k_is)
    (case z_sorted => k_is)
    (case z_str => k_is)
    (case z_sum => k_is)
    (case z_super => k_is)
    (case z_tuple => k_is)
    (case z_zip => k_is)
    (case a_InvalidTerm => k_is)
    (case a_InvalidRule => k_is)
    (case a_ParseError => k_is)
    (case a_InvalidName => k_is)
    (case a_DuplicateName => k_is)
    (case a_Ring => k_is)
    (case a_InUse => k_is)
    (case a_UnknownName => k_is)
    (case a_InvalidSize => k_is)
    (case a_InvalidNumber => k_is)
    (case a_InvalidLimit => k_is)
    (case a_Mismatch => k_is)
    (case a_TooMany => k_is)
    (case a_Differs => k_is)
    (case a_InvalidCommand => k_is)
    (case a_Broken => k_is)
    (case a_InvalidTree => k_is)
    (case a_NothingLeft => k_is)
    (case opq => kernel_rfl)
    (case ptop => kernel_rfl)
    (case o1_InvalidTerm => kernel_rfl)
    (case o2_InvalidTerm => kernel_rfl)
    (case hd_InvalidTerm => k_is)
    (case sa_InvalidTerm => k_is)
    (case exC_InvalidTerm => k_is)
    (case ty_InvalidTerm => k_is)
    (case kc_InvalidTerm => k_is)
    (case nt_InvalidTerm => k_is)
    (case nf_InvalidTerm => k_is)
    (case fi_InvalidTerm => k_is)
    (case tI_InvalidTerm => k_is)
    (case l_InvalidTerm => k_is)
    (case cell_InvalidTerm => k_is)
    (case code_InvalidTerm => k_is)
    (case cod_InvalidTerm => k_is)
    (case v2_InvalidTerm => rfl)
    (case hf_InvalidTerm => kernel_rfl)
    (case own_InvalidTerm => k_is)
    (case bas_InvalidTerm => k_is)
    (case alo_InvalidTerm => kernel_rfl)
    (case xf_InvalidTerm => kernel_rfl)
    (case pk_InvalidTerm => kernel_rfl)
    (case o1_Mismatch => kernel_rfl)
    (case o2_Mismatch => kernel_rfl)
    (case hd_Mismatch => k_is)
    (case sa_Mismatch => k_is)
    (case exC_Mismatch => k_is)
    (case ty_Mismatch => k_is)
    (case kc_Mismatch => k_is)
    (case nt_Mismatch => k_is)
    (case nf_Mismatch => k_is)
    (case fi_Mismatch => k_is)
    (case tI_Mismatch => k_is)
    (case l_Mismatch => k_is)
    (case cell_Mismatch => k_is)
    (case code_Mismatch => k_is)
    (case cod_Mismatch => k_is)
    (case v2_Mismatch => rfl)
    (case hf_Mismatch => kernel_rfl)
    (case own_Mismatch => k_is)
    (case bas_Mismatch => k_is)
    (case alo_Mismatch => kernel_rfl)
    (case xf_Mismatch => kernel_rfl)
    (case pk_Mismatch => kernel_rfl)
    (case a__wall => k_is)
    (case l__wall => k_is)
    (case c__wall => k_is)
    (case k__wall => k_is)
    (case a_order_key => k_is)
    (case l_order_key => k_is)
    (case c_order_key => k_is)
    (case k_order_key => k_is)
    (case a_summed_tables => k_is)
    (case l_summed_tables => k_is)
    (case c_summed_tables => k_is)
    (case k_summed_tables => k_is)
    (case a_of_table => k_is)
    (case l_of_table => k_is)
    (case c_of_table => k_is)
    (case k_of_table => k_is)
    (case a_is_key => k_is)
    (case l_is_key => k_is)
    (case c_is_key => k_is)
    (case k_is_key => k_is)
    (case a_term_text => k_is)
    (case l_term_text => k_is)
    (case c_term_text => k_is)
    (case k_term_text => k_is)
    (case a__law_feed => k_is)
    (case l__law_feed => k_is)
    (case c__law_feed => k_is)
    (case k__law_feed => k_is)
    (case a__law_take => k_is)
    (case l__law_take => k_is)
    (case c__law_take => k_is)
    (case k__law_take => k_is)
    (case a__law_pick => k_is)
    (case l__law_pick => k_is)
    (case c__law_pick => k_is)
    (case k__law_pick => k_is)
    (case a__law_mixed => k_is)
    (case l__law_mixed => k_is)
    (case c__law_mixed => k_is)
    (case k__law_mixed => k_is)
    (case a__law_same => k_is)
    (case l__law_same => k_is)
    (case c__law_same => k_is)
    (case k__law_same => k_is)
    (case a__law_why => k_is)
    (case l__law_why => k_is)
    (case c__law_why => k_is)
    (case k__law_why => k_is)
    (case a__law_padd => k_is)
    (case l__law_padd => k_is)
    (case c__law_padd => k_is)
    (case k__law_padd => k_is)
    (case a__law_const => k_is)
    (case l__law_const => k_is)
    (case c__law_const => k_is)
    (case k__law_const => k_is)
    (case a__law_cell => k_is)
    (case l__law_cell => k_is)
    (case c__law_cell => k_is)
    (case k__law_cell => k_is)
    (case a__law_order => k_is)
    (case l__law_order => k_is)
    (case c__law_order => k_is)
    (case k__law_order => k_is)
    (case a__law_terms => k_is)
    (case l__law_terms => k_is)
    (case c__law_terms => k_is)
    (case k__law_terms => k_is)
    (case a__law_is_poly => k_is)
    (case l__law_is_poly => k_is)
    (case c__law_is_poly => k_is)
    (case k__law_is_poly => k_is)
    (case a__law_drawn => k_is)
    (case l__law_drawn => k_is)
    (case c__law_drawn => k_is)
    (case k__law_drawn => k_is)
    (case a_law => k_is)
    (case l_law => k_is)
    (case c_law => k_is)
    (case k_law => k_is)
    (case a_Poly => k_is)
    (case pg_Poly => k_is)
    (case hd_Poly => k_is)
    (case po_Poly => k_is)
    (case sa_Poly => k_is)
    (case mk_Poly => k_is)
    (case kc_Poly => k_is)
    (case nf_Poly_width => k_is)
    (case nf_Poly_table => k_is)
    (case en_Poly => k_is)
    (case ic_Poly => k_is)
    (case ig_Poly => k_is)
    (case it_Poly => k_is)
    (case io_Poly => k_is)
    (case rd_Poly => k_is)
    (case ga_Poly => k_is)
    (case fi_Poly_init => k_is)
    (case is_Poly_init => k_is)
    (case l_Poly_init => k_is)
    (case c_Poly_init => k_is)
    (case k_Poly_init => k_is)
    (case at_Poly_number => k_is)
    (case rc_Poly_number => k_is)
    (case l_Poly_number => k_is)
    (case c_Poly_number => k_is)
    (case k_Poly_number => k_is)
    (case at_Poly_unknown => k_is)
    (case rc_Poly_unknown => k_is)
    (case l_Poly_unknown => k_is)
    (case c_Poly_unknown => k_is)
    (case k_Poly_unknown => k_is)
    (case at_Poly_many => k_is)
    (case gp_Poly_many => k_is)
    (case tk_Poly_many => k_is)
    (case rc_Poly_many => k_is)
    (case l_Poly_many => k_is)
    (case c_Poly_many => k_is)
    (case k_Poly_many => k_is)
    (case at_Poly_degree => k_is)
    (case gp_Poly_degree => k_is)
    (case tk_Poly_degree => k_is)
    (case rc_Poly_degree => k_is)
    (case l_Poly_degree => k_is)
    (case c_Poly_degree => k_is)
    (case k_Poly_degree => k_is)
    (case fi_Poly_terms => k_is)
    (case is_Poly_terms => k_is)
    (case l_Poly_terms => k_is)
    (case c_Poly_terms => k_is)
    (case k_Poly_terms => k_is)
    (case fi_Poly_bool => k_is)
    (case is_Poly_bool => k_is)
    (case l_Poly_bool => k_is)
    (case c_Poly_bool => k_is)
    (case k_Poly_bool => k_is)
    (case fi_Poly_len => k_is)
    (case is_Poly_len => k_is)
    (case l_Poly_len => k_is)
    (case c_Poly_len => k_is)
    (case k_Poly_len => k_is)
    (case fi_Poly_repr => k_is)
    (case is_Poly_repr => k_is)
    (case l_Poly_repr => k_is)
    (case c_Poly_repr => k_is)
    (case k_Poly_repr => k_is)
    (case cv_Poly_MOST => k_is)
