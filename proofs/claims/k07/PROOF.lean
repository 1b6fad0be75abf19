import PyProof.Rows.All
import Wide.All
import OpenK.AllK
import Wide.FinOn
import HandS.ForMost
import HandS.IsInst
import HandS.Wide
import HandS.TupMul
import HandS.TupAny
import HandS.Zip
import PySem.Challenge.RW_evertally_k07_names_recognized
set_option Elab.async false
set_option linter.all false
set_option maxRecDepth 100000
set_option maxHeartbeats 4000000
/-! XD: frozen data D, mutable things MO, and readings told over them. -/
namespace XD
open PySem L2

/-- frozen data -/
inductive D where
  | non
  | bl (b : Bool)
  | int (i : Int)
  | str (s : Str)
  | ref (a : Addr)
  | ty (n : String)
  | lst (xs : List D)
  | tup (xs : List D)
  | dk (kvs : List (Key × D))
  | dt (kvs : List (List Key × D))
  | ins (C : Addr) (fs : List (Str × D))
  | scr (ns : List Int)

mutual
/-- v stands for d in the frozen heap G -/
inductive Rp (K : PySem.W.Frag) (G : Hp) : V → D → Prop
  | non : Rp K G .non .non
  | bl (b : Bool) : Rp K G (.bl b) (.bl b)
  | int (i : Int) : Rp K G (.int i) (.int i)
  | str (s : Str) : Rp K G (.str s) (.str s)
  | ref (a : Addr) : Rp K G (.ref a) (.ref a)
  | ty (n : String) : Rp K G (.ty n) (.ty n)
  | lst {a : Addr} {xs : List V} {ds : List D} (h : G a = some (.lst xs)) (r : RpA K G xs ds) : Rp K G (.ref a) (.lst ds)
  | tup {a : Addr} {xs : List V} {ds : List D} (h : G a = some (.tup xs)) (r : RpA K G xs ds) : Rp K G (.ref a) (.tup ds)
  | dk {a : Addr} {xs : List (Key × V)} {ds : List (Key × D)} (h : G a = some (.dK xs)) (r : RpK K G xs ds) : Rp K G (.ref a) (.dk ds)
  | dt {a : Addr} {xs : List (List Key × V)} {ds : List (List Key × D)} (h : G a = some (.dT xs)) (r : RpT K G xs ds) : Rp K G (.ref a) (.dt ds)
  | ins {a C dx : Addr} {xs : List (Str × V)} {ds : List (Str × D)} (h : G a = some (.ins C dx xs)) (r : RpF K G xs ds) : Rp K G (.ref a) (.ins C ds)
  | scr {a : Addr} {ns : List Int} (h : SqL K G a (ns.map V.int)) : Rp K G (.ref a) (.scr ns)
inductive RpA (K : PySem.W.Frag) (G : Hp) : List V → List D → Prop
  | nil : RpA K G [] []
  | cons {v : V} {vs : List V} {d : D} {ds : List D} (h : Rp K G v d) (r : RpA K G vs ds) : RpA K G (v :: vs) (d :: ds)
inductive RpK (K : PySem.W.Frag) (G : Hp) : List (Key × V) → List (Key × D) → Prop
  | nil : RpK K G [] []
  | cons {k : Key} {v : V} {vs : List (Key × V)} {d : D} {ds : List (Key × D)} (h : Rp K G v d) (r : RpK K G vs ds) : RpK K G ((k, v) :: vs) ((k, d) :: ds)
inductive RpT (K : PySem.W.Frag) (G : Hp) : List (List Key × V) → List (List Key × D) → Prop
  | nil : RpT K G [] []
  | cons {k : List Key} {v : V} {vs : List (List Key × V)} {d : D} {ds : List (List Key × D)} (h : Rp K G v d) (r : RpT K G vs ds) : RpT K G ((k, v) :: vs) ((k, d) :: ds)
inductive RpF (K : PySem.W.Frag) (G : Hp) : List (Str × V) → List (Str × D) → Prop
  | nil : RpF K G [] []
  | cons {k : Str} {v : V} {vs : List (Str × V)} {d : D} {ds : List (Str × D)} (h : Rp K G v d) (r : RpF K G vs ds) : RpF K G ((k, v) :: vs) ((k, d) :: ds)
end

/-- more is known -/
def Ex (H H' : Hp) : Prop := ∀ a o, H a = some o → H' a = some o
theorem Ex.refl (H : Hp) : Ex H H := fun _ _ h => h
theorem Ex.trans {H H1 H2 : Hp} (a : Ex H H1) (b : Ex H1 H2) : Ex H H2 := fun x o h => b x o (a x o h)
theorem Ex.new {H : Hp} {p : Addr} {o : HO} (h : H p = none) : Ex H (upd H p o) := fun a u e => by
  have hne : a ≠ p := ne_of_none e h
  rw [upd_ne hne]
  exact e

theorem sqL_up {K : PySem.W.Frag} {H H' : Hp} {a : Addr} {xs : List V} (e : Ex H H') (h : SqL K H a xs) : SqL K H' a xs := by
  rcases h with (h | ⟨o, h⟩) | h
  · exact .inl (.inl (e _ _ h))
  · exact .inl (.inr ⟨o, e _ _ h⟩)
  · exact .inr h
theorem sqT_up {K : PySem.W.Frag} {H H' : Hp} {a : Addr} {xs : List V} (e : Ex H H') (h : SqT K H a xs) : SqT K H' a xs := by
  rcases h with (h | ⟨o, h⟩) | h
  · exact .inl (.inl (e _ _ h))
  · exact .inl (.inr ⟨o, e _ _ h⟩)
  · exact .inr h
mutual
theorem Rp.up {K : PySem.W.Frag} {G G' : Hp} (e : Ex G G') {v : V} {d : D} (h : Rp K G v d) : Rp K G' v d := by
  cases h with
  | non => exact .non
  | bl b => exact .bl b
  | int i => exact .int i
  | str s => exact .str s
  | ref a => exact .ref a
  | ty n => exact .ty n
  | lst h r => exact .lst (e _ _ h) (r.up e)
  | tup h r => exact .tup (e _ _ h) (r.up e)
  | scr h => exact .scr (sqL_up e h)
  | dk h r => exact .dk (e _ _ h) (r.up e)
  | dt h r => exact .dt (e _ _ h) (r.up e)
  | ins h r => exact .ins (e _ _ h) (r.up e)
theorem RpA.up {K : PySem.W.Frag} {G G' : Hp} (e : Ex G G') {v : List V} {d : List D} (h : RpA K G v d) : RpA K G' v d := by
  cases h with
  | nil => exact .nil
  | cons h r => exact .cons (h.up e) (r.up e)
theorem RpK.up {K : PySem.W.Frag} {G G' : Hp} (e : Ex G G') {v : List (Key × V)} {d : List (Key × D)} (h : RpK K G v d) : RpK K G' v d := by
  cases h with
  | nil => exact .nil
  | cons h r => exact .cons (h.up e) (r.up e)
theorem RpT.up {K : PySem.W.Frag} {G G' : Hp} (e : Ex G G') {v : List (List Key × V)} {d : List (List Key × D)} (h : RpT K G v d) : RpT K G' v d := by
  cases h with
  | nil => exact .nil
  | cons h r => exact .cons (h.up e) (r.up e)
theorem RpF.up {K : PySem.W.Frag} {G G' : Hp} (e : Ex G G') {v : List (Str × V)} {d : List (Str × D)} (h : RpF K G v d) : RpF K G' v d := by
  cases h with
  | nil => exact .nil
  | cons h r => exact .cons (h.up e) (r.up e)
end
end XD

/-! XD2: states and judgements. -/
namespace XD
open PySem L2

/-- mutable things; lck: a frozen dict that a loop walks -/
inductive MO where
  | lst (ds : List D)
  | dk (kvs : List (Key × D))
  | dt (kvs : List (List Key × D))
  | ins (C : Addr) (fs : List (Str × D))
  | feed
  | lck (od : Obj)
abbrev Mm := List (Addr × MO)
abbrev Rho := List (Option D)

def DictO : HO → Prop
  | .dK _ => True
  | .dT _ => True
  | _ => False
def MoOk (K : PySem.W.Frag) (G H : Hp) (a : Addr) : MO → Prop
  | .lst ds => G a = none ∧ ∃ xs, H a = some (.lst xs) ∧ RpA K G xs ds
  | .dk ds => G a = none ∧ ∃ xs, H a = some (.dK xs) ∧ RpK K G xs ds
  | .dt ds => G a = none ∧ ∃ xs, H a = some (.dT xs) ∧ RpT K G xs ds
  | .ins C fs => G a = none ∧ ∃ dx xs, H a = some (.ins C dx xs) ∧ RpF K G xs fs
  | .feed => G a = none ∧ ∃ (c : Addr) (i b s : Int) (ns : List Int), H a = some (.lst [.ref c, .int i, .int b, .int s]) ∧ G c = some (.lst (ns.map V.int)) ∧ 0 ≤ i ∧ 0 ≤ b ∧ 0 ≤ s ∧ s < 2147483648
  | .lck od => ∃ o, DictO o ∧ G a = some o ∧ H a = some (.frz od o)
def isLck : MO → Bool
  | .lck _ => true
  | _ => false
theorem MoOk.up {K : PySem.W.Frag} {G G' H H' : Hp} {a : Addr} {m : MO} (h : MoOk K G H a m) (e : Ex G G') (k : H' a = H a) (g : isLck m = false → G' a = none) : MoOk K G' H' a m := by
  cases m with
  | lst ds => obtain ⟨_, xs, h1, h2⟩ := h; exact ⟨g rfl, xs, k.trans h1, h2.up e⟩
  | dk ds => obtain ⟨_, xs, h1, h2⟩ := h; exact ⟨g rfl, xs, k.trans h1, h2.up e⟩
  | dt ds => obtain ⟨_, xs, h1, h2⟩ := h; exact ⟨g rfl, xs, k.trans h1, h2.up e⟩
  | ins C fs => obtain ⟨_, dx, xs, h1, h2⟩ := h; exact ⟨g rfl, dx, xs, k.trans h1, h2.up e⟩
  | feed => obtain ⟨_, c, i, b, s, ns, h1, h2, h3⟩ := h; exact ⟨g rfl, c, i, b, s, ns, k.trans h1, e _ _ h2, h3⟩
  | lck od => obtain ⟨o, h1, h2, h3⟩ := h; exact ⟨o, h1, e _ _ h2, k.trans h3⟩
theorem MoOk.some {K : PySem.W.Frag} {G H : Hp} {a : Addr} {m : MO} (h : MoOk K G H a m) : ∃ o, H a = some o := by
  cases m with
  | lst ds => obtain ⟨_, xs, h1, h2⟩ := h; exact ⟨_, h1⟩
  | dk ds => obtain ⟨_, xs, h1, h2⟩ := h; exact ⟨_, h1⟩
  | dt ds => obtain ⟨_, xs, h1, h2⟩ := h; exact ⟨_, h1⟩
  | ins C fs => obtain ⟨_, dx, xs, h1, h2⟩ := h; exact ⟨_, h1⟩
  | feed => obtain ⟨_, c, i, b, s, ns, h1, h2, h3⟩ := h; exact ⟨_, h1⟩
  | lck od => obtain ⟨o, h1, h2, h3⟩ := h; exact ⟨_, h3⟩
theorem MoOk.gnone {K : PySem.W.Frag} {G H : Hp} {a : Addr} {m : MO} (h : MoOk K G H a m) (l : isLck m = false) : G a = none := by
  cases m with
  | lck od => cases l
  | _ => exact h.1
/-- the state: frozen part G, mutable part M, all of it in H -/
structure Wd (K : PySem.W.Frag) (G : Hp) (M : Mm) (H : Hp) : Prop where
  ex : ∀ a o, G a = some o → H a = some o ∨ (DictO o ∧ ∃ od, H a = some (.frz od o))
  mo : ∀ p ∈ M, MoOk K G H p.1 p.2
  nd : (M.map (·.1)).Nodup

inductive Has : Mm → Addr → MO → Prop
  | head {a : Addr} {m : MO} {M : Mm} : Has ((a, m) :: M) a m
  | tail {a : Addr} {m : MO} {x : Addr × MO} {M : Mm} (h : Has M a m) : Has (x :: M) a m
/-- the entry at a is m' from now on -/
inductive Put : Mm → Addr → MO → Mm → Prop
  | head {a : Addr} {m m' : MO} {M : Mm} : Put ((a, m) :: M) a m' ((a, m') :: M)
  | tail {a : Addr} {m' : MO} {x : Addr × MO} {M M' : Mm} (h : Put M a m' M') : Put (x :: M) a m' (x :: M')
/-- without the entry at a, which was m -/
inductive Cut : Mm → Addr → MO → Mm → Prop
  | head {a : Addr} {m : MO} {M : Mm} : Cut ((a, m) :: M) a m M
  | tail {a : Addr} {m : MO} {x : Addr × MO} {M M' : Mm} (h : Cut M a m M') : Cut (x :: M) a m (x :: M')
theorem Has.mem {M : Mm} {a : Addr} {m : MO} (h : Has M a m) : (a, m) ∈ M := by
  induction h with
  | head => exact List.mem_cons_self
  | tail _ ih => exact List.mem_cons_of_mem _ ih
theorem Put.keys {M M' : Mm} {a : Addr} {m : MO} (h : Put M a m M') : M'.map (·.1) = M.map (·.1) := by
  induction h with
  | head => rfl
  | tail _ ih => simp [ih]
theorem Put.mem {M M' : Mm} {a : Addr} {m : MO} (h : Put M a m M') : a ∈ M.map (·.1) := by
  induction h with
  | head => simp
  | tail _ ih => simp [ih]
theorem Put.all {M M' : Mm} {a : Addr} {m : MO} (h : Put M a m M') : (M.map (·.1)).Nodup → ∀ p ∈ M', p = (a, m) ∨ (p ∈ M ∧ p.1 ≠ a) := by
  induction h with
  | head =>
    intro nd p hp
    rw [List.map_cons, List.nodup_cons] at nd
    rcases List.mem_cons.mp hp with e | e
    · exact .inl e
    · refine .inr ⟨List.mem_cons_of_mem _ e, fun z => nd.1 ?_⟩
      exact z ▸ List.mem_map_of_mem (f := (·.1)) e
  | tail h ih =>
    intro nd p hp
    rw [List.map_cons, List.nodup_cons] at nd
    rcases List.mem_cons.mp hp with e | e
    · refine .inr ⟨e ▸ List.mem_cons_self, fun z => nd.1 ?_⟩
      rw [← e, z]
      exact h.mem
    · rcases ih nd.2 p e with q | ⟨q, r⟩
      · exact .inl q
      · exact .inr ⟨List.mem_cons_of_mem _ q, r⟩
theorem Cut.mem {M M' : Mm} {a : Addr} {m : MO} (h : Cut M a m M') : (a, m) ∈ M := by
  induction h with
  | head => exact List.mem_cons_self
  | tail _ ih => exact List.mem_cons_of_mem _ ih
theorem Cut.sub {M M' : Mm} {a : Addr} {m : MO} (h : Cut M a m M') : M'.Sublist M := by
  induction h with
  | head => exact List.sublist_cons_self _ _
  | tail _ ih => exact ih.cons_cons _
theorem Cut.ne {M M' : Mm} {a : Addr} {m : MO} (h : Cut M a m M') : (M.map (·.1)).Nodup → ∀ p ∈ M', p.1 ≠ a := by
  induction h with
  | head =>
    intro nd p hp z
    rw [List.map_cons, List.nodup_cons] at nd
    exact nd.1 (z ▸ List.mem_map_of_mem (f := (·.1)) hp)
  | tail h ih =>
    intro nd p hp z
    rw [List.map_cons, List.nodup_cons] at nd
    rcases List.mem_cons.mp hp with e | e
    · apply nd.1
      rw [← e, z]
      exact List.mem_map_of_mem (f := (·.1)) h.mem
    · exact ih nd.2 p e z

section
variable {K : PySem.W.Frag} {G G' H H' : Hp} {M M' : Mm}
theorem Wd.get (w : Wd K G M H) {a : Addr} {m : MO} (h : Has M a m) : MoOk K G H a m := w.mo _ h.mem
theorem Wd.gfree (w : Wd K G M H) {a : Addr} (h : H a = none) : G a = none := by
  cases e : G a with
  | none => rfl
  | some o =>
    rcases w.ex a o e with q | ⟨_, od, q⟩
    · rw [h] at q; cases q
    · rw [h] at q; cases q
theorem Wd.rd (w : Wd K G M H) {a : Addr} {o : HO} (h : G a = some o) : Rd H a o := by
  rcases w.ex a o h with q | ⟨_, q⟩
  · exact .inl q
  · exact .inr q
theorem Wd.at' (w : Wd K G M H) {a : Addr} {o : HO} (h : G a = some o) (hn : ¬ DictO o) : H a = some o := by
  rcases w.ex a o h with q | ⟨q, _⟩
  · exact q
  · exact absurd q hn
theorem Wd.sqL (w : Wd K G M H) {a : Addr} {xs : List V} (h : SqL K G a xs) : SqL K H a xs := by
  rcases h with (h | ⟨o, h⟩) | h
  · exact .inl (w.rd h)
  · exact .inl (.inr ⟨o, w.at' h (fun z => z)⟩)
  · exact .inr h
theorem Wd.sqT (w : Wd K G M H) {a : Addr} {xs : List V} (h : SqT K G a xs) : SqT K H a xs := by
  rcases h with (h | ⟨o, h⟩) | h
  · exact .inl (w.rd h)
  · exact .inl (.inr ⟨o, w.at' h (fun z => z)⟩)
  · exact .inr h
theorem Wd.lst (w : Wd K G M H) {a : Addr} {xs : List V} (h : G a = some (.lst xs)) : H a = some (.lst xs) := w.at' h (fun z => z)
theorem Wd.tup (w : Wd K G M H) {a : Addr} {xs : List V} (h : G a = some (.tup xs)) : H a = some (.tup xs) := w.at' h (fun z => z)
theorem Wd.nin (w : Wd K G M H) {a : Addr} (h : H a = none) : a ∉ M.map (·.1) := fun z => by
  obtain ⟨p, hp, e⟩ := List.mem_map.mp z
  obtain ⟨o, q⟩ := (w.mo p hp).some
  rw [e, h] at q
  cases q
/-- a new frozen object -/
theorem Wd.new (w : Wd K G M H) {p : Addr} {o : HO} (h : H p = none) : Wd K (upd G p o) M (upd H p o) := by
  have hg := w.gfree h
  refine ⟨fun a u e => ?_, fun q hq => ?_, w.nd⟩
  · by_cases z : a = p
    · rw [z, upd_same] at e
      rw [z, upd_same]
      exact .inl e
    · rw [upd_ne z] at e
      rw [upd_ne z]
      exact w.ex a u e
  · have hne : q.1 ≠ p := fun z => w.nin h (z ▸ List.mem_map_of_mem (f := (·.1)) hq)
    have q2 := w.mo q hq
    exact q2.up (Ex.new hg) (upd_ne hne) (fun l => by rw [upd_ne hne]; exact q2.gnone l)
/-- a new mutable object -/
theorem Wd.newM (w : Wd K G M H) {p : Addr} {o : HO} {m : MO} (h : H p = none) (hm : MoOk K G (upd H p o) p m) : Wd K G ((p, m) :: M) (upd H p o) := by
  refine ⟨fun a u e => ?_, fun q hq => ?_, ?_⟩
  · have hne : a ≠ p := fun z => by rw [z, w.gfree h] at e; cases e
    rw [upd_ne hne]
    exact w.ex a u e
  · rcases List.mem_cons.mp hq with e | e
    · subst e
      exact hm
    · have hne : q.1 ≠ p := fun z => w.nin h (z ▸ List.mem_map_of_mem (f := (·.1)) e)
      have q2 := w.mo q e
      exact q2.up (Ex.refl G) (upd_ne hne) q2.gnone
  · rw [List.map_cons, List.nodup_cons]
    exact ⟨w.nin h, w.nd⟩
/-- a mutable object is written -/
theorem Wd.put (w : Wd K G M H) {a : Addr} {o : HO} {m : MO} (h : Put M a m M') (hG : G a = none) (hm : MoOk K G (upd H a o) a m) : Wd K G M' (upd H a o) := by
  refine ⟨fun b u e => ?_, fun q hq => ?_, h.keys ▸ w.nd⟩
  · have hne : b ≠ a := fun z => by rw [z, hG] at e; cases e
    rw [upd_ne hne]
    exact w.ex b u e
  · rcases h.all w.nd q hq with e | ⟨e, ne⟩
    · subst e
      exact hm
    · have q2 := w.mo q e
      exact q2.up (Ex.refl G) (upd_ne ne) q2.gnone
/-- a mutable object is frozen -/
theorem Wd.cut (w : Wd K G M H) {a : Addr} {o : HO} {m : MO} (h : Cut M a m M') (l : isLck m = false) (ho : H a = some o) : Ex G (upd G a o) ∧ Wd K (upd G a o) M' H := by
  have hG : G a = none := (w.mo _ h.mem).gnone l
  refine ⟨Ex.new hG, fun b u e => ?_, fun q hq => ?_, (h.sub.map _).nodup w.nd⟩
  · by_cases z : b = a
    · rw [z, upd_same] at e
      cases e
      rw [z]
      exact .inl ho
    · rw [upd_ne z] at e
      exact w.ex b u e
  · have q2 := w.mo q (h.sub.mem hq)
    have hne := h.ne w.nd q hq
    exact q2.up (Ex.new hG) rfl (fun l => by rw [upd_ne hne]; exact q2.gnone l)
/-- a frozen dict is locked for a walk -/
theorem Wd.lock (w : Wd K G M H) {a : Addr} {o : HO} (hd : DictO o) (hg : G a = some o) (hn : a ∉ M.map (·.1)) (od : Obj) : Wd K G ((a, .lck od) :: M) (upd H a (.frz od o)) := by
  refine ⟨fun b u e => ?_, fun q hq => ?_, ?_⟩
  · by_cases z : b = a
    · subst z
      rw [hg] at e
      cases e
      exact .inr ⟨hd, od, upd_same⟩
    · rw [upd_ne z]
      exact w.ex b u e
  · rcases List.mem_cons.mp hq with e | e
    · subst e
      exact ⟨o, hd, hg, upd_same⟩
    · have hne : q.1 ≠ a := fun z => hn (z ▸ List.mem_map_of_mem (f := (·.1)) e)
      have q2 := w.mo q e
      exact q2.up (Ex.refl G) (upd_ne hne) q2.gnone
  · rw [List.map_cons, List.nodup_cons]
    exact ⟨hn, w.nd⟩
theorem Wd.unlock {a : Addr} {o : HO} {od : Obj} (w : Wd K G ((a, .lck od) :: M) H) (hg : G a = some o) : H a = some (.frz od o) ∧ Wd K G M (upd H a o) := by
  have nd := w.nd
  rw [List.map_cons, List.nodup_cons] at nd
  obtain ⟨o', h1, h2, h3⟩ := w.mo _ List.mem_cons_self
  rw [hg] at h2
  cases h2
  refine ⟨h3, fun b u e => ?_, fun q hq => ?_, nd.2⟩
  · by_cases z : b = a
    · subst z
      rw [hg] at e
      cases e
      exact .inl upd_same
    · rw [upd_ne z]
      exact w.ex b u e
  · have hne : q.1 ≠ a := fun z => nd.1 (z ▸ List.mem_map_of_mem (f := (·.1)) hq)
    have q2 := w.mo q (List.mem_cons_of_mem _ hq)
    exact q2.up (Ex.refl G) (upd_ne hne) q2.gnone
theorem Wd.drop (w : Wd K G M H) {a : Addr} {m : MO} (h : Cut M a m M') : Wd K G M' H :=
  ⟨w.ex, fun q hq => w.mo q (h.sub.mem hq), (h.sub.map _).nodup w.nd⟩
end

theorem Wd.newL {K : PySem.W.Frag} {G H : Hp} {M : Mm} (w : Wd K G M H) {p : Addr} {xs : List V} {ds : List D} (h : H p = none) (r : RpA K G xs ds) : ∃ G', Ex G G' ∧ Rp K G' (.ref p) (.lst ds) ∧ Wd K G' M (upd H p (.lst xs)) :=
  ⟨_, Ex.new (w.gfree h), .lst upd_same (r.up (Ex.new (w.gfree h))), w.new h⟩
theorem Wd.newT {K : PySem.W.Frag} {G H : Hp} {M : Mm} (w : Wd K G M H) {p : Addr} {xs : List V} {ds : List D} (h : H p = none) (r : RpA K G xs ds) : ∃ G', Ex G G' ∧ Rp K G' (.ref p) (.tup ds) ∧ Wd K G' M (upd H p (.tup xs)) :=
  ⟨_, Ex.new (w.gfree h), .tup upd_same (r.up (Ex.new (w.gfree h))), w.new h⟩
theorem Wd.newLM {K : PySem.W.Frag} {G H : Hp} {M : Mm} (w : Wd K G M H) {p : Addr} {xs : List V} {ds : List D} (h : H p = none) (r : RpA K G xs ds) : Wd K G ((p, .lst ds) :: M) (upd H p (.lst xs)) :=
  w.newM h ⟨w.gfree h, xs, upd_same, r⟩
/-- the slots stand for ρ -/
structure RpS (K : PySem.W.Frag) (G : Hp) (σ : St) (ρ : Rho) : Prop where
  len : σ.length = ρ.length
  at_ : ∀ (i : Nat) (d : D), ρ[i]? = some (some d) → ∃ v, σ[i]? = some (some v) ∧ Rp K G v d
section
variable {K : PySem.W.Frag} {G G' H H' : Hp} {M M' : Mm} {σ : St} {ρ : Rho}
theorem RpS.up (s : RpS K G σ ρ) (e : Ex G G') : RpS K G' σ ρ := ⟨s.len, fun i d h => let ⟨v, h1, h2⟩ := s.at_ i d h; ⟨v, h1, h2.up e⟩⟩
theorem RpS.set (s : RpS K G σ ρ) {v : V} {d : D} (i : Nat) (h : Rp K G v d) : RpS K G (σ.set i (some v)) (ρ.set i (some d)) := by
  refine ⟨by simp [s.len], fun j e hj => ?_⟩
  by_cases hij : i = j
  · subst hij
    rw [List.getElem?_set] at hj ⊢
    rw [if_pos rfl] at hj ⊢
    by_cases hl : i < ρ.length
    · rw [if_pos hl] at hj
      rw [if_pos (by rw [s.len]; exact hl)]
      cases hj
      exact ⟨v, rfl, h⟩
    · rw [if_neg hl] at hj
      cases hj
  · rw [List.getElem?_set_ne hij] at hj ⊢
    exact s.at_ j e hj
theorem RpS.clr (s : RpS K G σ ρ) (i : Nat) : RpS K G (σ.set i none) (ρ.set i none) := by
  refine ⟨by simp [s.len], fun j e hj => ?_⟩
  by_cases hij : i = j
  · subst hij
    rw [List.getElem?_set] at hj
    rw [if_pos rfl] at hj
    split at hj <;> cases hj
  · rw [List.getElem?_set_ne hij] at hj ⊢
    exact s.at_ j e hj
end

/-! ### judgements -/
abbrev RD := D → Mm → Prop
def Xe (K : PySem.W.Frag) (te : TE) (ρ : Rho) (M : Mm) (R : RD) : Prop :=
  ∀ (σ : St) (G H : Hp) (Q : VK), RpS K G σ ρ → Wd K G M H → (∀ v d G' M' H', Ex G G' → Rp K G' v d → Wd K G' M' H' → R d M' → Q v H') → te σ H Q
def Xt (K : PySem.W.Frag) (tt : TT) (ρ : Rho) (M : Mm) (R : Bool → Mm → Prop) : Prop :=
  ∀ (σ : St) (G H : Hp) (Q : Bool → Hp → Prop), RpS K G σ ρ → Wd K G M H → (∀ b G' M' H', Ex G G' → Wd K G' M' H' → R b M' → Q b H') → tt σ H Q
def Xa (K : PySem.W.Frag) (ta : TA) (ρ : Rho) (M : Mm) (R : List D → Mm → Prop) : Prop :=
  ∀ (σ : St) (G H : Hp) (Q : List V → Hp → Prop), RpS K G σ ρ → Wd K G M H → (∀ vs ds G' M' H', Ex G G' → RpA K G' vs ds → Wd K G' M' H' → R ds M' → Q vs H') → ta σ H Q
def Xr (K : PySem.W.Frag) (r : R2) (x y : D) (M : Mm) (R : RD) : Prop :=
  ∀ (vx vy : V) (G H : Hp) (Q : VK), Rp K G vx x → Rp K G vy y → Wd K G M H → (∀ v d G' M' H', Ex G G' → Rp K G' v d → Wd K G' M' H' → R d M' → Q v H') → r vx vy H Q
def Xu (K : PySem.W.Frag) (r : V → Hp → VK → Prop) (x : D) (M : Mm) (R : RD) : Prop :=
  ∀ (vx : V) (G H : Hp) (Q : VK), Rp K G vx x → Wd K G M H → (∀ v d G' M' H', Ex G G' → Rp K G' v d → Wd K G' M' H' → R d M' → Q v H') → r vx H Q
def Xc (K : PySem.W.Frag) (r : List V → Hp → VK → Prop) (xs : List D) (M : Mm) (R : RD) : Prop :=
  ∀ (vs : List V) (G H : Hp) (Q : VK), RpA K G vs xs → Wd K G M H → (∀ v d G' M' H', Ex G G' → Rp K G' v d → Wd K G' M' H' → R d M' → Q v H') → r vs H Q
def Xm (K : PySem.W.Frag) (r : V → List V → Hp → VK → Prop) (x : D) (xs : List D) (M : Mm) (R : RD) : Prop :=
  ∀ (vx : V) (vs : List V) (G H : Hp) (Q : VK), Rp K G vx x → RpA K G vs xs → Wd K G M H → (∀ v d G' M' H', Ex G G' → Rp K G' v d → Wd K G' M' H' → R d M' → Q v H') → r vx vs H Q
/-- the slots but those of vs are as they were -/
def Agr (vs : List Nat) (σ σ2 : L2.St) : Prop := σ2.length = σ.length ∧ ∀ i : Nat, i ∉ vs → σ2[i]? = σ[i]?
theorem Agr.refl (vs : List Nat) (σ : L2.St) : Agr vs σ σ := ⟨rfl, fun _ _ => rfl⟩
theorem Agr.trans {vs : List Nat} {σ σ1 σ2 : L2.St} (a : Agr vs σ σ1) (b : Agr vs σ1 σ2) : Agr vs σ σ2 := ⟨b.1.trans a.1, fun i h => (b.2 i h).trans (a.2 i h)⟩
def Xg (K : PySem.W.Frag) (vs : List Nat) (g : TG) (d : D) (ρ : Rho) (M : Mm) (R : Rho → Mm → Prop) : Prop :=
  ∀ (v : V) (σ : L2.St) (G H : Hp) (Q : L2.St → Hp → Prop), RpS K G σ ρ → Wd K G M H → Rp K G v d → (∀ σ2 G2 ρ2 M2 H2, Ex G G2 → RpS K G2 σ2 ρ2 → Wd K G2 M2 H2 → Agr vs σ σ2 → R ρ2 M2 → Q σ2 H2) → g v σ H Q
def Xgs (K : PySem.W.Frag) (vs : List Nat) (g : TGs) (ds : List D) (ρ : Rho) (M : Mm) (R : Rho → Mm → Prop) : Prop :=
  ∀ (xs : List V) (σ : L2.St) (G H : Hp) (Q : L2.St → Hp → Prop), RpS K G σ ρ → Wd K G M H → RpA K G xs ds → (∀ σ2 G2 ρ2 M2 H2, Ex G G2 → RpS K G2 σ2 ρ2 → Wd K G2 M2 H2 → Agr vs σ σ2 → R ρ2 M2 → Q σ2 H2) → g xs σ H Q
/-- n turns that give data told by it, whatever else happens (lk: entries that must stand) -/
structure Wk (K : PySem.W.Frag) (G1 : Hp) (J : It) (n : Nat) (it : Nat → D → Prop) (lk : Mm → Prop) : Prop where
  goes : ∀ i G M H, i < n → Ex G1 G → Wd K G M H → lk M → J.go i H
  stops : ∀ G M H, Ex G1 G → Wd K G M H → lk M → J.stop n H
  yields : ∀ i G M H x H', i < n → Ex G1 G → Wd K G M H → lk M → J.yld i H x H' → ∃ G' d, Ex G G' ∧ Wd K G' M H' ∧ Rp K G' x d ∧ it i d
def Xi (K : PySem.W.Frag) (wi : TI) (ρ : Rho) (M : Mm) (R : Nat → (Nat → D → Prop) → (Mm → Prop) → Mm → Prop) : Prop :=
  ∀ (σ : L2.St) (G H : Hp) (Q : It → Hp → Prop), RpS K G σ ρ → Wd K G M H → (∀ J n it lk G' M' H', Ex G G' → Wd K G' M' H' → Wk K G' J n it lk → R n it lk M' → Q J H') → wi σ H Q
/-- what is wanted behind a statement -/
structure En where
  nx : Rho → Mm → Prop
  rt : RD
  bk : Rho → Mm → Prop := fun _ _ => False
  ct : Rho → Mm → Prop := fun _ _ => False
def SK (K : PySem.W.Frag) (G : Hp) (E : Rho → Mm → Prop) (D : St → Hp → Prop) : Prop :=
  ∀ (σ : St) (G' : Hp) (H' : Hp) (ρ : Rho) (M : Mm), Ex G G' → RpS K G' σ ρ → Wd K G' M H' → E ρ M → D σ H'
def SV (K : PySem.W.Frag) (G : Hp) (E : RD) (D : VK) : Prop :=
  ∀ (v : V) (d : XD.D) (G' : Hp) (M : Mm) (H' : Hp), Ex G G' → Rp K G' v d → Wd K G' M H' → E d M → D v H'
structure EnOk (K : PySem.W.Frag) (G : Hp) (E : En) (D : Ends) : Prop where
  nx : SK K G E.nx D.nx
  rt : SV K G E.rt D.rt
  bk : SK K G E.bk D.bk
  ct : SK K G E.ct D.ct
def Xs (K : PySem.W.Frag) (t : TS) (E : En) (ρ : Rho) (M : Mm) : Prop :=
  ∀ (σ : St) (G H : Hp) (D : Ends), RpS K G σ ρ → Wd K G M H → EnOk K G E D → t D σ H
theorem SK.up {K : PySem.W.Frag} {G G' : Hp} {E : Rho → Mm → Prop} {D : St → Hp → Prop} (e : Ex G G') (h : SK K G E D) : SK K G' E D := fun σ G2 H2 ρ M e2 => h σ G2 H2 ρ M (e.trans e2)
theorem SV.up {K : PySem.W.Frag} {G G' : Hp} {E : RD} {D : VK} (e : Ex G G') (h : SV K G E D) : SV K G' E D := fun v d G2 M H2 e2 => h v d G2 M H2 (e.trans e2)
theorem EnOk.up {K : PySem.W.Frag} {G G' : Hp} {E : En} {D : Ends} (e : Ex G G') (h : EnOk K G E D) : EnOk K G' E D := ⟨h.nx.up e, h.rt.up e, h.bk.up e, h.ct.up e⟩
end XD

/-! XD3: expressions, tests, operators. -/
namespace XD
open PySem L2

section
variable {K : PySem.W.Frag} {ρ : Rho} {M M' : Mm} {R : RD}
theorem xe_var {i : Nat} {d : D} (h : ρ[i]? = some (some d)) (r : R d M) : Xe K (tVar i) ρ M R := by
  intro σ G H Q s w k
  obtain ⟨v, h1, h2⟩ := s.at_ i d h
  exact ⟨v, h1, k v d G M H (Ex.refl G) h2 w r⟩
theorem xe_k {v : V} {d : D} (h : ∀ G, Rp K G v d) (r : R d M) : Xe K (tC v) ρ M R := by
  intro σ G H Q s w k
  exact k v d G M H (Ex.refl G) (h G) w r
theorem xe_int {i : Int} (r : R (.int i) M) : Xe K (tC (.int i)) ρ M R := xe_k (fun _ => .int i) r
theorem xe_str {z : Str} (r : R (.str z) M) : Xe K (tC (.str z)) ρ M R := xe_k (fun _ => .str z) r
theorem xe_bl {b : Bool} (r : R (.bl b) M) : Xe K (tC (.bl b)) ρ M R := xe_k (fun _ => .bl b) r
theorem xe_non (r : R .non M) : Xe K (tC .non) ρ M R := xe_k (fun _ => .non) r
theorem xe_ref {a : Addr} (r : R (.ref a) M) : Xe K (tC (.ref a)) ρ M R := xe_k (fun _ => .ref a) r
theorem xe_ty {n : String} (r : R (.ty n) M) : Xe K (tC (.ty n)) ρ M R := xe_k (fun _ => .ty n) r
theorem xe_mono {te : TE} {R' : RD} (h : Xe K te ρ M R) (hm : ∀ d M', R d M' → R' d M') : Xe K te ρ M R' := by
  intro σ G H Q s w k
  exact h σ G H Q s w fun v d G' M' H' e r w' q => k v d G' M' H' e r w' (hm d M' q)
theorem xt_mono {te : TT} {R R' : Bool → Mm → Prop} (h : Xt K te ρ M R) (hm : ∀ d M', R d M' → R' d M') : Xt K te ρ M R' := by
  intro σ G H Q s w k
  exact h σ G H Q s w fun v G' M' H' e w' q => k v G' M' H' e w' (hm v M' q)
theorem xe_op {r : R2} {ta tb : TE} (h : Xe K ta ρ M fun x M1 => Xe K tb ρ M1 fun y M2 => Xr K r x y M2 R) : Xe K (tOp r ta tb) ρ M R := by
  intro σ G H Q s w k
  refine h σ G H _ s w fun vx x G1 M1 H1 e1 rx w1 h1 => ?_
  refine h1 σ G1 H1 _ (s.up e1) w1 fun vy y G2 M2 H2 e2 ry w2 h2 => ?_
  exact h2 vx vy G2 H2 Q (rx.up e2) ry w2 fun v d G' M' H' e => k v d G' M' H' ((e1.trans e2).trans e)
theorem xe_un {r : V → Hp → VK → Prop} {ta : TE} (h : Xe K ta ρ M fun x M1 => Xu K r x M1 R) : Xe K (tUn r ta) ρ M R := by
  intro σ G H Q s w k
  refine h σ G H _ s w fun vx x G1 M1 H1 e1 rx w1 h1 => ?_
  exact h1 vx G1 H1 Q rx w1 fun v d G' M' H' e => k v d G' M' H' (e1.trans e)
theorem xe_cb {r : List V → Hp → VK → Prop} {t : TA} (h : Xa K t ρ M fun xs M1 => Xc K r xs M1 R) : Xe K (tCB r t) ρ M R := by
  intro σ G H Q s w k
  refine h σ G H _ s w fun vx x G1 M1 H1 e1 rx w1 h1 => ?_
  exact h1 vx G1 H1 Q rx w1 fun v d G' M' H' e => k v d G' M' H' (e1.trans e)
theorem xa_nil {R : List D → Mm → Prop} (r : R [] M) : Xa K tNil ρ M R := by
  intro σ G H Q s w k
  exact k [] [] G M H (Ex.refl G) .nil w r
theorem xa_cons {te : TE} {t : TA} {R : List D → Mm → Prop} (h : Xe K te ρ M fun x M1 => Xa K t ρ M1 fun xs M2 => R (x :: xs) M2) : Xa K (tCons te t) ρ M R := by
  intro σ G H Q s w k
  refine h σ G H _ s w fun vx x G1 M1 H1 e1 rx w1 h1 => ?_
  exact h1 σ G1 H1 _ (s.up e1) w1 fun vs ds G2 M2 H2 e2 rs w2 h2 => k (vx :: vs) (x :: ds) G2 M2 H2 (e1.trans e2) (.cons (rx.up e2) rs) w2 h2
theorem RpA.length {G : Hp} : ∀ {vs : List V} {ds : List D}, RpA K G vs ds → vs.length = ds.length := by
  intro vs
  induction vs with
  | nil => intro ds h; cases h; rfl
  | cons v vs ih => intro ds h; cases h with | cons h r => simp [ih r]
theorem xe_tup {t : TA} (h : Xa K t ρ M fun ds M1 => ds.length ≤ 16000000 ∧ R (.tup ds) M1) : Xe K (tTup t) ρ M R := by
  intro σ G H Q s w k
  refine h σ G H _ s w fun vs ds G1 M1 H1 e1 rs w1 h1 => ?_
  refine ⟨by rw [rs.length]; exact Nat.le_trans h1.1 (by decide), fun p hp => ?_⟩
  exact k (.ref p) (.tup ds) (upd G1 p (.tup vs)) M1 _ (e1.trans (Ex.new (w1.gfree hp))) (.tup upd_same (rs.up (Ex.new (w1.gfree hp)))) (w1.new hp) h1.2
theorem xe_lst {t : TA} (h : Xa K t ρ M fun ds M1 => ds.length ≤ 16000000 ∧ R (.lst ds) M1) : Xe K (tLst t) ρ M R := by
  intro σ G H Q s w k
  refine h σ G H _ s w fun vs ds G1 M1 H1 e1 rs w1 h1 => ?_
  refine ⟨by rw [rs.length]; exact Nat.le_trans h1.1 (by decide), fun p hp => ?_⟩
  exact k (.ref p) (.lst ds) (upd G1 p (.lst vs)) M1 _ (e1.trans (Ex.new (w1.gfree hp))) (.lst upd_same (rs.up (Ex.new (w1.gfree hp)))) (w1.new hp) h1.2
/-- a list that will be changed -/
abbrev tLstM : TA → TE := tLst
theorem xe_lstM {t : TA} (h : Xa K t ρ M fun ds M1 => ds.length ≤ 16000000 ∧ ∀ p, R (.ref p) ((p, .lst ds) :: M1)) : Xe K (tLst t) ρ M R := by
  intro σ G H Q s w k
  refine h σ G H _ s w fun vs ds G1 M1 H1 e1 rs w1 h1 => ?_
  refine ⟨by rw [rs.length]; exact Nat.le_trans h1.1 (by decide), fun p hp => ?_⟩
  exact k (.ref p) (.ref p) G1 ((p, .lst ds) :: M1) _ e1 (.ref p) (w1.newM hp ⟨w1.gfree hp, vs, upd_same, rs⟩) (h1.2 p)
theorem xe_dnewK (h : ∀ p, R (.ref p) ((p, .dk []) :: M)) : Xe K tDNewK ρ M R := by
  intro σ G H Q s w k p hp
  exact k (.ref p) (.ref p) G ((p, .dk []) :: M) _ (Ex.refl G) (.ref p) (w.newM hp ⟨w.gfree hp, [], upd_same, .nil⟩) (h p)
theorem xe_dnewT (h : ∀ p, R (.ref p) ((p, .dt []) :: M)) : Xe K tDNewT ρ M R := by
  intro σ G H Q s w k p hp
  exact k (.ref p) (.ref p) G ((p, .dt []) :: M) _ (Ex.refl G) (.ref p) (w.newM hp ⟨w.gfree hp, [], upd_same, .nil⟩) (h p)
theorem xe_if {t : TT} {ta tb : TE} (h : Xt K t ρ M fun c M1 => (c = true → Xe K ta ρ M1 R) ∧ (c = false → Xe K tb ρ M1 R)) : Xe K (tIf t ta tb) ρ M R := by
  intro σ G H Q s w k
  refine h σ G H _ s w fun c G1 M1 H1 e1 w1 h1 => ?_
  cases c with
  | true => exact h1.1 rfl σ G1 H1 Q (s.up e1) w1 fun v d G' M' H' e => k v d G' M' H' (e1.trans e)
  | false => exact h1.2 rfl σ G1 H1 Q (s.up e1) w1 fun v d G' M' H' e => k v d G' M' H' (e1.trans e)
theorem xe_andV {ta tb : TE} (h : Xe K ta ρ M fun x M1 => ∃ c, x = .bl c ∧ (c = true → Xe K tb ρ M1 R) ∧ (c = false → R (.bl false) M1)) : Xe K (tAndV ta tb) ρ M R := by
  intro σ G H Q s w k
  refine h σ G H _ s w fun vx x G1 M1 H1 e1 rx w1 h1 => ?_
  obtain ⟨c, rfl, h2, h3⟩ := h1
  cases rx
  refine ⟨c, rfl, ?_⟩
  cases c with
  | true => exact h2 rfl σ G1 H1 Q (s.up e1) w1 fun v d G' M' H' e => k v d G' M' H' (e1.trans e)
  | false => exact k _ _ G1 M1 H1 e1 (.bl false) w1 (h3 rfl)
theorem xe_orV {ta tb : TE} (h : Xe K ta ρ M fun x M1 => ∃ c, x = .bl c ∧ (c = false → Xe K tb ρ M1 R) ∧ (c = true → R (.bl true) M1)) : Xe K (tOrV ta tb) ρ M R := by
  intro σ G H Q s w k
  refine h σ G H _ s w fun vx x G1 M1 H1 e1 rx w1 h1 => ?_
  obtain ⟨c, rfl, h2, h3⟩ := h1
  cases rx
  refine ⟨c, rfl, ?_⟩
  cases c with
  | false => exact h2 rfl σ G1 H1 Q (s.up e1) w1 fun v d G' M' H' e => k v d G' M' H' (e1.trans e)
  | true => exact k _ _ G1 M1 H1 e1 (.bl true) w1 (h3 rfl)
theorem xe_notV {ta : TE} (h : Xe K ta ρ M fun x M1 => ∃ c, x = .bl c ∧ R (.bl (!c)) M1) : Xe K (tNotV ta) ρ M R := by
  intro σ G H Q s w k
  refine h σ G H _ s w fun vx x G1 M1 H1 e1 rx w1 h1 => ?_
  obtain ⟨c, rfl, h2⟩ := h1
  cases rx
  exact ⟨c, rfl, k _ _ G1 M1 H1 e1 (.bl (!c)) w1 h2⟩
/-! tests -/
variable {RB : Bool → Mm → Prop}
theorem xt_B {te : TE} (h : Xe K te ρ M fun x M1 => ∃ c, x = .bl c ∧ RB c M1) : Xt K (tB te) ρ M RB := by
  intro σ G H Q s w k
  refine h σ G H _ s w fun vx x G1 M1 H1 e1 rx w1 h1 => ?_
  obtain ⟨c, rfl, h2⟩ := h1
  cases rx
  exact ⟨c, rfl, k c G1 M1 H1 e1 w1 h2⟩
theorem xt_test {te : TE} (h : Xe K te ρ M fun x M1 => ∃ c, x = .bl c ∧ RB c M1) : Xt K (tTest te) ρ M RB := by
  intro σ G H Q s w k
  refine h σ G H _ s w fun vx x G1 M1 H1 e1 rx w1 h1 => ?_
  obtain ⟨c, rfl, h2⟩ := h1
  cases rx
  exact ⟨c, rfl, k c G1 M1 H1 e1 w1 h2⟩
theorem xt_yes (h : RB true M) : Xt K tYes ρ M RB := by
  intro σ G H Q s w k
  exact k true G M H (Ex.refl G) w h
theorem xt_and {t u : TT} (h : Xt K t ρ M fun c M1 => (c = true → Xt K u ρ M1 RB) ∧ (c = false → RB false M1)) : Xt K (tAnd t u) ρ M RB := by
  intro σ G H Q s w k
  refine h σ G H _ s w fun c G1 M1 H1 e1 w1 h1 => ?_
  cases c with
  | true => exact h1.1 rfl σ G1 H1 Q (s.up e1) w1 fun v G' M' H' e => k v G' M' H' (e1.trans e)
  | false => exact k false G1 M1 H1 e1 w1 (h1.2 rfl)
theorem xt_or {t u : TT} (h : Xt K t ρ M fun c M1 => (c = false → Xt K u ρ M1 RB) ∧ (c = true → RB true M1)) : Xt K (tOr t u) ρ M RB := by
  intro σ G H Q s w k
  refine h σ G H _ s w fun c G1 M1 H1 e1 w1 h1 => ?_
  cases c with
  | false => exact h1.1 rfl σ G1 H1 Q (s.up e1) w1 fun v G' M' H' e => k v G' M' H' (e1.trans e)
  | true => exact k true G1 M1 H1 e1 w1 (h1.2 rfl)
theorem xt_not {t : TT} (h : Xt K t ρ M fun c M1 => RB (!c) M1) : Xt K (tNot t) ρ M RB := by
  intro σ G H Q s w k
  exact h σ G H _ s w fun c G1 M1 H1 e1 w1 h1 => k (!c) G1 M1 H1 e1 w1 h1
theorem xe_chain {r r' : R2} {ta tb tc : TE} (h : Xe K ta ρ M fun x M1 => Xe K tb ρ M1 fun y M2 => Xr K r x y M2 fun z M3 => ∃ c, z = .bl c ∧
    (c = true → Xe K tc ρ M3 fun u M4 => Xr K r' y u M4 R) ∧ (c = false → R (.bl false) M3)) : Xe K (tChain r r' ta tb tc) ρ M R := by
  intro σ G H Q s w k
  refine h σ G H _ s w fun vx x G1 M1 H1 e1 rx w1 h1 => ?_
  refine h1 σ G1 H1 _ (s.up e1) w1 fun vy y G2 M2 H2 e2 ry w2 h2 => ?_
  refine h2 vx vy G2 H2 _ (rx.up e2) ry w2 fun vz z G3 M3 H3 e3 rz w3 h3 => ?_
  have e13 := (e1.trans e2).trans e3
  obtain ⟨c, rfl, h4, h5⟩ := h3
  cases rz
  refine ⟨c, rfl, ?_⟩
  cases c with
  | true =>
    refine h4 rfl σ G3 H3 _ (s.up e13) w3 fun vu u G4 M4 H4 e4 ru w4 h6 => ?_
    exact h6 vy vu G4 H4 Q (ry.up (e3.trans e4)) ru w4 fun v d G' M' H' e => k v d G' M' H' ((e13.trans e4).trans e)
  | false => exact k _ _ G3 M3 H3 e13 (.bl false) w3 (h5 rfl)
/-! operators on ints -/
variable {i j : Int}
theorem xr_I0 {g : Int → Int → Int} (r : R (.int (g i j)) M) : Xr K (rI0 fun i j => .int (g i j)) (.int i) (.int j) M R := by
  intro vx vy G H Q rx ry w k
  cases rx
  cases ry
  exact ⟨i, j, rfl, rfl, k _ _ G M H (Ex.refl G) (.int _) w r⟩
theorem xr_B0 {g : Int → Int → Bool} (r : R (.bl (g i j)) M) : Xr K (rI0 fun i j => .bl (g i j)) (.int i) (.int j) M R := by
  intro vx vy G H Q rx ry w k
  cases rx
  cases ry
  exact ⟨i, j, rfl, rfl, k _ _ G M H (Ex.refl G) (.bl _) w r⟩
theorem xr_I {C : Int → Int → Prop} {g : Int → Int → Int} (c : C i j) (r : R (.int (g i j)) M) : Xr K (rI C fun i j => .int (g i j)) (.int i) (.int j) M R := by
  intro vx vy G H Q rx ry w k
  cases rx
  cases ry
  exact ⟨i, j, rfl, rfl, c, k _ _ G M H (Ex.refl G) (.int _) w r⟩
theorem xu_I {g : Int → Int} (r : R (.int (g i)) M) : Xu K (rU fun i => .int (g i)) (.int i) M R := by
  intro vx G H Q rx w k
  cases rx
  exact ⟨i, rfl, k _ _ G M H (Ex.refl G) (.int _) w r⟩
/-! flat data -/
def fl : D → V
  | .non => .non
  | .bl b => .bl b
  | .int i => .int i
  | .str s => .str s
  | .ref a => .ref a
  | .ty n => .ty n
  | _ => .ref 0
def flD : D → Bool
  | .non => true
  | .bl _ => true
  | .int _ => true
  | .str _ => true
  | _ => false
theorem Rp.fl {G : Hp} {v : V} {d : D} (h : Rp K G v d) (f : flD d = true) : v = fl d := by
  cases h <;> first | rfl | cases f
theorem RpA.fl {G : Hp} : ∀ {vs : List V} {ds : List D}, RpA K G vs ds → ds.all flD = true → vs = ds.map XD.fl := by
  intro vs
  induction vs with
  | nil => intro ds h; cases h; intro _; rfl
  | cons v vs ih =>
    intro ds h f
    cases h with
    | cons h r =>
      rw [List.all_cons, Bool.and_eq_true] at f
      rw [h.fl f.1, ih r f.2, List.map_cons]
theorem xr_eq {x y : D} (hx : flD x = true) (hy : flD y = true) (hs : scal (fl x) (fl y) = true) (r : R (.bl (decide (fl x = fl y))) M) : Xr K rEq x y M R := by
  intro vx vy G H Q rx ry w k
  rw [rx.fl hx, ry.fl hy]
  exact ⟨hs, k _ _ G M H (Ex.refl G) (.bl _) w r⟩
theorem xr_ne {x y : D} (hx : flD x = true) (hy : flD y = true) (hs : scal (fl x) (fl y) = true) (r : R (.bl (!decide (fl x = fl y))) M) : Xr K rNe x y M R := by
  intro vx vy G H Q rx ry w k
  rw [rx.fl hx, ry.fl hy]
  exact ⟨hs, k _ _ G M H (Ex.refl G) (.bl _) w r⟩
theorem xr_eqI (r : R (.bl (decide (i = j))) M) : Xr K rEq (.int i) (.int j) M R := xr_eq rfl rfl rfl (by
  have e : decide (fl (.int i) = fl (.int j)) = decide (i = j) := by simp [fl]
  rw [e]; exact r)
theorem xr_neI (r : R (.bl (!decide (i = j))) M) : Xr K rNe (.int i) (.int j) M R := xr_ne rfl rfl rfl (by
  have e : decide (fl (.int i) = fl (.int j)) = decide (i = j) := by simp [fl]
  rw [e]; exact r)
theorem xr_eqS {a b : Str} (r : R (.bl (decide (a = b))) M) : Xr K rEq (.str a) (.str b) M R := xr_eq rfl rfl rfl (by
  have e : decide (fl (.str a) = fl (.str b)) = decide (a = b) := by simp [fl]
  rw [e]; exact r)
theorem xr_neS {a b : Str} (r : R (.bl (!decide (a = b))) M) : Xr K rNe (.str a) (.str b) M R := xr_ne rfl rfl rfl (by
  have e : decide (fl (.str a) = fl (.str b)) = decide (a = b) := by simp [fl]
  rw [e]; exact r)
theorem xr_eqB {a b : Bool} (r : R (.bl (decide (a = b))) M) : Xr K rEq (.bl a) (.bl b) M R := xr_eq rfl rfl rfl (by
  have e : decide (fl (.bl a) = fl (.bl b)) = decide (a = b) := by simp [fl]
  rw [e]; exact r)
theorem Rp.ne_non {G : Hp} {v : V} {d : D} (h : Rp K G v d) : decide (v = .non) = (match d with | .non => true | _ => false) := by
  cases h <;> simp
def isNon : D → Bool
  | .non => true
  | _ => false
theorem Rp.isNon {G : Hp} {v : V} {d : D} (h : Rp K G v d) : decide (v = .non) = XD.isNon d := by
  cases h <;> simp [XD.isNon]
theorem xr_isN {x : D} (r : R (.bl (isNon x)) M) : Xr K (fun x y H Q => y = .non ∧ Q (.bl (decide (x = .non))) H) x .non M R := by
  intro vx vy G H Q rx ry w k
  cases ry
  refine ⟨rfl, ?_⟩
  rw [rx.isNon]
  exact k _ _ G M H (Ex.refl G) (.bl _) w r
theorem xr_notN {x : D} (r : R (.bl (!isNon x)) M) : Xr K (fun x y H Q => y = .non ∧ Q (.bl (!decide (x = .non))) H) x .non M R := by
  intro vx vy G H Q rx ry w k
  cases ry
  refine ⟨rfl, ?_⟩
  rw [rx.isNon]
  exact k _ _ G M H (Ex.refl G) (.bl _) w r
theorem xe_isN {ta : TE} (h : Xe K ta ρ M fun x M1 => R (.bl (isNon x)) M1) : Xe K (tIsN ta) ρ M R := by
  intro σ G H Q s w k
  refine h σ G H _ s w fun vx x G1 M1 H1 e1 rx w1 h1 => ?_
  show Q (.bl (decide (vx = .non))) H1
  rw [rx.isNon]
  exact k _ _ G1 M1 H1 e1 (.bl _) w1 h1
theorem xe_notN {ta : TE} (h : Xe K ta ρ M fun x M1 => R (.bl (!isNon x)) M1) : Xe K (tNotN ta) ρ M R := by
  intro σ G H Q s w k
  refine h σ G H _ s w fun vx x G1 M1 H1 e1 rx w1 h1 => ?_
  show Q (.bl (!decide (vx = .non))) H1
  rw [rx.isNon]
  exact k _ _ G1 M1 H1 e1 (.bl _) w1 h1
/-! texts -/
theorem xr_addS {a b : Str} (h : a.length + b.length ≤ 16000000) (r : R (.str (a ++ b)) M) : Xr K (fun x y H Q => ∃ i j, x = .str i ∧ y = .str j ∧ i.length + j.length ≤ sizeLine ∧ Q (.str (i ++ j)) H) (.str a) (.str b) M R := by
  intro vx vy G H Q rx ry w k
  cases rx
  cases ry
  exact ⟨a, b, rfl, rfl, Nat.le_trans h (by decide), k _ _ G M H (Ex.refl G) (.str _) w r⟩
theorem xr_inC {c : Nat} {z : Str} (r : R (.bl (decide (c ∈ z.cps.toList))) M) : Xr K (fun x y H Q => ∃ (c : Nat) (z : Str), x = .str ⟨#[c]⟩ ∧ y = .str z ∧ Q (.bl (decide (c ∈ z.cps.toList))) H) (.str ⟨#[c]⟩) (.str z) M R := by
  intro vx vy G H Q rx ry w k
  cases rx
  cases ry
  exact ⟨c, z, rfl, rfl, k _ _ G M H (Ex.refl G) (.bl _) w r⟩
theorem xr_or1 {r1 r2 : R2} {x y : D} (h : Xr K r1 x y M R) : Xr K (fun x y H Q => r1 x y H Q ∨ r2 x y H Q) x y M R := by
  intro vx vy G H Q rx ry w k
  exact .inl (h vx vy G H Q rx ry w k)
theorem xr_or2 {r1 r2 : R2} {x y : D} (h : Xr K r2 x y M R) : Xr K (fun x y H Q => r1 x y H Q ∨ r2 x y H Q) x y M R := by
  intro vx vy G H Q rx ry w k
  exact .inr (h vx vy G H Q rx ry w k)
/-! items -/
theorem RpA.get {G : Hp} : ∀ {vs : List V} {ds : List D} {n : Nat} {d : D}, RpA K G vs ds → ds[n]? = some d → ∃ v, vs[n]? = some v ∧ Rp K G v d := by
  intro vs
  induction vs with
  | nil => intro ds n d h; cases h; intro e; simp at e
  | cons v vs ih =>
    intro ds n d h e
    cases h with
    | cons h r =>
      cases n with
      | zero => simp at e; subst e; exact ⟨v, rfl, h⟩
      | succ n => exact ih (n := n) r (by simpa using e)
theorem RpA.getV {G : Hp} : ∀ {vs : List V} {ds : List D} {n : Nat} {v : V}, RpA K G vs ds → vs[n]? = some v → ∃ d, ds[n]? = some d ∧ Rp K G v d := by
  intro vs
  induction vs with
  | nil => intro ds n d h; cases h; intro e; simp at e
  | cons v vs ih =>
    intro ds n d h e
    cases h with
    | cons h r =>
      cases n with
      | zero => simp at e; subst e; exact ⟨_, rfl, h⟩
      | succ n => exact ih (n := n) r (by simpa using e)
theorem RpA.atI {G : Hp} {vs : List V} {ds : List D} {n : Int} {d : D} (h : RpA K G vs ds) (e : L2.atI ds n = some d) : ∃ v, L2.atI vs n = some v ∧ Rp K G v d := by
  unfold L2.atI at e ⊢
  rw [h.length]
  cases q : ixN ds.length n with
  | none => rw [q] at e; cases e
  | some j => rw [q] at e; exact h.get e
theorem xr_ixL {ds : List D} {d : D} (h : L2.atI ds i = some d) (r : R d M) : Xr K (rIxL K) (.lst ds) (.int i) M R := by
  intro vx vy G H Q rx ry w k
  cases ry
  cases rx with
  | lst hs ra =>
    obtain ⟨v, h1, h2⟩ := ra.atI h
    exact ⟨_, _, i, v, rfl, rfl, (.inl (.inl (w.lst hs))), h1, k _ _ G M H (Ex.refl G) h2 w r⟩
theorem xr_ixLM {a : Addr} {ds : List D} {d : D} (hm : Has M a (.lst ds)) (h : L2.atI ds i = some d) (r : R d M) : Xr K (rIxL K) (.ref a) (.int i) M R := by
  intro vx vy G H Q rx ry w k
  cases ry
  cases rx
  obtain ⟨_, xs, h1, h2⟩ := w.get hm
  obtain ⟨v, h3, h4⟩ := h2.atI h
  exact ⟨_, _, i, v, rfl, rfl, .inl (.inl h1), h3, k _ _ G M H (Ex.refl G) h4 w r⟩
theorem xr_ixT {ds : List D} {d : D} (h : L2.atI ds i = some d) (r : R d M) : Xr K (rIxT K) (.tup ds) (.int i) M R := by
  intro vx vy G H Q rx ry w k
  cases ry
  cases rx with
  | tup hs ra =>
    obtain ⟨v, h1, h2⟩ := ra.atI h
    exact ⟨_, _, i, v, rfl, rfl, (.inl (.inl (w.tup hs))), h1, k _ _ G M H (Ex.refl G) h2 w r⟩
theorem xr_ixS {z : Str} {c : Nat} (hz : z.length ≤ 16000000) (h : L2.atI z.cps.toList i = some c) (r : R (.str ⟨#[c]⟩) M) : Xr K rIxS (.str z) (.int i) M R := by
  intro vx vy G H Q rx ry w k
  cases ry
  cases rx
  exact ⟨z, i, c, rfl, rfl, Nat.le_trans hz (by decide), h, k _ _ G M H (Ex.refl G) (.str _) w r⟩
theorem xr_ix1 {x y : D} (h : Xr K (rIxL K) x y M R) : Xr K (rIx K) x y M R := by
  intro vx vy G H Q rx ry w k
  exact .inl (h vx vy G H Q rx ry w k)
theorem xr_ix2 {x y : D} (h : Xr K (rIxT K) x y M R) : Xr K (rIx K) x y M R := by
  intro vx vy G H Q rx ry w k
  exact .inr (.inl (h vx vy G H Q rx ry w k))
theorem xr_ix3 {x y : D} (h : Xr K rIxS x y M R) : Xr K (rIx K) x y M R := by
  intro vx vy G H Q rx ry w k
  exact .inr (.inr (h vx vy G H Q rx ry w k))
theorem atI_n {α : Type} {xs : List α} {n : Nat} {d : α} (h : xs[n]? = some d) : L2.atI xs (n : Int) = some d := atI_nat h
/-! in -/
def inD (x : D) (ds : List D) : Bool := inV (fl x) (ds.map fl)
theorem flV {d : D} (h : flD d = true) : flatV (fl d) = true := by
  cases d <;> first | rfl | cases h
theorem flVs {ds : List D} (h : ds.all flD = true) : (ds.map fl).all flatV = true := by
  rw [List.all_map]
  rw [List.all_eq_true] at h ⊢
  exact fun d hd => flV (h d hd)
theorem xr_in {neg : Bool} {x : D} {ds : List D} (hx : flD x = true) (hd : ds.all flD = true) (r : R (.bl (if neg then !inD x ds else inD x ds)) M) {y : D} (hy : y = .lst ds ∨ y = .tup ds ∨ ∃ a, y = .ref a ∧ Has M a (.lst ds)) : Xr K (rIn K neg) x y M R := by
  intro vx vy G H Q rx ry w k
  rw [rx.fl hx]
  rcases hy with rfl | rfl | ⟨a, rfl, hm⟩
  · cases ry with
    | lst hs ra =>
      have e := ra.fl hd
      subst e
      exact ⟨_, _, rfl, (.inl (.inl (.inl (w.lst hs)))), flV hx, flVs hd, k _ _ G M H (Ex.refl G) (.bl _) w r⟩
  · cases ry with
    | tup hs ra =>
      have e := ra.fl hd
      subst e
      exact ⟨_, _, rfl, (.inr (.inl (.inl (w.tup hs)))), flV hx, flVs hd, k _ _ G M H (Ex.refl G) (.bl _) w r⟩
  · cases ry
    obtain ⟨_, xs, h1, h2⟩ := w.get hm
    have e := h2.fl hd
    subst e
    exact ⟨_, _, rfl, .inl (.inl (.inl h1)), flV hx, flVs hd, k _ _ G M H (Ex.refl G) (.bl _) w r⟩
end
end XD

/-! XD4: statements, loops, calls. -/
namespace XD
open PySem L2

section
variable {K : PySem.W.Frag} {ρ : Rho} {M M' : Mm} {E : En}
theorem xs_next (h : E.nx ρ M) : Xs K tNext E ρ M := by
  intro σ G H D s w k
  exact k.nx σ G H ρ M (Ex.refl G) s w h
theorem xs_seq {t u : TS} (h : Xs K t { E with nx := fun ρ' M' => Xs K u E ρ' M' } ρ M) : Xs K (tSeq t u) E ρ M := by
  intro σ G H D s w k
  refine h σ G H { D with nx := u D } s w ⟨fun σ' G' H' ρ' M' e s' w' q => ?_, k.rt, k.bk, k.ct⟩
  exact q σ' G' H' D s' w' (k.up e)
theorem xs_ret {te : TE} (h : Xe K te ρ M E.rt) : Xs K (tRet te) E ρ M := by
  intro σ G H D s w k
  exact h σ G H D.rt s w fun v d G' M' H' e r w' q => k.rt v d G' M' H' e r w' q
theorem xs_retN (h : E.rt .non M) : Xs K tRetN E ρ M := by
  intro σ G H D s w k
  exact k.rt .non .non G M H (Ex.refl G) .non w h
theorem xs_drop {te : TE} (h : Xe K te ρ M fun _ M1 => E.nx ρ M1) : Xs K (tDrop te) E ρ M := by
  intro σ G H D s w k
  exact h σ G H _ s w fun v d G' M' H' e r w' q => k.nx σ G' H' ρ M' e (s.up e) w' q
theorem xs_set {te : TE} {i : Nat} (h : Xe K te ρ M fun d M1 => E.nx (ρ.set i (some d)) M1) : Xs K (tAsg te (gName i)) E ρ M := by
  intro σ G H D s w k
  exact h σ G H _ s w fun v d G' M' H' e r w' q => k.nx _ G' H' _ M' e ((s.up e).set i r) w' q
theorem xs_if {tc : TT} {t u : TS} (h : Xt K tc ρ M fun c M1 => (c = true → Xs K t E ρ M1) ∧ (c = false → Xs K u E ρ M1)) : Xs K (tIfS tc t u) E ρ M := by
  intro σ G H D s w k
  refine h σ G H _ s w fun c G1 M1 H1 e1 w1 h1 => ?_
  cases c with
  | true => exact h1.1 rfl σ G1 H1 D (s.up e1) w1 (k.up e1)
  | false => exact h1.2 rfl σ G1 H1 D (s.up e1) w1 (k.up e1)
theorem xs_brk (h : E.bk ρ M) : Xs K tBreak E ρ M := by
  intro σ G H D s w k
  exact k.bk σ G H ρ M (Ex.refl G) s w h
theorem xs_cont (h : E.ct ρ M) : Xs K tCont E ρ M := by
  intro σ G H D s w k
  exact k.ct σ G H ρ M (Ex.refl G) s w h
theorem xs_aug {i : Nat} {te : TE} {f : Int → Int → Int} {a : Int} (hx : ρ[i]? = some (some (.int a))) (h : Xe K te ρ M fun d M1 => ∃ b, d = .int b ∧ E.nx (ρ.set i (some (.int (f a b)))) M1) : Xs K (tAug i te (ipI f)) E ρ M := by
  intro σ G H D s w k
  obtain ⟨v, h1, h2⟩ := s.at_ i _ hx
  cases h2
  refine ⟨.int a, h1, ?_⟩
  refine h σ G H _ s w fun v d G' M' H' e r w' q => ?_
  obtain ⟨b, rfl, q⟩ := q
  cases r
  exact ⟨a, b, rfl, rfl, k.nx _ G' H' _ M' e ((s.up e).set i (.int _)) w' q⟩
theorem xs_par {i j : Nat} {ta : TA} (h : Xa K ta ρ M fun ds M1 => ∃ x y, ds = [x, y] ∧ E.nx ((ρ.set i (some x)).set j (some y)) M1) : Xs K (tPar i j ta) E ρ M := by
  intro σ G H D s w k
  refine h σ G H _ s w fun vs ds G' M' H' e r w' q => ?_
  obtain ⟨x, y, rfl, q⟩ := q
  cases r with
  | cons r1 r =>
    cases r with
    | cons r2 r =>
      cases r
      exact ⟨_, _, rfl, k.nx _ G' H' _ M' e (((s.up e).set i r1).set j r2) w' q⟩
/-- a mutable list is frozen -/
def SubD (a : Addr) (e : D) (x y : Option D) : Prop := y = x ∨ (x = some (.ref a) ∧ y = some e)
inductive SubA (a : Addr) (e : D) : Rho → Rho → Prop
  | nil : SubA a e [] []
  | same {x : Option D} {r r' : Rho} (h : SubA a e r r') : SubA a e (x :: r) (x :: r')
  | sub {r r' : Rho} (h : SubA a e r r') : SubA a e (some (.ref a) :: r) (some e :: r')
theorem SubA.len {a : Addr} {e : D} {r r' : Rho} (h : SubA a e r r') : r'.length = r.length := by
  induction h with
  | nil => rfl
  | same _ ih => simp [ih]
  | sub _ ih => simp [ih]
theorem SubA.at_ {a : Addr} {e : D} {r r' : Rho} (h : SubA a e r r') : ∀ (i : Nat) d, r'[i]? = some (some d) → r[i]? = some (some d) ∨ (r[i]? = some (some (.ref a)) ∧ d = e) := by
  induction h with
  | nil => intro i d h; simp at h
  | same _ ih =>
    intro i d h
    cases i with
    | zero => exact .inl h
    | succ i => exact ih i d (by simpa using h)
  | sub _ ih =>
    intro i d h
    cases i with
    | zero => simp at h; exact .inr ⟨rfl, h.symm⟩
    | succ i => exact ih i d (by simpa using h)
theorem RpS.sub {G : Hp} {σ : L2.St} {ρ ρ' : Rho} (s : RpS K G σ ρ) {a : Addr} {e : D} (h : SubA a e ρ ρ') (r : Rp K G (.ref a) e) : RpS K G σ ρ' := by
  refine ⟨s.len.trans h.len.symm, fun i d hd => ?_⟩
  rcases h.at_ i d hd with q | ⟨q, rfl⟩
  · exact s.at_ i d q
  · obtain ⟨v, h1, h2⟩ := s.at_ i _ q
    cases h2
    exact ⟨_, h1, r⟩
theorem xs_frzL {t : TS} {a : Addr} {ds : List D} {ρ' : Rho} (hc : Cut M a (.lst ds) M') (hs : SubA a (.lst ds) ρ ρ') (h : Xs K t E ρ' M') : Xs K t E ρ M := by
  intro σ G H D s w k
  obtain ⟨_, xs, h1, h2⟩ := w.mo _ hc.mem
  obtain ⟨e, w'⟩ := w.cut hc rfl h1
  exact h σ _ H D ((s.up e).sub hs (.lst upd_same (h2.up e))) w' (k.up e)
theorem xe_frzL {te : TE} {R : RD} {a : Addr} {ds : List D} {ρ' : Rho} (hc : Cut M a (.lst ds) M') (hs : SubA a (.lst ds) ρ ρ') (h : Xe K te ρ' M' R) : Xe K te ρ M R := by
  intro σ G H D s w k
  obtain ⟨_, xs, h1, h2⟩ := w.mo _ hc.mem
  obtain ⟨e, w'⟩ := w.cut hc rfl h1
  exact h σ _ H D ((s.up e).sub hs (.lst upd_same (h2.up e))) w' fun v d G' M' H' e' => k v d G' M' H' (e.trans e')

/-! ### loops -/
/-- what a loop's invariant says of slots and heap -/
def Cn (K : PySem.W.Frag) (G0 : Hp) (I : Rho → Mm → Prop) : L2.St → Hp → Prop := fun σ H => ∃ G ρ M, Ex G0 G ∧ RpS K G σ ρ ∧ Wd K G M H ∧ I ρ M
theorem Cn.sk {G : Hp} {I : Rho → Mm → Prop} : SK K G I (Cn K G I) := fun σ G' H' ρ M e s w i => ⟨G', ρ, M, e, s, w, i⟩
/-- targets -/
theorem xg_name {vs : List Nat} {j : Nat} {d : D} {RG : Rho → Mm → Prop} (hj : j ∈ vs) (h : RG (ρ.set j (some d)) M) : Xg K vs (gName j) d ρ M RG := by
  intro v σ G H Q s w r k
  exact k _ G _ M H (Ex.refl G) (s.set j r) w ⟨by simp, fun i hi => by rw [List.getElem?_set_ne (fun z : j = i => hi (z ▸ hj))]⟩ h
theorem xgs_nil {vs : List Nat} {RG : Rho → Mm → Prop} (h : RG ρ M) : Xgs K vs gNil [] ρ M RG := by
  intro xs σ G H Q s w r k
  cases r
  exact ⟨rfl, k σ G ρ M H (Ex.refl G) s w (Agr.refl vs σ) h⟩
theorem xgs_cons {vs : List Nat} {g : TG} {gs : TGs} {d : D} {ds : List D} {RG : Rho → Mm → Prop} (h : Xg K vs g d ρ M fun ρ1 M1 => Xgs K vs gs ds ρ1 M1 RG) : Xgs K vs (gCons g gs) (d :: ds) ρ M RG := by
  intro xs σ G H Q s w r k
  cases r with
  | cons r1 r2 =>
    refine ⟨_, _, rfl, ?_⟩
    refine h _ σ G H _ s w r1 fun σ1 G1 ρ1 M1 H1 e1 s1 w1 a1 h1 => ?_
    exact h1 _ σ1 G1 H1 Q s1 w1 (r2.up e1) fun σ2 G2 ρ2 M2 H2 e2 s2 w2 a2 h2 => k σ2 G2 ρ2 M2 H2 (e1.trans e2) s2 w2 (a1.trans a2) h2
theorem xg_tup {vs : List Nat} {n : Nat} {gs : TGs} {ds : List D} {RG : Rho → Mm → Prop} (hn : ds.length = n) (h : Xgs K vs gs ds ρ M RG) : Xg K vs (gTup K n gs) (.tup ds) ρ M RG := by
  intro v σ G H Q s w r k
  cases r with
  | tup hx ra => exact ⟨_, _, rfl, .inl (.inl (w.tup hx)), by rw [ra.length, hn], h _ σ G H Q s w ra k⟩
theorem xs_asg {te : TE} {g : TG} (vs : List Nat) (h : Xe K te ρ M fun d M1 => Xg K vs g d ρ M1 E.nx) : Xs K (tAsg te g) E ρ M := by
  intro σ G H D s w k
  refine h σ G H _ s w fun v d G' M' H' e r w' q => ?_
  exact q v σ G' H' _ (s.up e) w' r fun σ2 G2 ρ2 M2 H2 e2 s2 w2 _ h2 => k.nx σ2 G2 H2 ρ2 M2 (e.trans e2) s2 w2 h2
/-- what is walked -/
theorem xi_list {tl : TE} {RI : Nat → (Nat → D → Prop) → (Mm → Prop) → Mm → Prop} (h : Xe K tl ρ M fun d M1 => ∃ ds, d = .lst ds ∧ RI ds.length (fun i x => ds[i]? = some x) (fun _ => True) M1) : Xi K (iList K tl) ρ M RI := by
  intro σ G H Q s w k
  refine h σ G H _ s w fun v d G1 M1 H1 e1 r w1 q => ?_
  obtain ⟨ds, rfl, q⟩ := q
  cases r with
  | @lst a xs _ hx ra =>
    refine ⟨a, rfl, ⟨xs, .inl (.inl (w1.lst hx))⟩, k _ _ _ _ G1 M1 H1 e1 w1 ⟨fun i G M H hi e w _ => ?_, fun G M H e w _ => ?_, fun i G M H x H' hi e w _ y => ?_⟩ q⟩
    · rw [← ra.length] at hi
      exact ⟨xs, xs[i], .inl (.inl (w.lst (e _ _ hx))), by simp [hi]⟩
    · exact ⟨xs, .inl (.inl (w.lst (e _ _ hx))), by rw [ra.length]; exact Nat.le_refl _⟩
    · obtain ⟨rfl, y⟩ := y
      obtain ⟨d, h1, h2⟩ := ra.getV (y xs (.inl (.inl (w.lst (e _ _ hx)))))
      exact ⟨G, d, Ex.refl G, w, h2.up e, h1⟩
theorem xi_scr {tl : TE} {RI : Nat → (Nat → D → Prop) → (Mm → Prop) → Mm → Prop} (h : Xe K tl ρ M fun d M1 => ∃ ns, d = .scr ns ∧ RI ns.length (fun i x => ∃ n, ns[i]? = some n ∧ x = .int n) (fun _ => True) M1) : Xi K (iList K tl) ρ M RI := by
  intro σ G H Q s w k
  refine h σ G H _ s w fun v d G1 M1 H1 e1 r w1 q => ?_
  obtain ⟨ns, rfl, q⟩ := q
  cases r with
  | @scr a _ hx =>
    refine ⟨a, rfl, ⟨_, w1.sqL hx⟩, k _ _ _ _ G1 M1 H1 e1 w1 ⟨fun i G M H hi e w _ => ?_, fun G M H e w _ => ?_, fun i G M H x H' hi e w _ y => ?_⟩ q⟩
    · exact ⟨_, .int ns[i], w.sqL (sqL_up e hx), by simp [hi]⟩
    · exact ⟨_, w.sqL (sqL_up e hx), by simp⟩
    · obtain ⟨rfl, y⟩ := y
      have z := y _ (w.sqL (sqL_up e hx))
      rw [List.getElem?_map] at z
      cases q : ns[i]? with
      | none => rw [q] at z; cases z
      | some n =>
        rw [q] at z
        cases z
        exact ⟨G, .int n, Ex.refl G, w, .int n, n, rfl, rfl⟩
theorem xi_tup {tl : TE} {RI : Nat → (Nat → D → Prop) → (Mm → Prop) → Mm → Prop} (h : Xe K tl ρ M fun d M1 => ∃ ds, d = .tup ds ∧ RI ds.length (fun i x => ds[i]? = some x) (fun _ => True) M1) : Xi K (iTup K tl) ρ M RI := by
  intro σ G H Q s w k
  refine h σ G H _ s w fun v d G1 M1 H1 e1 r w1 q => ?_
  obtain ⟨ds, rfl, q⟩ := q
  cases r with
  | @tup a xs _ hx ra =>
    refine ⟨a, rfl, ⟨xs, .inl (.inl (w1.tup hx))⟩, k _ _ _ _ G1 M1 H1 e1 w1 ⟨fun i G M H hi e w _ => ?_, fun G M H e w _ => ?_, fun i G M H x H' hi e w _ y => ?_⟩ q⟩
    · rw [← ra.length] at hi
      exact ⟨xs, xs[i], .inl (.inl (w.tup (e _ _ hx))), by simp [hi]⟩
    · exact ⟨xs, .inl (.inl (w.tup (e _ _ hx))), by rw [ra.length]; exact Nat.le_refl _⟩
    · obtain ⟨rfl, y⟩ := y
      obtain ⟨d, h1, h2⟩ := ra.getV (y xs (.inl (.inl (w.tup (e _ _ hx)))))
      exact ⟨G, d, Ex.refl G, w, h2.up e, h1⟩
theorem wk_rng {G1 : Hp} {lo : Int} {n : Nat} : Wk K G1 (Itr lo n) n (fun i x => x = .int (lo + i)) (fun _ => True) :=
  ⟨fun i G M H hi _ _ _ => hi, fun _ _ _ _ _ _ => Nat.le_refl _, fun i G M H x H' hi e w _ y => by
    obtain ⟨rfl, rfl⟩ := y
    exact ⟨G, _, Ex.refl G, w, .int _, rfl⟩⟩
theorem xi_rng1 {ta : TA} {RI : Nat → (Nat → D → Prop) → (Mm → Prop) → Mm → Prop} (h : Xa K ta ρ M fun ds M1 => ∃ n : Int, ds = [.int n] ∧ -(2 ^ 62) ≤ n ∧ n < 2 ^ 62 ∧ RI n.toNat (fun i x => x = .int (0 + (i : Nat))) (fun _ => True) M1) : Xi K (iRng1 ta) ρ M RI := by
  intro σ G H Q s w k
  refine h σ G H _ s w fun vs ds G1 M1 H1 e1 r w1 q => ?_
  obtain ⟨n, rfl, h1, h2, q⟩ := q
  cases r with
  | cons r1 r =>
    cases r
    cases r1
    exact ⟨n, rfl, h1, h2, k _ _ _ _ G1 M1 H1 e1 w1 wk_rng q⟩
theorem xi_rng2 {ta : TA} {RI : Nat → (Nat → D → Prop) → (Mm → Prop) → Mm → Prop} (h : Xa K ta ρ M fun ds M1 => ∃ lo n : Int, ds = [.int lo, .int n] ∧ (-(2 ^ 62) ≤ lo ∧ lo < 2 ^ 62 ∧ -(2 ^ 62) ≤ n ∧ n < 2 ^ 62) ∧ RI (n - lo).toNat (fun i x => x = .int (lo + (i : Nat))) (fun _ => True) M1) : Xi K (iRng2 ta) ρ M RI := by
  intro σ G H Q s w k
  refine h σ G H _ s w fun vs ds G1 M1 H1 e1 r w1 q => ?_
  obtain ⟨lo, n, rfl, h1, q⟩ := q
  cases r with
  | cons r1 r =>
    cases r with
    | cons r2 r =>
      cases r
      cases r1
      cases r2
      exact ⟨lo, n, rfl, h1, k _ _ _ _ G1 M1 H1 e1 w1 wk_rng q⟩
theorem xi_str {te : TE} {RI : Nat → (Nat → D → Prop) → (Mm → Prop) → Mm → Prop} (h : Xe K te ρ M fun d M1 => ∃ z, d = .str z ∧ RI z.cps.size (fun i x => ∃ c, z.cps[i]? = some c ∧ x = .str ⟨#[c]⟩) (fun _ => True) M1) : Xi K (iStr te) ρ M RI := by
  intro σ G H Q s w k
  refine h σ G H _ s w fun v d G1 M1 H1 e1 r w1 q => ?_
  obtain ⟨z, rfl, q⟩ := q
  cases r
  refine ⟨z, rfl, k _ _ _ _ G1 M1 H1 e1 w1 ⟨fun i G M H hi _ _ _ => hi, fun G M H _ _ _ => Nat.le_refl _, fun i G M H x H' hi e w _ y => ?_⟩ q⟩
  obtain ⟨rfl, c, h1, rfl⟩ := y
  exact ⟨G, _, Ex.refl G, w, .str _, c, h1, rfl⟩
theorem xi_zipA {ta : TA} {RI : Nat → (Nat → D → Prop) → (Mm → Prop) → Mm → Prop} (h : Xa K ta ρ M fun ds M1 => ∃ x y xs ys, ds = [x, y] ∧ ((x = .lst xs ∧ y = .lst ys) ∨ (x = .tup xs ∧ y = .tup ys)) ∧ RI (min xs.length ys.length) (fun i x => ∃ a b, xs[i]? = some a ∧ ys[i]? = some b ∧ x = .tup [a, b]) (fun _ => True) M1) : Xi K (RZ.iZipA K ta) ρ M RI := by
  intro σ G H Q s w k
  refine h σ G H _ s w fun vs ds G1 M1 H1 e1 r w1 q => ?_
  obtain ⟨x, y, xs, ys, rfl, hxy, q⟩ := q
  cases r with
  | cons r1 r =>
    cases r with
    | cons r2 r =>
      cases r
      rcases hxy with ⟨rfl, rfl⟩ | ⟨rfl, rfl⟩
      · cases r1 with
        | @lst a us _ ha ra =>
          cases r2 with
          | @lst b ws _ hb rb =>
            refine ⟨a, b, us, ws, rfl, .inl ⟨.inl (.inl (w1.lst ha)), .inl (.inl (w1.lst hb)), k _ _ _ _ G1 M1 H1 e1 w1 ⟨fun i G M H hi e w _ => ?_, fun G M H e w _ => ?_, fun i G M H x H' hi e w _ y => ?_⟩ q⟩⟩
            · have h1 : i < us.length := by rw [ra.length]; omega
              have h2 : i < ws.length := by rw [rb.length]; omega
              exact ⟨us, ws, us[i], ws[i], .inl (.inl (w.lst (e _ _ ha))), .inl (.inl (w.lst (e _ _ hb))), by simp [h1], by simp [h2]⟩
            · refine ⟨us, ws, .inl (.inl (w.lst (e _ _ ha))), .inl (.inl (w.lst (e _ _ hb))), ?_⟩
              rw [ra.length, rb.length]
              omega
            · obtain ⟨T, u, v, rfl, hT, rfl, f1, f2⟩ := y
              obtain ⟨p, p1, p2⟩ := ra.getV (f1 us (.inl (.inl (w.lst (e _ _ ha)))))
              obtain ⟨q, q1, q2⟩ := rb.getV (f2 ws (.inl (.inl (w.lst (e _ _ hb)))))
              have eN := Ex.new (o := .tup [u, v]) (w.gfree hT)
              exact ⟨_, .tup [p, q], eN, w.new hT, .tup upd_same (.cons (p2.up (e.trans eN)) (.cons (q2.up (e.trans eN)) .nil)), p, q, p1, q1, rfl⟩
      · cases r1 with
        | @tup a us _ ha ra =>
          cases r2 with
          | @tup b ws _ hb rb =>
            refine ⟨a, b, us, ws, rfl, .inr ⟨.inl (.inl (w1.tup ha)), .inl (.inl (w1.tup hb)), k _ _ _ _ G1 M1 H1 e1 w1 ⟨fun i G M H hi e w _ => ?_, fun G M H e w _ => ?_, fun i G M H x H' hi e w _ y => ?_⟩ q⟩⟩
            · have h1 : i < us.length := by rw [ra.length]; omega
              have h2 : i < ws.length := by rw [rb.length]; omega
              exact ⟨us, ws, us[i], ws[i], .inl (.inl (w.tup (e _ _ ha))), .inl (.inl (w.tup (e _ _ hb))), by simp [h1], by simp [h2]⟩
            · refine ⟨us, ws, .inl (.inl (w.tup (e _ _ ha))), .inl (.inl (w.tup (e _ _ hb))), ?_⟩
              rw [ra.length, rb.length]
              omega
            · obtain ⟨T, u, v, rfl, hT, rfl, f1, f2⟩ := y
              obtain ⟨p, p1, p2⟩ := ra.getV (f1 us (.inl (.inl (w.tup (e _ _ ha)))))
              obtain ⟨q, q1, q2⟩ := rb.getV (f2 ws (.inl (.inl (w.tup (e _ _ hb)))))
              have eN := Ex.new (o := .tup [u, v]) (w.gfree hT)
              exact ⟨_, .tup [p, q], eN, w.new hT, .tup upd_same (.cons (p2.up (e.trans eN)) (.cons (q2.up (e.trans eN)) .nil)), p, q, p1, q1, rfl⟩
theorem xi_enum {ta : TA} {RI : Nat → (Nat → D → Prop) → (Mm → Prop) → Mm → Prop} (h : Xa K ta ρ M fun ds M1 => ∃ xs, ds = [.lst xs] ∧ RI xs.length (fun i x => ∃ a, xs[i]? = some a ∧ x = .tup [.int (i : Nat), a]) (fun _ => True) M1) : Xi K (iEnum K ta) ρ M RI := by
  intro σ G H Q s w k
  refine h σ G H _ s w fun vs ds G1 M1 H1 e1 r w1 q => ?_
  obtain ⟨xs, rfl, q⟩ := q
  cases r with
  | cons r1 r =>
    cases r
    cases r1 with
    | @lst a us _ ha ra =>
      refine ⟨a, us, rfl, .inl (.inl (w1.lst ha)), k _ _ _ _ G1 M1 H1 e1 w1 ⟨fun i G M H hi e w _ => ?_, fun G M H e w _ => ?_, fun i G M H x H' hi e w _ y => ?_⟩ q⟩
      · have h1 : i < us.length := by rw [ra.length]; omega
        exact ⟨us, us[i], .inl (.inl (w.lst (e _ _ ha))), by simp [h1]⟩
      · exact ⟨us, .inl (.inl (w.lst (e _ _ ha))), by rw [ra.length]; exact Nat.le_refl _⟩
      · obtain ⟨T, u, rfl, hT, rfl, f1⟩ := y
        obtain ⟨p, p1, p2⟩ := ra.getV (f1 us (.inl (.inl (w.lst (e _ _ ha)))))
        have eN := Ex.new (o := .tup [.int (i : Nat), u]) (w.gfree hT)
        exact ⟨_, .tup [.int (i : Nat), p], eN, w.new hT, .tup upd_same (.cons (.int _) (.cons (p2.up (e.trans eN)) .nil)), p, p1, rfl⟩
/-- a for loop -/
theorem xs_for {wi : TI} {g : TG} {tb : TS} (vs : List Nat) (h : Xi K wi ρ M fun n it lk M1 => ∃ I : Nat → Rho → Mm → Prop, I 0 ρ M1 ∧ (∀ i ρ' M', i ≤ n → I i ρ' M' → lk M') ∧
    (∀ i d ρ' M', i < n → it i d → I i ρ' M' → Xg K vs g d ρ' M' fun ρ2 M2 => Xs K tb { E with nx := I (i + 1), ct := I (i + 1), bk := E.nx } ρ2 M2) ∧
    (∀ ρ' M', I n ρ' M' → E.nx ρ' M')) : Xs K (tFor wi g tb) E ρ M := by
  intro σ G H D s w k
  refine h σ G H _ s w fun J n it lk G1 M1 H1 e1 w1 wk q => ?_
  obtain ⟨I, i0, hlk, hs, hd⟩ := q
  refine ⟨fun i m σ H => m = n - i ∧ i ≤ n ∧ Cn K G1 (I i) σ H, ⟨n, by simp, Nat.zero_le _, G1, ρ, M1, Ex.refl _, s.up e1, w1, i0⟩, ?_⟩
  rintro i m σ' H' ⟨rfl, hi, G2, ρ2, M2, e2, s2, w2, i2⟩
  by_cases hlt : i < n
  · refine .inr ⟨wk.goes i G2 M2 H' hlt e2 w2 (hlk i ρ2 M2 hi i2), Cn K G1 (I (i + 1)), fun σ3 H3 c => ⟨n - (i + 1), by omega, rfl, hlt, c⟩, fun x H3 y => ?_⟩
    obtain ⟨G3, d, e3, w3, r3, hit⟩ := wk.yields i G2 M2 H' x H3 hlt e2 w2 (hlk i ρ2 M2 hi i2) y
    refine hs i d ρ2 M2 hlt hit i2 x σ' G3 H3 _ (s2.up e3) w3 r3 fun σ4 G4 ρ4 M4 H4 e4 s4 w4 _ q => ?_
    have e14 := (e2.trans e3).trans e4
    refine q σ4 G4 H4 _ s4 w4 ⟨?_, k.rt.up (e1.trans e14), k.nx.up (e1.trans e14), ?_⟩
    · exact fun σ5 G5 H5 ρ5 M5 e5 s5 w5 i5 => ⟨G5, ρ5, M5, e14.trans e5, s5, w5, i5⟩
    · exact fun σ5 G5 H5 ρ5 M5 e5 s5 w5 i5 => ⟨G5, ρ5, M5, e14.trans e5, s5, w5, i5⟩
  · have e : i = n := by omega
    subst e
    exact .inl ⟨wk.stops G2 M2 H' e2 w2 (hlk i ρ2 M2 hi i2), k.nx σ' G2 H' ρ2 M2 (e1.trans e2) s2 w2 (hd ρ2 M2 i2)⟩
/-! comprehensions -/
theorem wipe_get : ∀ (vs : List Nat) (σ : L2.St) (i : Nat), (wipe σ vs)[i]? = if i ∈ vs ∧ i < σ.length then some none else σ[i]? := by
  intro vs σ
  have hl : ∀ vs : List Nat, (wipe σ vs).length = σ.length := by
    intro vs
    induction vs with
    | nil => rfl
    | cons v vs ih => show ((wipe σ vs).set v none).length = _; rw [List.length_set, ih]
  induction vs with
  | nil => intro i; simp [wipe]
  | cons v vs ih =>
    intro i
    show ((wipe σ vs).set v none)[i]? = _
    rw [List.getElem?_set, hl, ih]
    by_cases hv : v = i
    · subst hv
      by_cases h1 : v < σ.length
      · simp [h1]
      · have h2 : σ[v]? = none := List.getElem?_eq_none_iff.mpr (by omega)
        simp [h1, h2]
    · rw [if_neg hv]
      by_cases hm : i ∈ vs
      · simp [hm]
      · have : i ∉ v :: vs := by simp [hm]; exact fun z => hv z.symm
        simp [hm, this]
theorem wipe_len (vs : List Nat) (σ : L2.St) : (wipe σ vs).length = σ.length := by
  induction vs with
  | nil => rfl
  | cons v vs ih => show ((wipe σ vs).set v none).length = _; rw [List.length_set, ih]
theorem wipe_agr {vs : List Nat} {σ σ2 : L2.St} (a : Agr vs (wipe σ vs) σ2) : wipe σ2 vs = wipe σ vs := by
  apply List.ext_getElem?
  intro i
  rw [wipe_get, wipe_get]
  have hl : σ2.length = σ.length := a.1.trans (wipe_len vs σ)
  rw [hl]
  by_cases h : i ∈ vs ∧ i < σ.length
  · rw [if_pos h, if_pos h]
  · rw [if_neg h, if_neg h]
    by_cases hv : i ∈ vs
    · have h2 : σ.length ≤ i := Nat.le_of_not_lt fun z => h ⟨hv, z⟩
      rw [List.getElem?_eq_none_iff.mpr (by omega), List.getElem?_eq_none_iff.mpr h2]
    · rw [a.2 i hv, wipe_get, if_neg h]
def wipeD (ρ : Rho) : List Nat → Rho
  | [] => ρ
  | v :: vs => (wipeD ρ vs).set v none
theorem RpS.wipe {G : Hp} {σ : L2.St} (s : RpS K G σ ρ) : ∀ vs : List Nat, RpS K G (L2.wipe σ vs) (wipeD ρ vs) := by
  intro vs
  induction vs with
  | nil => exact s
  | cons v vs ih => exact ih.clr v
variable {R : RD}
theorem RpA.snoc {G : Hp} : ∀ {vs : List V} {ds : List D} {v : V} {d : D}, RpA K G vs ds → Rp K G v d → RpA K G (vs ++ [v]) (ds ++ [d]) := by
  intro vs
  induction vs with
  | nil => intro ds v d h r; cases h; exact .cons r .nil
  | cons a vs ih =>
    intro ds v d h r
    cases h with
    | cons h1 h2 => exact .cons h1 (ih h2 r)
/-- [e for g in w if t]: P i ys: behind i turns the list is ys -/
theorem xe_lc {wi : TI} {g : TG} {tt : TT} {te : TE} {vs : List Nat} (h : Xi K wi ρ M fun n it lk M1 => lk M1 ∧ (∀ p m, lk ((p, m) :: M1)) ∧ n ≤ 16000000 ∧ ∃ P : Nat → List D → Prop, P 0 [] ∧
    (∀ i d ys p, i < n → it i d → P i ys → Xg K vs g d (wipeD ρ vs) ((p, .lst ys) :: M1) fun ρ2 M2 => M2 = (p, .lst ys) :: M1 ∧
      Xt K tt ρ2 ((p, .lst ys) :: M1) fun b M3 => M3 = (p, .lst ys) :: M1 ∧ (b = true → Xe K te ρ2 ((p, .lst ys) :: M1) fun y M4 => M4 = (p, .lst ys) :: M1 ∧ P (i + 1) (ys ++ [y])) ∧ (b = false → P (i + 1) ys)) ∧
    (∀ ys, P n ys → R (.lst ys) M1)) : Xe K (tLc wi g tt te vs) ρ M R := by
  intro σ G H Q s w k
  refine h σ G H _ s w fun J n it lk G1 M1 H1 e1 w1 wk q => ?_
  obtain ⟨lk1, lk2, hn, P, p0, hs, hd⟩ := q
  intro Dl hD
  refine ⟨fun i m H => m = n - i ∧ i ≤ n ∧ ∃ G ys, ys.length ≤ i ∧ Ex G1 G ∧ P i ys ∧ Wd K G ((Dl, .lst ys) :: M1) H, ⟨n, by simp, Nat.zero_le _, G1, [], Nat.zero_le _, Ex.refl _, p0, w1.newM hD ⟨w1.gfree hD, [], upd_same, .nil⟩⟩, ?_⟩
  rintro i m H' ⟨rfl, hi, G2, ys, hys, e2, p2, w2⟩
  by_cases hlt : i < n
  · refine .inr ⟨wk.goes i G2 _ H' hlt e2 w2 (lk2 _ _), fun H => ∃ G ys, ys.length ≤ i + 1 ∧ Ex G1 G ∧ P (i + 1) ys ∧ Wd K G ((Dl, .lst ys) :: M1) H, fun H3 c => ⟨n - (i + 1), by omega, rfl, hlt, c⟩, fun x H3 y => ?_⟩
    obtain ⟨G3, d, e3, w3, r3, hit⟩ := wk.yields i G2 _ H' x H3 hlt e2 w2 (lk2 _ _) y
    refine hs i d ys Dl hlt hit p2 x _ G3 H3 _ ((s.up ((e1.trans e2).trans e3)).wipe vs) w3 r3 fun σ4 G4 ρ4 M4 H4 e4 s4 w4 a4 q => ?_
    obtain ⟨rfl, q⟩ := q
    refine ⟨wipe_agr a4, ?_⟩
    refine q σ4 G4 H4 _ s4 w4 fun b G5 M5 H5 e5 w5 q5 => ?_
    obtain ⟨rfl, q5, q6⟩ := q5
    cases b with
    | true =>
      rw [if_pos rfl]
      refine q5 rfl σ4 G5 H5 _ (s4.up e5) w5 fun v z G6 M6 H6 e6 r6 w6 q7 => ?_
      obtain ⟨rfl, q7⟩ := q7
      obtain ⟨g0, xs, h1, h2⟩ := w6.get .head
      refine ⟨xs, h1, ?_, G6, ys ++ [z], ?_, (((e2.trans e3).trans e4).trans e5).trans e6, q7, ?_⟩
      · rw [h2.length]
        exact Nat.lt_of_le_of_lt hys (Nat.lt_of_lt_of_le hlt (Nat.le_trans hn (by decide)))
      · simp; omega
      · exact w6.put .head g0 ⟨g0, _, upd_same, h2.snoc r6⟩
    | false =>
      rw [if_neg Bool.false_ne_true]
      exact ⟨G5, ys, by omega, (((e2.trans e3).trans e4).trans e5), q6 rfl, w5⟩
  · have e : i = n := by omega
    subst e
    refine .inl ⟨wk.stops G2 _ H' e2 w2 (lk2 _ _), ?_⟩
    obtain ⟨_, xs, h1, h2⟩ := w2.get .head
    obtain ⟨e3, w3⟩ := w2.cut .head rfl h1
    exact k (.ref Dl) (.lst ys) _ M1 H' ((e1.trans e2).trans e3) (.lst upd_same (h2.up e3)) w3 (hd ys p2)
theorem xs_while {tc : TT} {tb : TS} (h : ∃ I : Nat → Rho → Mm → Prop, (∃ m, I m ρ M) ∧ ∀ m ρ' M', I m ρ' M' → Xt K tc ρ' M' fun c M1 =>
    (c = true → Xs K tb { E with nx := fun ρ2 M2 => ∃ m', m' < m ∧ I m' ρ2 M2, ct := fun ρ2 M2 => ∃ m', m' < m ∧ I m' ρ2 M2, bk := E.nx } ρ' M1) ∧ (c = false → E.nx ρ' M1)) : Xs K (tWhile tc tb) E ρ M := by
  intro σ G H D s w k
  obtain ⟨I, ⟨m0, i0⟩, hs⟩ := h
  refine ⟨fun m => Cn K G (I m), ⟨m0, G, ρ, M, Ex.refl _, s, w, i0⟩, fun m σ' H' c => ?_⟩
  obtain ⟨G2, ρ2, M2, e2, s2, w2, i2⟩ := c
  refine hs m ρ2 M2 i2 σ' G2 H' _ s2 w2 fun c G3 M3 H3 e3 w3 q => ?_
  cases c with
  | true =>
    rw [if_pos rfl]
    refine ⟨Cn K G fun ρ2 M2 => ∃ m', m' < m ∧ I m' ρ2 M2, fun σ4 H4 q4 => ?_, ?_⟩
    · obtain ⟨G4, ρ4, M4, e4, s4, w4, m', hm, i4⟩ := q4
      exact ⟨m', hm, G4, ρ4, M4, e4, s4, w4, i4⟩
    · have e23 := e2.trans e3
      refine q.1 rfl σ' G3 H3 _ (s2.up e3) w3 ⟨?_, k.rt.up e23, k.nx.up e23, ?_⟩
      · exact fun σ4 G4 H4 ρ4 M4 e4 s4 w4 i4 => ⟨G4, ρ4, M4, e23.trans e4, s4, w4, i4⟩
      · exact fun σ4 G4 H4 ρ4 M4 e4 s4 w4 i4 => ⟨G4, ρ4, M4, e23.trans e4, s4, w4, i4⟩
  | false =>
    rw [if_neg Bool.false_ne_true]
    exact k.nx σ' G3 H3 ρ2 M3 (e2.trans e3) (s2.up e3) w3 (q.2 rfl)

/-! ### calls of defs -/
abbrev DS := List D → Mm → RD → Prop
def spOf (K : PySem.W.Frag) (S : DS) : Sp := fun vs H Q _ => ∃ G M ds R, RpA K G vs ds ∧ Wd K G M H ∧ S ds M R ∧ ∀ v d G' M' H', Ex G G' → Rp K G' v d → Wd K G' M' H' → R d M' → Q v H'
variable {R : RD}
theorem xe_call {S : DS} {X : XK} {t : TA} (h : Xa K t ρ M fun ds M1 => S ds M1 R) : Xe K (tCall (spOf K S) [] X t) ρ M R := by
  intro σ G H Q s w k
  refine h σ G H _ s w fun vs ds G1 M1 H1 e1 r w1 q => ?_
  rw [List.append_nil]
  exact ⟨G1, M1, ds, R, r, w1, q, fun v d G' M' H' e => k v d G' M' H' (e1.trans e)⟩
end
def startD (N : List Str) (ds : List D) : Rho := ds.map some ++ List.replicate (N.length - ds.length) none
theorem rps_start {K : PySem.W.Frag} {G : Hp} {N : List Str} {vs : List V} {ds : List D} (h : RpA K G vs ds) : RpS K G (L2.start N vs) (startD N ds) := by
  have hl := h.length
  refine ⟨by simp [L2.start, startD, hl], fun i d hd => ?_⟩
  unfold startD at hd
  unfold L2.start
  by_cases hi : i < ds.length
  · rw [List.getElem?_append_left (by simpa using hi), List.getElem?_map] at hd
    rw [List.getElem?_append_left (by simpa [hl] using hi), List.getElem?_map]
    cases q : ds[i]? with
    | none => rw [q] at hd; cases hd
    | some d' =>
      rw [q] at hd
      cases hd
      obtain ⟨v, h1, h2⟩ := h.get q
      exact ⟨v, by rw [h1]; rfl, h2⟩
  · rw [List.getElem?_append_right (by simpa using hi), List.getElem?_replicate] at hd
    split at hd <;> cases hd
section
variable {P : Program} {w : World} {K : PySem.W.Frag} {mg : Str → Option Value} {base : Heap}
/-- a def keeps S, by its body's term and what it tells -/
theorem fn_ok {x qual : Str} {st : Stmt} {f : Addr} {fd : FuncData} {N ps : List Str} {k : Nat} {S : DS} (F : Fun K x qual st f fd) (Sc : FnScope N ps (defScope st)) (len : ∀ ds M R, S ds M R → ds.length = ps.length)
    (hbody : ∀ (cdv : Value) (A : Around) (outer : List Env) (s : Shared) (H : Hp) (E : XK), Room k (A.deeper (PyProof.Rows.envOfC qual (defScope st) s.heap.objs.size f cdv)) →
      ∃ t, PSs (cxOf CX0 P w K mg base N qual (defScope st) f cdv A outer s H E).nox (defBody st) t ∧ ∀ ds M R, S ds M R → Xs K t { nx := fun _ M' => R .non M', rt := R } (startD N ds) M) : FnOk P w K mg base CX0 (k + 1) f fd ps (spOf K S) := by
  refine F.ok Sc (fun vs H Q E h => ?_) (fun cdv A outer s H vs Q E hr h => ?_)
  · obtain ⟨G, M, ds, R, r, _, hs, _⟩ := h
    rw [r.length]
    exact len ds M R hs
  · obtain ⟨G, M, ds, R, r, w0, hs, kk⟩ := h
    obtain ⟨t, h1, h2⟩ := hbody cdv A outer s H E hr
    refine ⟨t, h1, h2 ds M R hs _ G H _ (rps_start r) w0 ⟨?_, ?_, ?_, ?_⟩⟩
    · exact fun σ' G' H' ρ' M' e _ w' q => kk .non .non G' M' H' e .non w' q
    · exact fun v d G' M' H' e r' w' q => kk v d G' M' H' e r' w' q
    · exact fun σ' G' H' ρ' M' e _ w' q => q
    · exact fun σ' G' H' ρ' M' e _ w' q => q
/-- a def of the module: what a caller needs -/
structure GFn (P : Program) (w : World) (K : PySem.W.Frag) (mg : Str → Option Value) (base : Heap) (k : Nat) (x : Str) (ps : List Str) (S : DS) : Prop where
  ex : ∃ f fd, FnOk P w K mg base CX0 k f fd ps (spOf K S) ∧ mg x = some (.ref f) ∧ PySem.W.keepIn K (.ref f) = true ∧ Binds K fd ps []
theorem GFn.mono {j k : Nat} {x : Str} {ps : List Str} {S : DS} (h : GFn P w K mg base j x ps S) (hk : j ≤ k) : GFn P w K mg base k x ps S := by
  obtain ⟨f, fd, h1, h2⟩ := h.ex
  exact ⟨f, fd, h1.mono hk, h2⟩
end
theorem pe_g {X : Cx} {k : Nat} {x : Str} {ps : List Str} {S : DS} {e : Expr} {es : List Expr} {t : TA} {p pos : Pos} (G : GFn X.prog X.w X.K X.mg X.base k x ps S) (hr : Room k X.A) (ha : PA X (e :: es) t)
    (hg : Gl X x := by rfl) (hdb : (x == ("__debug__" : Str)) = false := by decide) (he : starEach (e :: es) X.env = (false, eval e X.env) :: starEach es X.env := by rfl) (hpl : (backTo pos (starEach es X.env)).any (·.1) = false := by rfl) :
    PE X (.Call (.Name x p) (e :: es) [] pos) (tCall (spOf X.K S) [] E0 t) := by
  obtain ⟨f, fd, h1, h2, h3, h4⟩ := G.ex
  exact pe_call h1 hr hg h2 h3 h4 .nil pass0 ha hdb he hpl
end XD

/-! XD5: built-ins, methods, slices; what a module's top has written. -/
namespace XD
open PySem L2

/-! ### rules that serve several kinds -/
def rAddI : R2 := rI0 fun i j => .int (i + j)
def rAddS' : R2 := fun x y H Q => ∃ i j, x = .str i ∧ y = .str j ∧ i.length + j.length ≤ sizeLine ∧ Q (.str (i ++ j)) H
def rAddU (K : PySem.W.Frag) : R2 := fun x y H Q => rAddI x y H Q ∨ (rAddS' x y H Q ∨ (rCat x y H Q ∨ rCatA K x y H Q))
theorem op_addU {X : Cx} : OpR X (binaryOp .Add) (rAddU X.K) := OpR.or op_add (OpR.or op_add_str (OpR.or op_cat op_catA))
/-- one factor small, or both together below a million bits -/
def CMulU (i j : Int) : Prop := CMul i j ∨ CMulW i j
theorem op_mulU {X : Cx} : OpR X (binaryOp .Mult) (rI CMulU fun i j => .int (i * j)) := opI fun _ _ _ _ _ _ _ hc q => PyProof.Rows.mul_int q (hc.elim (fun h => h.ok) fun h => h.ok)
theorem cmulR {i j : Int} (h : j.natAbs < 18446744073709551616) : CMulU i j := .inl (.inr ⟨by show -18446744073709551616 < j; omega, by show j < 18446744073709551616; omega⟩)
theorem cmulL {i j : Int} (h : i.natAbs < 18446744073709551616) : CMulU i j := .inl (.inl ⟨by show -18446744073709551616 < i; omega, by show i < 18446744073709551616; omega⟩)
def rSlU (K : PySem.W.Frag) : V → Option Int → Option Int → Hp → VK → Prop := fun x lo hi H Q => rSlS x lo hi H Q ∨ (rSlL K x lo hi H Q ∨ rSlA K x lo hi H Q)
theorem sl_U {X : Cx} : SlR X (rSlU X.K) := SlR.or sl_str (SlR.or sl_list sl_tupA)
def cInt : List V → Hp → VK → Prop := fun xs H Q => (∃ i, xs = [.int i] ∧ Q (.int i) H) ∨ ∃ k, xs = [.bl k] ∧ Q (.int (if k then 1 else 0)) H
def cLen (K : PySem.W.Frag) : List V → Hp → VK → Prop := fun xs H Q => ∃ x n, xs = [x] ∧ LenV K x H n ∧ Q (.int n) H
def cList (K : PySem.W.Frag) : List V → Hp → VK → Prop := fun xs H Q => ∃ p ys, xs = [.ref p] ∧ (SqL K H p ys ∨ SqT K H p ys) ∧ ∀ l, H l = none → Q (.ref l) (upd H l (.lst ys))
def cStrI : List V → Hp → VK → Prop := fun xs H Q => ∃ i, xs = [.int i] ∧ i.natAbs.log2 < 1920 ∧ Q (.str (toString i)) H
theorem c_int {X : Cx} : CallR X (.type "int") cInt := call_int1
theorem c_len {X : Cx} : CallR X (.builtin "len") (cLen X.K) := call_len
theorem c_list {X : Cx} : CallR X (.type "list") (cList X.K) := call_list_of
theorem c_strI {X : Cx} : CallR X (.type "str") cStrI := call_str_int
def rInC : R2 := fun x y H Q => ∃ (c : Nat) (z : Str), x = .str ⟨#[c]⟩ ∧ y = .str z ∧ Q (.bl (decide (c ∈ z.cps.toList))) H
theorem o_inC {X : Cx} : OpR X (compareOp .In) rInC := op_in_sign

def strLe (n : Nat) : n ≤ 16000000 → n ≤ sizeLine := fun h => Nat.le_trans h (by decide)
section
variable {K : PySem.W.Frag} {ρ : Rho} {M M' : Mm} {R : RD} {i j : Int}
theorem xr_addI (r : R (.int (i + j)) M) : Xr K (rAddU K) (.int i) (.int j) M R := xr_or1 (xr_I0 (g := fun i j => i + j) r)
theorem xr_addSt {a b : Str} (h : a.length + b.length ≤ 16000000) (r : R (.str (a ++ b)) M) : Xr K (rAddU K) (.str a) (.str b) M R := xr_or2 (xr_or1 (xr_addS h r))
theorem RpA.append {G : Hp} : ∀ {vs ws : List V} {ds es : List D}, RpA K G vs ds → RpA K G ws es → RpA K G (vs ++ ws) (ds ++ es) := by
  intro vs
  induction vs with
  | nil => intro ws ds es h r; cases h; exact r
  | cons a vs ih =>
    intro ws ds es h r
    cases h with
    | cons h1 h2 => exact .cons h1 (ih h2 r)
theorem xr_addL {ds es : List D} (h : ds.length + es.length ≤ 16000000) (r : R (.lst (ds ++ es)) M) : Xr K (rAddU K) (.lst ds) (.lst es) M R := by
  intro vx vy G H Q rx ry w k
  cases rx with
  | lst hx rx =>
    cases ry with
    | lst hy ry =>
      refine .inr (.inr (.inl ⟨_, _, _, _, rfl, rfl, w.lst hx, w.lst hy, ?_, fun p hp => ?_⟩))
      · rw [rx.length, ry.length]; exact strLe _ h
      · obtain ⟨G', e, r', w'⟩ := w.newL hp (rx.append ry)
        exact k _ _ G' M _ e r' w' r
/-- a new list that will be changed -/
theorem xr_addLM {ds es : List D} (h : ds.length + es.length ≤ 16000000) (r : ∀ p, R (.ref p) ((p, .lst (ds ++ es)) :: M)) : Xr K (rAddU K) (.lst ds) (.lst es) M R := by
  intro vx vy G H Q rx ry w k
  cases rx with
  | lst hx rx =>
    cases ry with
    | lst hy ry =>
      refine .inr (.inr (.inl ⟨_, _, _, _, rfl, rfl, w.lst hx, w.lst hy, ?_, fun p hp => ?_⟩))
      · rw [rx.length, ry.length]; exact strLe _ h
      · exact k _ (.ref p) G _ _ (Ex.refl G) (.ref p) (w.newLM hp (rx.append ry)) (r p)
theorem xr_addT {ds es : List D} (h : ds.length + es.length ≤ 16000000) (r : R (.tup (ds ++ es)) M) : Xr K (rAddU K) (.tup ds) (.tup es) M R := by
  intro vx vy G H Q rx ry w k
  cases rx with
  | @tup a xs _ hx rx =>
    cases ry with
    | @tup b ys _ hy ry =>
      refine .inr (.inr (.inr ⟨_, _, _, _, rfl, rfl, .inl (.inl (w.tup hx)), .inl (.inl (w.tup hy)), ?_, fun z => ?_, fun z z2 => ?_, fun _ _ p hp => ?_⟩))
      · rw [rx.length, ry.length]; exact strLe _ h
      · subst z
        cases rx
        exact k _ _ G M H (Ex.refl G) (.tup hy ry) w r
      · subst z2
        cases ry
        rw [List.append_nil] at r
        exact k _ _ G M H (Ex.refl G) (.tup hx rx) w r
      · obtain ⟨G', e, r', w'⟩ := w.newT hp (rx.append ry)
        exact k _ _ G' M _ e r' w' r
/-! calls -/
theorem xc_int (r : R (.int i) M) : Xc K cInt [.int i] M R := by
  intro vs G H Q rs w k
  cases rs with
  | cons h t =>
    cases t
    cases h
    exact .inl ⟨i, rfl, k _ _ G M H (Ex.refl G) (.int i) w r⟩
theorem xc_lenS {z : Str} (h : z.length ≤ 16000000) (r : R (.int z.length) M) : Xc K (cLen K) [.str z] M R := by
  intro vs G H Q rs w k
  cases rs with
  | cons h1 t =>
    cases t
    cases h1
    exact ⟨_, z.length, rfl, ⟨strLe _ h, rfl⟩, k _ _ G M H (Ex.refl G) (.int _) w r⟩
theorem xc_lenL {ds : List D} (r : R (.int ds.length) M) : Xc K (cLen K) [.lst ds] M R := by
  intro vs G H Q rs w k
  cases rs with
  | cons h1 t =>
    cases t
    cases h1 with
    | lst h1 h2 => exact ⟨_, ds.length, rfl, .inl ⟨_, .inl (.inl (w.lst h1)), h2.length.symm⟩, k _ _ G M H (Ex.refl G) (.int _) w r⟩
theorem xc_lenT {ds : List D} (r : R (.int ds.length) M) : Xc K (cLen K) [.tup ds] M R := by
  intro vs G H Q rs w k
  cases rs with
  | cons h1 t =>
    cases t
    cases h1 with
    | tup h1 h2 => exact ⟨_, ds.length, rfl, .inr ⟨_, .inl (.inl (w.tup h1)), h2.length.symm⟩, k _ _ G M H (Ex.refl G) (.int _) w r⟩
theorem xc_lenM {a : Addr} {ds : List D} (hm : Has M a (.lst ds)) (r : R (.int ds.length) M) : Xc K (cLen K) [.ref a] M R := by
  intro vs G H Q rs w k
  cases rs with
  | cons h1 t =>
    cases t
    cases h1
    obtain ⟨_, xs, h1, h2⟩ := w.get hm
    exact ⟨_, ds.length, rfl, .inl ⟨_, .inl (.inl h1), h2.length.symm⟩, k _ _ G M H (Ex.refl G) (.int _) w r⟩
theorem xc_listL {ds : List D} {x : D} (hx : x = .lst ds ∨ x = .tup ds ∨ ∃ a, x = .ref a ∧ Has M a (.lst ds)) (r : R (.lst ds) M) : Xc K (cList K) [x] M R := by
  intro vs G H Q rs w k
  cases rs with
  | cons h1 t =>
    cases t
    have fin : ∀ (xs : List V), RpA K G xs ds → ∀ l, H l = none → Q (.ref l) (upd H l (.lst xs)) := fun xs h l hl => by
      have e := Ex.new (o := .lst xs) (w.gfree hl)
      exact k _ _ _ M _ e (.lst upd_same (h.up e)) (w.new hl) r
    rcases hx with rfl | rfl | ⟨a, rfl, hm⟩
    · cases h1 with
      | lst h1 h2 => exact ⟨_, _, rfl, .inl (.inl (.inl (w.lst h1))), fin _ h2⟩
    · cases h1 with
      | tup h1 h2 => exact ⟨_, _, rfl, .inr (.inl (.inl (w.tup h1))), fin _ h2⟩
    · cases h1
      obtain ⟨_, xs, h1, h2⟩ := w.get hm
      exact ⟨_, _, rfl, .inl (.inl (.inl h1)), fin _ h2⟩
theorem xc_listM {ds : List D} {x : D} (hx : x = .lst ds ∨ x = .tup ds ∨ ∃ a, x = .ref a ∧ Has M a (.lst ds)) (r : ∀ p, R (.ref p) ((p, .lst ds) :: M)) : Xc K (cList K) [x] M R := by
  intro vs G H Q rs w k
  cases rs with
  | cons h1 t =>
    cases t
    have fin : ∀ (xs : List V), RpA K G xs ds → ∀ l, H l = none → Q (.ref l) (upd H l (.lst xs)) := fun xs h l hl =>
      k _ (.ref l) G _ _ (Ex.refl G) (.ref l) (w.newLM hl h) (r l)
    rcases hx with rfl | rfl | ⟨a, rfl, hm⟩
    · cases h1 with
      | lst h1 h2 => exact ⟨_, _, rfl, .inl (.inl (.inl (w.lst h1))), fin _ h2⟩
    · cases h1 with
      | tup h1 h2 => exact ⟨_, _, rfl, .inr (.inl (.inl (w.tup h1))), fin _ h2⟩
    · cases h1
      obtain ⟨_, xs, h1, h2⟩ := w.get hm
      exact ⟨_, _, rfl, .inl (.inl (.inl h1)), fin _ h2⟩
theorem xc_strI (h : i.natAbs.log2 < 1920) (r : R (.str (toString i)) M) : Xc K cStrI [.int i] M R := by
  intro vs G H Q rs w k
  cases rs with
  | cons h1 t =>
    cases t
    cases h1
    exact ⟨i, rfl, h, k _ _ G M H (Ex.refl G) (.str _) w r⟩
theorem xc_all {bs : List Bool} (r : R (.bl (bs.all id)) M) : Xc K (rAll K) [.lst (bs.map D.bl)] M R := by
  intro vs G H Q rs w k
  cases rs with
  | cons h1 t =>
    cases t
    cases h1 with
    | lst h1 h2 =>
      have e := h2.fl (by simp [List.all_eq_true, flD])
      have e2 : (bs.map D.bl).map fl = bs.map V.bl := by simp [fl]
      rw [e2] at e
      subst e
      exact ⟨_, bs, rfl, .inl (.inl (w.lst h1)), k _ _ G M H (Ex.refl G) (.bl _) w r⟩
theorem xc_any {bs : List Bool} (r : R (.bl (bs.any id)) M) : Xc K (rAny K) [.lst (bs.map D.bl)] M R := by
  intro vs G H Q rs w k
  cases rs with
  | cons h1 t =>
    cases t
    cases h1 with
    | lst h1 h2 =>
      have e := h2.fl (by simp [List.all_eq_true, flD])
      have e2 : (bs.map D.bl).map fl = bs.map V.bl := by simp [fl]
      rw [e2] at e
      subst e
      exact ⟨_, bs, rfl, .inl (.inl (w.lst h1)), k _ _ G M H (Ex.refl G) (.bl _) w r⟩
/-! isinstance -/
def tyN : D → Option String
  | .non => some "NoneType"
  | .bl _ => some "bool"
  | .int _ => some "int"
  | .str _ => some "str"
  | .lst _ => some "list"
  | .tup _ => some "tuple"
  | .dk _ => some "dict"
  | _ => none
theorem Rp.tyX {G H : Hp} {v : V} {d : D} {n : String} (h : Rp K G v d) (w : Wd K G M H) (e : tyN d = some n) : TyX K H v (.type n) := by
  cases h with
  | non => cases e; exact .base .non
  | bl b => cases e; exact .base (.bl b)
  | int b => cases e; exact .base (.int b)
  | str b => cases e; exact .base (.str b)
  | lst h r => cases e; exact .base (.lst (w.lst h))
  | tup h r => cases e; exact .base (.tup (w.tup h))
  | dk h r =>
    cases e
    rcases w.ex _ _ h with q | ⟨_, od, q⟩
    · exact .base (.dK q)
    · exact .fDict q
  | _ => cases e
theorem xc_isi {x : D} {n m : String} {b : Bool} (hx : tyN x = some n) (hk : kitB n m = some b) (r : R (.bl b) M) : Xc K (rIsi K) [x, .ty m] M R := by
  intro vs G H Q rs w k
  cases rs with
  | cons h1 t =>
    cases t with
    | cons h2 t =>
      cases t
      cases h2
      exact ⟨_, _, _, _, b, rfl, .ty m, h1.tyX w hx, kit_ty hk, k _ _ G M H (Ex.refl G) (.bl b) w r⟩
theorem paired_cls : ∀ ns : List String, Paired ClsV (ns.map V.ty) (ns.map Value.type) := by
  intro ns
  induction ns with
  | nil => exact .nil
  | cons n ns ih => exact .cons (.ty n) ih
theorem RpA.tys {G : Hp} : ∀ {vs : List V} {ns : List String}, RpA K G vs (ns.map D.ty) → vs = ns.map V.ty := by
  intro vs
  induction vs with
  | nil => intro ns h; cases ns with | nil => rfl | cons n ns => cases h
  | cons v vs ih =>
    intro ns h
    cases ns with
    | nil => cases h
    | cons n ns =>
      cases h with
      | cons h1 h2 => cases h1; rw [ih h2, List.map_cons]
def kitL (a : String) : List String → Option Bool
  | [] => some false
  | c :: r => match kitB a c with
    | some true => some true
    | some false => kitL a r
    | none => none
theorem kit_any {a : String} : ∀ {ns : List String} {b : Bool}, kitL a ns = some b → PySem.W.kitAny K (.type a) (ns.map Value.type) = some b := by
  intro ns
  induction ns with
  | nil => intro b h; exact h
  | cons n ns ih =>
    intro b h
    unfold kitL at h
    cases e : kitB a n with
    | none => rw [e] at h; cases h
    | some c =>
      rw [e] at h
      cases c with
      | true => exact kitAny_cons (kit_ty e) (fun z => nomatch z) (fun _ => (Option.some.inj h).symm)
      | false => exact kitAny_cons (kit_ty e) (fun _ => ih h) (fun z => nomatch z)
theorem xe_isiT {ta : TE} {tb : TA} (ns : List String) (h : Xe K ta ρ M fun x M1 => Xa K tb ρ M1 fun cs M2 => cs = ns.map D.ty ∧ ns.length ≤ 100 ∧ ∃ n b, tyN x = some n ∧ kitL n ns = some b ∧ R (.bl b) M2) :
    Xe K (tCB (rIsiT K) (tCons ta (tCons (tTup tb) tNil))) ρ M R := by
  intro σ G H Q s w k
  refine h σ G H _ s w fun vx x G1 M1 H1 e1 rx w1 h1 => ?_
  refine h1 σ G1 H1 _ (s.up e1) w1 fun vs cs G2 M2 H2 e2 rs w2 h2 => ?_
  obtain ⟨rfl, hl, n, b, hn, hk, r⟩ := h2
  have ev := rs.tys
  subst ev
  refine ⟨by rw [List.length_map]; exact strLe _ (by omega), fun p hp => ?_⟩
  have e := Ex.new (o := .tup (ns.map V.ty)) (w2.gfree hp)
  have w3 := w2.new (o := .tup (ns.map V.ty)) hp
  exact ⟨vx, p, ns.map V.ty, _, _, b, rfl, upd_same, paired_cls ns, (rx.up (e2.trans e)).tyX w3 hn, kit_any hk, k _ _ _ M2 _ ((e1.trans e2).trans e) (.bl b) w3 r⟩
/-! slices -/
def Xo (K : PySem.W.Frag) (t : TO) (ρ : Rho) (M : Mm) (R : Option Int → Mm → Prop) : Prop :=
  ∀ (σ : L2.St) (G H : Hp) (Q : Option Int → Hp → Prop), RpS K G σ ρ → Wd K G M H → (∀ o G' M' H', Ex G G' → Wd K G' M' H' → R o M' → Q o H') → t σ H Q
def Xl (K : PySem.W.Frag) (r : V → Option Int → Option Int → Hp → VK → Prop) (x : D) (lo hi : Option Int) (M : Mm) (R : RD) : Prop :=
  ∀ (vx : V) (G H : Hp) (Q : VK), Rp K G vx x → Wd K G M H → (∀ v d G' M' H', Ex G G' → Rp K G' v d → Wd K G' M' H' → R d M' → Q v H') → r vx lo hi H Q
theorem xo_no {RO : Option Int → Mm → Prop} (h : RO none M) : Xo K tNoPart ρ M RO := by
  intro σ G H Q s w k
  exact k none G M H (Ex.refl G) w h
theorem xo_at {te : TE} {RO : Option Int → Mm → Prop} (h : Xe K te ρ M fun d M1 => ∃ i, d = .int i ∧ RO (some i) M1) : Xo K (tPart te) ρ M RO := by
  intro σ G H Q s w k
  refine h σ G H _ s w fun v d G1 M1 H1 e1 r w1 q => ?_
  obtain ⟨i, rfl, q⟩ := q
  cases r
  exact ⟨i, rfl, k (some i) G1 M1 H1 e1 w1 q⟩
theorem xe_sl {r : V → Option Int → Option Int → Hp → VK → Prop} {te : TE} {tl th : TO} (h : Xe K te ρ M fun x M1 => Xo K tl ρ M1 fun lo M2 => Xo K th ρ M2 fun hi M3 => Xl K r x lo hi M3 R) : Xe K (tSl r te tl th) ρ M R := by
  intro σ G H Q s w k
  refine h σ G H _ s w fun vx x G1 M1 H1 e1 rx w1 h1 => ?_
  refine h1 σ G1 H1 _ (s.up e1) w1 fun lo G2 M2 H2 e2 w2 h2 => ?_
  refine h2 σ G2 H2 _ (s.up (e1.trans e2)) w2 fun hi G3 M3 H3 e3 w3 h3 => ?_
  exact h3 vx G3 H3 Q (rx.up (e2.trans e3)) w3 fun v d G' M' H' e => k v d G' M' H' (((e1.trans e2).trans e3).trans e)
def cutD (xs : List D) (lo hi : Option Int) : List D := (xs.drop (HT.sIx xs.length 0 lo)).take (HT.sIx xs.length xs.length hi - HT.sIx xs.length 0 lo)
theorem RpA.drop {G : Hp} : ∀ {vs : List V} {ds : List D} (n : Nat), RpA K G vs ds → RpA K G (vs.drop n) (ds.drop n) := by
  intro vs
  induction vs with
  | nil => intro ds n h; cases h; simp; exact .nil
  | cons v vs ih =>
    intro ds n h
    cases h with
    | cons h1 h2 =>
      cases n with
      | zero => exact .cons h1 h2
      | succ n => exact ih n h2
theorem RpA.take {G : Hp} : ∀ {vs : List V} {ds : List D} (n : Nat), RpA K G vs ds → RpA K G (vs.take n) (ds.take n) := by
  intro vs
  induction vs with
  | nil => intro ds n h; cases h; simp; exact .nil
  | cons v vs ih =>
    intro ds n h
    cases h with
    | cons h1 h2 =>
      cases n with
      | zero => exact .nil
      | succ n => exact .cons h1 (ih n h2)
theorem RpA.cut {G : Hp} {vs : List V} {ds : List D} (lo hi : Option Int) (h : RpA K G vs ds) : RpA K G (cutV vs lo hi) (cutD ds lo hi) := by
  unfold cutV cutD
  rw [h.length]
  exact (h.drop _).take _
theorem xl_S {z : Str} {lo hi : Option Int} (h : z.length ≤ 16000000) (r : R (.str (cutS z lo hi)) M) : Xl K (rSlU K) (.str z) lo hi M R := by
  intro vx G H Q rx w k
  cases rx
  exact .inl ⟨z, rfl, strLe _ h, k _ _ G M H (Ex.refl G) (.str _) w r⟩
theorem xl_L {ds : List D} {lo hi : Option Int} (r : R (.lst (cutD ds lo hi)) M) : Xl K (rSlU K) (.lst ds) lo hi M R := by
  intro vx G H Q rx w k
  cases rx with
  | lst h1 h2 =>
    refine .inr (.inl ⟨_, _, rfl, .inl (.inl (w.lst h1)), fun p hp => ?_⟩)
    obtain ⟨G', e, r', w'⟩ := w.newL hp (h2.cut lo hi)
    exact k _ _ G' M _ e r' w' r
theorem xl_T {ds : List D} {lo hi : Option Int} (r : R (.tup (cutD ds lo hi)) M) : Xl K (rSlU K) (.tup ds) lo hi M R := by
  intro vx G H Q rx w k
  cases rx with
  | @tup a xs _ h1 h2 =>
    refine .inr (.inr ⟨_, _, rfl, .inl (.inl (w.tup h1)), fun z => ?_, fun _ p hp => ?_⟩)
    · have ec : cutD ds lo hi = ds := by
        unfold cutD
        rw [h2.length] at z
        rw [z.1, z.2]
        simp
      rw [ec] at r
      exact k _ _ G M H (Ex.refl G) (.tup h1 h2) w r
    · have e := Ex.new (o := .tup (cutV xs lo hi)) (w.gfree hp)
      exact k _ _ _ M _ e (.tup upd_same ((h2.cut lo hi).up e)) (w.new hp) r
theorem rpA_ints {G : Hp} : ∀ ns : List Int, RpA K G (ns.map V.int) (ns.map D.int) := by
  intro ns
  induction ns with
  | nil => exact .nil
  | cons n ns ih => exact .cons (.int n) ih
theorem xl_scr {ns : List Int} {lo hi : Option Int} (r : R (.lst (cutD (ns.map D.int) lo hi)) M) : Xl K (rSlU K) (.scr ns) lo hi M R := by
  intro vx G H Q rx w k
  cases rx with
  | scr h1 =>
    refine .inr (.inl ⟨_, _, rfl, w.sqL h1, fun p hp => ?_⟩)
    have e := Ex.new (o := .lst (cutV (ns.map V.int) lo hi)) (w.gfree hp)
    exact k _ _ _ M _ e (.lst upd_same (((rpA_ints ns).cut lo hi).up e)) (w.new hp) r
/-! methods -/
inductive TyM (M : Mm) : String → D → Prop
  | str (z : Str) : TyM M "str" (.str z)
  | int (i : Int) : TyM M "int" (.int i)
  | lst (ds : List D) : TyM M "list" (.lst ds)
  | lstM {a : Addr} {ds : List D} (h : Has M a (.lst ds)) : TyM M "list" (.ref a)
  | dkM {a : Addr} {ds : List (Key × D)} (h : Has M a (.dk ds)) : TyM M "dict" (.ref a)
  | dtM {a : Addr} {ds : List (List Key × D)} (h : Has M a (.dt ds)) : TyM M "dict" (.ref a)
theorem TyM.tyV {G H : Hp} {T : String} {x : D} {v : V} (t : TyM M T x) (r : Rp K G v x) (w : Wd K G M H) : L2.tyV K T v H := by
  cases t with
  | str z => cases r; rfl
  | int z => cases r; rfl
  | lst ds => cases r with | lst h1 h2 => exact .inl ⟨rfl, _, .inl (.inl (w.lst h1))⟩
  | lstM h =>
    cases r
    obtain ⟨_, xs, h1, h2⟩ := w.get h
    exact .inl ⟨rfl, _, .inl (.inl h1)⟩
  | dkM h =>
    cases r
    obtain ⟨_, xs, h1, h2⟩ := w.get h
    exact .inr (.inr (.inl ⟨rfl, .inl ⟨_, h1⟩⟩))
  | dtM h =>
    cases r
    obtain ⟨_, xs, h1, h2⟩ := w.get h
    exact .inr (.inr (.inl ⟨rfl, .inr ⟨_, h1⟩⟩))
theorem xe_bm {T : String} {r : V → List V → Hp → VK → Prop} {to : TE} {t : TA} (h : Xe K to ρ M fun x M1 => TyM M1 T x ∧ Xa K t ρ M1 fun xs M2 => Xm K r x xs M2 R) : Xe K (tBM K T r to t) ρ M R := by
  intro σ G H Q s w k
  refine h σ G H _ s w fun vx x G1 M1 H1 e1 rx w1 h1 => ?_
  refine ⟨h1.1.tyV rx w1, ?_⟩
  refine h1.2 σ G1 H1 _ (s.up e1) w1 fun vs xs G2 M2 H2 e2 rs w2 h2 => ?_
  exact h2 vx vs G2 H2 Q (rx.up e2) rs w2 fun v d G' M' H' e => k v d G' M' H' ((e1.trans e2).trans e)
theorem xe_bm0 {T : String} {r : V → List V → Hp → VK → Prop} {to : TE} (h : Xe K to ρ M fun x M1 => TyM M1 T x ∧ Xm K r x [] M1 R) : Xe K (tBM0 K T r to) ρ M R := by
  intro σ G H Q s w k
  refine h σ G H _ s w fun vx x G1 M1 H1 e1 rx w1 h1 => ?_
  exact ⟨h1.1.tyV rx w1, h1.2 vx [] G1 H1 Q rx .nil w1 fun v d G' M' H' e => k v d G' M' H' (e1.trans e)⟩
theorem xm_append {a : Addr} {ds : List D} {y : D} (hm : Has M a (.lst ds)) (hp : Put M a (.lst (ds ++ [y])) M') (hl : ds.length < 16000000) (r : R .non M') : Xm K rAppend (.ref a) [y] M R := by
  intro vx vs G H Q rx rs w k
  cases rx
  cases rs with
  | cons h1 t =>
    cases t
    obtain ⟨g0, xs, h2, h3⟩ := w.get hm
    refine ⟨a, xs, _, rfl, rfl, h2, ?_, ?_⟩
    · rw [h3.length]; exact Nat.lt_of_lt_of_le hl (by decide)
    · exact k .non .non G M' _ (Ex.refl G) .non (w.put hp g0 ⟨g0, _, upd_same, h3.snoc h1⟩) r
/-! stores by place -/
theorem RpA.set {G : Hp} : ∀ {vs : List V} {ds : List D} {v : V} {d : D} (n : Nat), RpA K G vs ds → Rp K G v d → RpA K G (vs.set n v) (ds.set n d) := by
  intro vs
  induction vs with
  | nil => intro ds v d n h r; cases h; exact .nil
  | cons a vs ih =>
    intro ds v d n h r
    cases h with
    | cons h1 h2 =>
      cases n with
      | zero => exact .cons r h2
      | succ n => exact .cons h1 (ih n h2 r)
theorem xg_setL {vs : List Nat} {to ti : TE} {d : D} {RG : Rho → Mm → Prop} (h : Xe K to ρ M fun o M1 => Xe K ti ρ M1 fun x M2 => ∃ a k ds j M3, o = .ref a ∧ x = .int k ∧ Has M2 a (.lst ds) ∧ ixN ds.length k = some j ∧ Put M2 a (.lst (ds.set j d)) M3 ∧ RG ρ M3) : Xg K vs (gSub to ti rSetL) d ρ M RG := by
  intro v σ G H Q s w r kk
  refine h σ G H _ s w fun vo o G1 M1 H1 e1 ro w1 h1 => ?_
  refine h1 σ G1 H1 _ (s.up e1) w1 fun vi x G2 M2 H2 e2 ri w2 h2 => ?_
  obtain ⟨a, k, ds, j, M3, rfl, rfl, hm, hj, hp, q⟩ := h2
  cases ro
  cases ri
  obtain ⟨g0, xs, h3, h4⟩ := w2.get hm
  refine ⟨a, xs, k, j, rfl, rfl, h3, by rw [h4.length]; exact hj, ?_⟩
  exact kk σ G2 ρ M3 _ (e1.trans e2) (s.up (e1.trans e2)) (w2.put hp g0 ⟨g0, _, upd_same, h4.set j (r.up (e1.trans e2))⟩) (Agr.refl vs σ) q
end

theorem cxOf_K {CX : CXT} {P : Program} {w : World} {K : PySem.W.Frag} {mg : Str → Option Value} {base : Heap} {N : List Str} {q : Str} {sc : Scope} {f : Addr} {cd : Value} {A : Around} {outer : List Env} {s : Shared} {H : Hp} {E : XK} :
    (cxOf CX P w K mg base N q sc f cd A outer s H E).nox.K = K := rfl
/-! ### what the top has written -/
structure FT (K : PySem.W.Frag) (mg : Str → Option Value) (x qual : Str) (st : Stmt) (ps : List Str) : Prop where
  ex : ∃ f fd, Fun K x qual st f fd ∧ mg x = some (.ref f) ∧ Binds K fd ps []
theorem FT.mk' {K : PySem.W.Frag} {mg : Str → Option Value} {h : Heap} (X : K.In h) (G : h.Ns mainGlobals mg) {x qual : Str} {st : Stmt} {ps : List Str} {f : Addr} {oc : Value} {od an : Option Addr} {osl : Array (Option Value)} {kV doc pm cdv ct : Value}
    (a : PySem.W.nsIn K mainGlobals x = some (some (.ref f)))
    (l : K.lookup f = some ⟨oc, od, .func (PySem.W.fnOf x qual (defArgs st) (defBody st) (defScope st) .none kV doc pm an cdv ct), osl⟩) (c : PySem.W.codeIn K cdv qual = true) (k : PySem.W.keepIn K (.ref f) = true)
    (hb : ∀ (kV doc pm : Value) (an : Option Addr) (cdv ct : Value) (us : List Value), us.length = ps.length → bindArgs (PySem.W.fnOf x qual (defArgs st) (defBody st) (defScope st) .none kV doc pm an cdv ct) ⟨us, []⟩ = pure (ps.zip us)) : FT K mg x qual st ps := by
  have F := fun_mk (st := st) l c k
  exact ⟨f, _, F, PySem.W.mg_of X G a, F.binds hb⟩
/-- a constant of the module -/
structure CT (mg : Str → Option Value) (x : Str) (v : V) : Prop where
  ex : ∃ u, mg x = some u ∧ RelV v u
theorem pe_ct {X : Cx} {x : Str} {v : V} {pos : Pos} (c : CT X.mg x v) (hg : Gl X x := by rfl) (hd : (x == ("__debug__" : Str)) = false := by decide) : PE X (.Name x pos) (tC v) := by
  obtain ⟨u, h1, h2⟩ := c.ex
  exact pe_glob hg h1 h2 hd
section
variable {P : Program} {w : World} {K : PySem.W.Frag} {mg : Str → Option Value} {base : Heap}
theorem g_ok {x qual : Str} {st : Stmt} {N ps : List Str} {k : Nat} {S : DS} (T : FT K mg x qual st ps) (Sc : FnScope N ps (defScope st)) (len : ∀ ds M R, S ds M R → ds.length = ps.length)
    (hbody : ∀ (f : Addr) (cdv : Value) (A : Around) (outer : List Env) (s : Shared) (H : Hp) (E : XK), Room k (A.deeper (PyProof.Rows.envOfC qual (defScope st) s.heap.objs.size f cdv)) →
      ∃ t, PSs (cxOf CX0 P w K mg base N qual (defScope st) f cdv A outer s H E).nox (defBody st) t ∧ ∀ ds M R, S ds M R → Xs K t { nx := fun _ M' => R .non M', rt := R } (startD N ds) M) : GFn P w K mg base (k + 1) x ps S := by
  obtain ⟨f, fd, F, h1, h2⟩ := T.ex
  exact ⟨f, fd, fn_ok F Sc len (hbody f), h1, F.kp, h2⟩
end
end XD

/-! XD6: the same rules with the ends written out; the steps' tactics; the feed. -/
namespace XD
open PySem L2
abbrev RS := Rho → Mm → Prop
section
variable {K : PySem.W.Frag} {ρ : Rho} {M M' : Mm} {nx bk ct : RS} {rt : RD} {t u : TS} {te : TE}
theorem ys_next (h : nx ρ M) : Xs K tNext ⟨nx, rt, bk, ct⟩ ρ M := xs_next h
theorem ys_seq (h : Xs K t ⟨fun ρ' M' => Xs K u ⟨nx, rt, bk, ct⟩ ρ' M', rt, bk, ct⟩ ρ M) : Xs K (tSeq t u) ⟨nx, rt, bk, ct⟩ ρ M := xs_seq h
theorem ys_ret (h : Xe K te ρ M rt) : Xs K (tRet te) ⟨nx, rt, bk, ct⟩ ρ M := xs_ret h
theorem ys_retN (h : rt .non M) : Xs K tRetN ⟨nx, rt, bk, ct⟩ ρ M := xs_retN h
theorem ys_drop (h : Xe K te ρ M fun _ M1 => nx ρ M1) : Xs K (tDrop te) ⟨nx, rt, bk, ct⟩ ρ M := xs_drop h
theorem ys_set {i : Nat} (h : Xe K te ρ M fun d M1 => nx (ρ.set i (some d)) M1) : Xs K (tAsg te (gName i)) ⟨nx, rt, bk, ct⟩ ρ M := xs_set h
theorem ys_asg {g : TG} (vs : List Nat) (h : Xe K te ρ M fun d M1 => Xg K vs g d ρ M1 nx) : Xs K (tAsg te g) ⟨nx, rt, bk, ct⟩ ρ M := xs_asg vs h
theorem ys_if {tc : TT} (h : Xt K tc ρ M fun c M1 => (c = true → Xs K t ⟨nx, rt, bk, ct⟩ ρ M1) ∧ (c = false → Xs K u ⟨nx, rt, bk, ct⟩ ρ M1)) : Xs K (tIfS tc t u) ⟨nx, rt, bk, ct⟩ ρ M := xs_if h
theorem ys_brk (h : bk ρ M) : Xs K tBreak ⟨nx, rt, bk, ct⟩ ρ M := xs_brk h
theorem ys_cont (h : ct ρ M) : Xs K tCont ⟨nx, rt, bk, ct⟩ ρ M := xs_cont h
theorem ys_aug {i : Nat} {f : Int → Int → Int} {a : Int} (hx : ρ[i]? = some (some (.int a))) (h : Xe K te ρ M fun d M1 => ∃ b, d = .int b ∧ nx (ρ.set i (some (.int (f a b)))) M1) : Xs K (tAug i te (ipI f)) ⟨nx, rt, bk, ct⟩ ρ M := xs_aug hx h
theorem ys_par {i j : Nat} {ta : TA} (h : Xa K ta ρ M fun ds M1 => ∃ x y, ds = [x, y] ∧ nx ((ρ.set i (some x)).set j (some y)) M1) : Xs K (tPar i j ta) ⟨nx, rt, bk, ct⟩ ρ M := xs_par h
theorem ys_for {wi : TI} {g : TG} {tb : TS} (vs : List Nat) (h : Xi K wi ρ M fun n it lk M1 => ∃ I : Nat → Rho → Mm → Prop, I 0 ρ M1 ∧ (∀ i ρ' M', i ≤ n → I i ρ' M' → lk M') ∧
    (∀ i d ρ' M', i < n → it i d → I i ρ' M' → Xg K vs g d ρ' M' fun ρ2 M2 => Xs K tb ⟨I (i + 1), rt, nx, I (i + 1)⟩ ρ2 M2) ∧
    (∀ ρ' M', I n ρ' M' → nx ρ' M')) : Xs K (tFor wi g tb) ⟨nx, rt, bk, ct⟩ ρ M := xs_for vs h
theorem ys_while {tc : TT} {tb : TS} (I : Nat → Rho → Mm → Prop) (m : Nat) (h0 : I m ρ M) (h : ∀ m ρ' M', I m ρ' M' → Xt K tc ρ' M' fun c M1 =>
    (c = true → Xs K tb ⟨fun ρ2 M2 => ∃ m', m' < m ∧ I m' ρ2 M2, rt, nx, fun ρ2 M2 => ∃ m', m' < m ∧ I m' ρ2 M2⟩ ρ' M1) ∧ (c = false → nx ρ' M1)) : Xs K (tWhile tc tb) ⟨nx, rt, bk, ct⟩ ρ M := xs_while ⟨I, ⟨m, h0⟩, h⟩
/-- the state is told otherwise at a return -/
theorem ys_wrap (F : Mm → Mm → Prop) (hf : ∀ G M H M', F M M' → Wd K G M H → Wd K G M' H) (h : Xs K t ⟨nx, fun d M' => ∃ M'', F M' M'' ∧ rt d M'', bk, ct⟩ ρ M) : Xs K t ⟨nx, rt, bk, ct⟩ ρ M := by
  intro σ G H D s w k
  refine h σ G H D s w ⟨k.nx, fun v d G' M' H' e r w' q => ?_, k.bk, k.ct⟩
  obtain ⟨M'', hF, q⟩ := q
  exact k.rt v d G' M'' H' e r (hf G' M' H' M'' hF w') q
theorem xt_and2 {ta tb : TT} {R : Bool → Mm → Prop} (h : Xt K ta ρ M fun c M1 => (c = true → Xt K tb ρ M1 R) ∧ (c = false → R false M1)) : Xt K (tAnd ta tb) ρ M R := xt_and h
theorem ys_mono {nx' : RS} (h : Xs K t ⟨nx', rt, bk, ct⟩ ρ M) (hm : ∀ ρ' M', nx' ρ' M' → nx ρ' M') : Xs K t ⟨nx, rt, bk, ct⟩ ρ M := by
  intro σ G H D s w k
  exact h σ G H D s w ⟨fun σ' G' H' ρ' M' e s' w' q => k.nx σ' G' H' ρ' M' e s' w' (hm ρ' M' q), k.rt, k.bk, k.ct⟩
theorem ys_mid (Mid : RS) (h : Xs K t ⟨Mid, rt, bk, ct⟩ ρ M) (hu : ∀ ρ' M', Mid ρ' M' → Xs K u ⟨nx, rt, bk, ct⟩ ρ' M') : Xs K (tSeq t u) ⟨nx, rt, bk, ct⟩ ρ M :=
  ys_seq (ys_mono h hu)
theorem ys_to (nx' : RS) (h : Xs K t ⟨nx', rt, bk, ct⟩ ρ M) (hm : ∀ ρ' M', nx' ρ' M' → nx ρ' M') : Xs K t ⟨nx, rt, bk, ct⟩ ρ M := ys_mono h hm
/-- all slots -/
abbrev allV : List Nat := [0, 1, 2, 3, 4, 5, 6, 7, 8, 9, 10, 11, 12, 13, 14, 15, 16, 17, 18, 19, 20, 21, 22, 23, 24, 25, 26, 27, 28, 29, 30, 31]
theorem atI_ints {ns : List Int} {i : Int} (h0 : 0 ≤ i) (h1 : i < ns.length) : ∃ z, L2.atI (ns.map D.int) i = some (D.int z) := by
  obtain ⟨n, rfl⟩ := Int.eq_ofNat_of_zero_le h0
  have hn : n < ns.length := by omega
  refine ⟨ns[n], ?_⟩
  exact atI_nat (by simp [hn])
theorem brF {A B : Prop} (h : B) : (false = true → A) ∧ (false = false → B) := ⟨fun z => absurd z Bool.false_ne_true, fun _ => h⟩
theorem brT {A B : Prop} (h : A) : (true = true → A) ∧ (true = false → B) := ⟨fun _ => h, fun z => absurd z.symm Bool.false_ne_true⟩
theorem b1 {c : Bool} {A B : Prop} (hc : c = true) (h : A) : (c = true → A) ∧ (c = false → B) := ⟨fun _ => h, fun z => absurd (hc.symm.trans z) (by decide)⟩
theorem b2 {c : Bool} {A B : Prop} (hc : c = false) (h : B) : (c = true → A) ∧ (c = false → B) := ⟨(fun z => absurd (hc.symm.trans z) (by decide)), fun _ => h⟩
theorem b3 {c : Bool} {A B : Prop} (hc : c = true) (h : B) : (c = false → A) ∧ (c = true → B) := ⟨(fun z => absurd (hc.symm.trans z) (by decide)), fun _ => h⟩
theorem b4 {c : Bool} {A B : Prop} (hc : c = false) (h : A) : (c = false → A) ∧ (c = true → B) := ⟨fun _ => h, fun z => absurd (hc.symm.trans z) (by decide)⟩
theorem cmul64 {i j : Int} (hi : i.natAbs < 18446744073709551616) (hj : j.natAbs < 18446744073709551616) : CMulW i j :=
  wide_mul (a := 64) (b := 64) hi hj (by decide) (by decide) (by decide)
theorem cdivB {i j : Int} (h : 0 < j) (hb : j.natAbs < 2 ^ 2000) : CDivW i j := wide_div h hb (by decide) (by decide)
theorem cpowK {i j : Int} (h1 : 0 ≤ j) (h2 : j ≤ 1000000) (h3 : i.natAbs < 18446744073709551616) : CPow i j := ⟨h1, h2, h3⟩
theorem cdivK {i j : Int} (h1 : 0 < j) (h2 : j.natAbs < 18446744073709551616) : CDivW i j := wide_div (b := 64) h1 h2 (by decide) (by decide)
/-- a test of known answer -/
theorem both {c : Bool} {A B : Prop} (hA : c = true → A) (hB : c = false → B) : (c = true → A) ∧ (c = false → B) := ⟨hA, hB⟩
end
/-! ### the feed: unfolded and folded -/
abbrev feedL (ns : List Int) (i b s : Int) : MO := .lst [.lst (ns.map D.int), .int i, .int b, .int s]
def FeedC (ns : List Int) (i b s : Int) : Prop := 0 ≤ i ∧ 0 ≤ b ∧ 0 ≤ s ∧ s < 2147483648
section
variable {K : PySem.W.Frag} {ρ : Rho} {M M' : Mm} {E : En} {t : TS} {f : Addr}
theorem Put.has {a : Addr} {m : MO} (h : Put M a m M') : Has M' a m := by
  induction h with
  | head => exact .head
  | tail _ ih => exact .tail ih
theorem rpA_intsD {G : Hp} {vs : List V} {ns : List Int} (h : RpA K G vs (ns.map D.int)) : vs = ns.map V.int := by
  have e := h.fl (by simp [List.all_eq_true, flD])
  rw [e]
  simp [fl]
theorem put_self {a : Addr} {m m' : MO} : ∀ {M M' : Mm}, Put M a m M' → Has M a m' → (M.map (·.1)).Nodup → True := fun _ _ _ => trivial
theorem Has.put {a : Addr} {m : MO} (m' : MO) (h : Has M a m) : ∃ M', Put M a m' M' := by
  induction h with
  | head => exact ⟨_, .head⟩
  | tail _ ih => obtain ⟨M', hp⟩ := ih; exact ⟨_, .tail hp⟩
/-- but for the entry at f the same -/
structure Same1 (f : Addr) (M M' : Mm) : Prop where
  keys : M'.map (·.1) = M.map (·.1)
  all : ∀ q ∈ M, q.1 ≠ f → q ∈ M'
theorem Same1.refl (f : Addr) (M : Mm) : Same1 f M M := ⟨rfl, fun _ h _ => h⟩
theorem Same1.trans {f : Addr} {M M1 M2 : Mm} (a : Same1 f M M1) (b : Same1 f M1 M2) : Same1 f M M2 := ⟨b.keys.trans a.keys, fun q h n => b.all q (a.all q h n) n⟩
theorem Put.same1 {a : Addr} {m : MO} (h : Put M a m M') : Same1 a M M' := by
  refine ⟨h.keys, ?_⟩
  induction h with
  | head =>
    intro q hq n
    rcases List.mem_cons.mp hq with e | e
    · subst e; exact absurd rfl n
    · exact List.mem_cons_of_mem _ e
  | tail _ ih =>
    intro q hq n
    rcases List.mem_cons.mp hq with e | e
    · exact e ▸ List.mem_cons_self
    · exact List.mem_cons_of_mem _ (ih q e n)
theorem nd_has {a : Addr} {m : MO} : ∀ {M : Mm}, (M.map (·.1)).Nodup → Has M a m → ∀ q ∈ M, q.1 = a → q = (a, m) := by
  intro M nd h
  induction h with
  | head =>
    intro q hq e
    rw [List.map_cons, List.nodup_cons] at nd
    rcases List.mem_cons.mp hq with z | z
    · exact z
    · exact absurd (e ▸ List.mem_map_of_mem (f := (·.1)) z) nd.1
  | tail h ih =>
    intro q hq e
    rw [List.map_cons, List.nodup_cons] at nd
    rcases List.mem_cons.mp hq with z | z
    · subst z
      exact absurd (e ▸ List.mem_map_of_mem (f := (·.1)) h.mem) nd.1
    · exact ih nd.2 q z e
theorem xs_unfeed (hm : Has M f .feed) (h : ∀ ns i b s M', FeedC ns i b s → Same1 f M M' → Has M' f (feedL ns i b s) → Xs K t E ρ M') : Xs K t E ρ M := by
  intro σ G H D s w k
  obtain ⟨g0, c, i, b, st, ns, h1, h2, h3⟩ := w.get hm
  obtain ⟨M', hp⟩ := hm.put (feedL ns i b st)
  have hw : Wd K G M' H := by
    refine ⟨w.ex, fun q hq => ?_, hp.keys ▸ w.nd⟩
    rcases hp.all w.nd q hq with e | ⟨e, ne⟩
    · subst e
      exact ⟨g0, _, h1, .cons (.lst h2 (rpA_ints ns)) (.cons (.int i) (.cons (.int b) (.cons (.int st) .nil)))⟩
    · exact w.mo q e
  exact h ns i b st M' h3 hp.same1 hp.has σ G H D s hw k
/-- folding back to M -/
def FoldF (f : Addr) (M' M : Mm) : Prop := Has M f .feed ∧ Same1 f M M' ∧ ∃ ns i b s, FeedC ns i b s ∧ Has M' f (feedL ns i b s)
theorem foldF_wd {f : Addr} : ∀ G M H M', FoldF f M M' → Wd K G M H → Wd K G M' H := by
  intro G M H M' ⟨h0, sm, ns, i, b, s, hc, hm⟩ w
  obtain ⟨g0, xs, h1, h2⟩ := w.get hm
  have nd : (M'.map (·.1)).Nodup := sm.keys ▸ w.nd
  cases h2 with
  | cons r1 h2 =>
    cases h2 with
    | cons r2 h2 =>
      cases h2 with
      | cons r3 h2 =>
        cases h2 with
        | cons r4 h2 =>
          cases h2
          cases r2
          cases r3
          cases r4
          cases r1 with
          | lst hc1 ra =>
            have e := rpA_intsD ra
            subst e
            refine ⟨w.ex, fun q hq => ?_, nd⟩
            by_cases z : q.1 = f
            · have e := nd_has nd h0 q hq z
              subst e
              exact ⟨g0, _, i, b, s, ns, h1, hc1, hc⟩
            · exact w.mo q (sm.all q hq z)
theorem xg_setX {vs : List Nat} {to ti : TE} {d : D} {RG : Rho → Mm → Prop} (h : Xe K to ρ M fun o M1 => Xe K ti ρ M1 fun x M2 => ∃ a k ds j, o = .ref a ∧ x = .int k ∧ Has M2 a (.lst ds) ∧ ixN ds.length k = some j ∧ ∀ M3, Put M2 a (.lst (ds.set j d)) M3 → RG ρ M3) : Xg K vs (gSub to ti rSetL) d ρ M RG := by
  refine xg_setL (xe_mono h fun o M1 h1 => xe_mono h1 fun x M2 h2 => ?_)
  obtain ⟨a, k, ds, j, e1, e2, hm, hj, q⟩ := h2
  obtain ⟨M3, hp⟩ := hm.put (.lst (ds.set j d))
  exact ⟨a, k, ds, j, M3, e1, e2, hm, hj, hp, q M3 hp⟩
/-- a list of the feed's form, new, is a feed -/
theorem xe_tofeed {te : TE} {R : RD} (h : Xe K te ρ M fun d M' => ∃ f M'', d = .ref f ∧ FoldF f M' M'' ∧ R (.ref f) M'') : Xe K te ρ M R := by
  intro σ G H Q s w k
  refine h σ G H Q s w fun v d G' M' H' e r w' q => ?_
  obtain ⟨f, M'', rfl, hF, q⟩ := q
  exact k v (.ref f) G' M'' H' e r (foldF_wd G' M' H' M'' hF w') q
end

theorem big2000 {n : Int} (h : n.natAbs < 18446744073709551616) : n.natAbs < 2 ^ 2000 := Nat.lt_of_lt_of_le h (by decide +kernel)
section
variable {K : PySem.W.Frag} {ρ : Rho} {M M' : Mm} {R : RD}
theorem xr_neB {a b : Bool} (r : R (.bl (!decide (a = b))) M) : Xr K rNe (.bl a) (.bl b) M R := xr_ne rfl rfl rfl (by
  have e : decide (fl (.bl a) = fl (.bl b)) = decide (a = b) := by simp [fl]
  rw [e]; exact r)
theorem cut63 {ns : List Int} (h : ns.length ≤ 63) : cutD (ns.map D.int) none (some 63) = ns.map D.int := by
  unfold cutD
  rw [HT.sIx_none, show (some 63 : Option Int) = some ((63 : Nat) : Int) from rfl, HT.sIx_nat, List.drop_zero]
  rw [List.take_of_length_le]
  simp
  omega
/-- the law's call -/
theorem law_start {K : PySem.W.Frag} {H : Hp} {a : Addr} {ns : List Int} {S : DS} {E : XK} {n : Nat} (_ : ns.length ≤ n) (_ : Only H) (hS : SqL K H a (ns.map V.int)) (h : S [.scr ns] [] fun d _ => d = .bl true) :
    spOf K S [.ref a] H (fun v _ => v = .bl true) E := by
  refine ⟨H, [], [.scr ns], _, .cons (.scr hS) .nil, ⟨fun a o e => .inl e, (fun p hp => nomatch hp), List.nodup_nil⟩, h, ?_⟩
  intro v d G' M' H' _ r _ e
  subst e
  cases r
  rfl
theorem kb1 : kitB "NoneType" "bool" = some false := by decide +kernel
theorem kb2 : kitB "bool" "bool" = some true := by decide +kernel
theorem kb3 : kitB "int" "bool" = some false := by decide +kernel
theorem kb4 : kitB "str" "bool" = some false := by decide +kernel
theorem kb5 : kitB "list" "bool" = some false := by decide +kernel
theorem kb6 : kitB "tuple" "bool" = some false := by decide +kernel
theorem kb7 : kitB "int" "int" = some true := by decide +kernel
theorem kb8 : kitB "str" "int" = some false := by decide +kernel
theorem kb9 : kitB "int" "tuple" = some false := by decide +kernel
theorem kb10 : kitB "list" "tuple" = some false := by decide +kernel
theorem kb11 : kitB "tuple" "tuple" = some true := by decide +kernel
theorem kb12 : kitB "list" "list" = some true := by decide +kernel
theorem kb13 : kitB "tuple" "list" = some false := by decide +kernel
theorem kb14 : kitB "bool" "int" = some true := by decide +kernel
theorem kb15 : kitB "NoneType" "tuple" = some false := by decide +kernel
theorem kb16 : kitB "bool" "tuple" = some false := by decide +kernel
theorem kb17 : kitB "str" "tuple" = some false := by decide +kernel
theorem kl1 : kitL "int" ["int", "str"] = some true := by decide +kernel
theorem kl2 : kitL "str" ["int", "str"] = some true := by decide +kernel
theorem kl3 : kitL "list" ["int", "str"] = some false := by decide +kernel
theorem kl4 : kitL "tuple" ["int", "str"] = some false := by decide +kernel
end
/-- plain data of depth at most n -/
def pl : Nat → D → Bool
  | 0, _ => false
  | n + 1, d => match d with
    | .non => true
    | .bl _ => true
    | .int _ => true
    | .str _ => true
    | .lst xs => decide (xs.length ≤ 1000000) && xs.all (pl n)
    | .tup xs => decide (xs.length ≤ 1000000) && xs.all (pl n)
    | _ => false
end XD

/-! XD7: the hand layer's rules with the written part K as a letter of its own (a comprehension's block has another context, the same K). -/
namespace XD
open PySem L2
section
variable {X : Cx} (K : PySem.W.Frag)
theorem k_addU (h : X.K = K := by rfl) : OpR X (binaryOp .Add) (rAddU K) := h ▸ op_addU
theorem k_ix (h : X.K = K := by rfl) : IxR X (rIx K) := h ▸ ix_seq
theorem k_sl (h : X.K = K := by rfl) : SlR X (rSlU K) := h ▸ sl_U
theorem k_len (h : X.K = K := by rfl) : CallR X (.builtin "len") (cLen K) := h ▸ c_len
theorem k_list (h : X.K = K := by rfl) : CallR X (.type "list") (cList K) := h ▸ c_list
theorem k_all (hc : X.calm = true := by rfl) (h : X.K = K := by rfl) : CallR X (.builtin "all") (rAll K) := h ▸ cr_all hc
theorem k_any (hc : X.calm = true := by rfl) (h : X.K = K := by rfl) : CallR X (.builtin "any") (rAny K) := h ▸ cr_any hc
theorem k_isi (h : X.K = K := by rfl) : CallR X (.builtin "isinstance") (rIsi K) := h ▸ call_isi
theorem k_isiT (h : X.K = K := by rfl) : CallR X (.builtin "isinstance") (rIsiT K) := h ▸ call_isiT
theorem k_in (h : X.K = K := by rfl) : OpR X (compareOp .In) (rIn K false) := h ▸ op_in_seq
theorem k_notIn (h : X.K = K := by rfl) : OpR X (compareOp .NotIn) (rIn K true) := h ▸ op_notIn_seq
theorem pi_listK {tg l : Expr} {tl : TE} (hl : PE X l tl) (h : X.K = K := by rfl) : PI X tg l (iList K tl) := h ▸ pi_list hl
theorem pi_tupK {tg l : Expr} {tl : TE} (hl : PE X l tl) (h : X.K = K := by rfl) : PI X tg l (iTup K tl) := h ▸ pi_tup hl
theorem pi_zipK {e e2 : Expr} {ta : TA} {p pos tpos : Pos} {elts : List Expr} {kk : Nat} (hm : X.mg "zip" = none) (ha : PA X [e, e2] ta) (hg : Gl X "zip" := by rfl)
    (hs : starEach [e, e2] X.env = (false, eval e X.env) :: starEach [e2] X.env := by rfl) (hpl : (backTo pos (starEach [e2] X.env)).any (·.1) = false := by rfl) (h : X.K = K := by rfl) :
    PI X (.Tuple elts kk tpos) (.Call (.Name "zip" p) [e, e2] [] pos) (RZ.iZipA K ta) := h ▸ RZ.pi_zipA hg hm ha hs hpl
theorem pi_enumK {e : Expr} {ta : TA} {p pos tpos : Pos} {elts : List Expr} {kk : Nat} (hm : X.mg "enumerate" = none) (ha : PA X [e] ta) (hg : Gl X "enumerate" := by rfl) (hs : starEach [e] X.env = [(false, eval e X.env)] := by rfl) (h : X.K = K := by rfl) :
    PI X (.Tuple elts kk tpos) (.Call (.Name "enumerate" p) [e] [] pos) (iEnum K ta) := h ▸ pi_enum hg hm ha hs
theorem pg_tupK {es : List Expr} {k : Nat} {t : TGs} {n : Nat} {pos : Pos} (ht : PGs X es t) (hc : X.calm = true := by rfl)
    (hn : (assignEach es X.env).length = n := by rfl) (hst : (assignEach es X.env).findIdx? (·.1) = none := by rfl) (h : X.K = K := by rfl) : PG X (.Tuple es k pos) (gTup K n t) := h ▸ pg_tup hc ht hn hst
theorem pe_bmK {T : String} {name : Str} {id : String} {r : V → List V → Hp → VK → Prop} {o e : Expr} {es : List Expr} {to : TE} {t : TA} {apos cpos : Pos} (pa : PlainAttrs T) (slot : Slot T name id) (hty : typeOf (.builtin id) = pure (.type "method_descriptor")) (hm : MtR X id r) (ho : PE X o to) (ha : PA X (e :: es) t)
    (hbase : attributeBase o name X.env (eval o X.env) = eval o X.env := by rfl)
    (hfew : ((backTo cpos (starEach (e :: es) X.env)).all (fun x => !x.1) && (backToKw cpos (keywordEach [] X.env)).all (fun x => x.1.isSome)
      && decide ((e :: es).length + ([] : List Keyword).length + (if ([] : List Keyword).isEmpty then 0 else 1) < 30)) = true := by rfl)
    (hline : (apos.endLine == cpos.line) = true := by rfl) (hs : starEach (e :: es) X.env = (false, eval e X.env) :: starEach es X.env := by rfl) (hplain : (backTo cpos (starEach es X.env)).any (·.1) = false := by rfl) (h : X.K = K := by rfl) :
    PE X (.Call (.Attribute o name apos) (e :: es) [] cpos) (tBM K T r to t) := h ▸ pe_bm pa slot hty hm ho ha hbase hfew hline hs hplain
theorem pe_bm0K {T : String} {name : Str} {id : String} {r : V → List V → Hp → VK → Prop} {o : Expr} {to : TE} {apos cpos : Pos} (pa : PlainAttrs T) (slot : Slot T name id) (hty : typeOf (.builtin id) = pure (.type "method_descriptor")) (hm : MtR X id r) (ho : PE X o to)
    (hbase : attributeBase o name X.env (eval o X.env) = eval o X.env := by rfl) (hline : (apos.endLine == cpos.line) = true := by rfl) (h : X.K = K := by rfl) : PE X (.Call (.Attribute o name apos) [] [] cpos) (tBM0 K T r to) := h ▸ pe_bm0 pa slot hty hm ho hbase hline
end
/-- a call of a def of the module -/
theorem pe_gK {X : Cx} {K : PySem.W.Frag} {k : Nat} {x : Str} {ps : List Str} {S : DS} {e : Expr} {es : List Expr} {t : TA} {p pos : Pos} (G : GFn X.prog X.w K X.mg X.base k x ps S) (hr : Room k X.A) (ha : PA X (e :: es) t) (h : X.K = K := by rfl)
    (hg : Gl X x := by rfl) (hdb : (x == ("__debug__" : Str)) = false := by decide) (he : starEach (e :: es) X.env = (false, eval e X.env) :: starEach es X.env := by rfl) (hpl : (backTo pos (starEach es X.env)).any (·.1) = false := by rfl) :
    PE X (.Call (.Name x p) (e :: es) [] pos) (tCall (spOf K S) [] E0 t) := by
  subst h
  exact pe_g G hr ha hg hdb he hpl
end XD

namespace Ev
open PySem L2 XD
local macro_rules | `(tactic| walk_at "has") => `(tactic| (first | assumption | exact Put.has (by assumption) | exact Has.head | exact Has.tail Has.head | exact Has.tail (Has.tail Has.head) | exact Has.tail (Has.tail (Has.tail Has.head)) | exact Has.tail (Has.tail (Has.tail (Has.tail Has.head)))))
local macro_rules | `(tactic| walk_at "put") => `(tactic| (first | exact Put.head | exact Put.tail Put.head | exact Put.tail (Put.tail Put.head) | exact Put.tail (Put.tail (Put.tail Put.head)) | assumption))
local macro_rules | `(tactic| walk_at "cut") => `(tactic| (first | exact Cut.head | exact Cut.tail Cut.head | exact Cut.tail (Cut.tail Cut.head) | exact Cut.tail (Cut.tail (Cut.tail Cut.head)) | assumption))
local macro_rules | `(tactic| walk_at "side") => `(tactic| (first | omega | decide | assumption | (simp only [List.length_cons, List.length_nil]; omega)))
local macro_rules | `(tactic| walk_at "cx") => `(tactic| (first | exact cmulR (by omega) | exact cmulL (by omega) | exact cpowK (by decide) (by decide) (by decide) | exact cdivK (by omega) (by omega) | exact cdivB (by omega) (by assumption) | (show (0 : Int) < _; omega) | (show (0 : Int) < _; decide)  | assumption))
local macro_rules | `(tactic| walk_at "kt") => `(tactic| (first | (with_unfolding_all exact rfl) | exact decide_eq_true (by omega) | assumption))
local macro_rules | `(tactic| walk_at "kf") => `(tactic| (first | (with_unfolding_all exact rfl) | exact decide_eq_false (by omega) | assumption))
local macro_rules | `(tactic| walk_at "kb") => `(tactic| (first | exact kb1 | exact kb2 | exact kb3 | exact kb4 | exact kb5 | exact kb6 | exact kb7 | exact kb8 | exact kb9 | exact kb10 | exact kb11 | exact kb12 | exact kb13 | exact kb14 | exact kb15 | exact kb16 | exact kb17))
local macro_rules | `(tactic| walk_at "kl") => `(tactic| (first | exact kl1 | exact kl2 | exact kl3 | exact kl4))
local macro_rules | `(tactic| walk_at "x1") => `(tactic| (first
  | with_reducible refine ys_seq ?_
  | with_reducible refine ys_set ?_
  | with_reducible refine ys_asg allV ?_
  | with_reducible refine xg_name (by first | decide | exact List.mem_cons_self) ?_
  | with_reducible refine xg_tup (by with_unfolding_all exact rfl) ?_
  | with_reducible refine xgs_cons ?_
  | with_reducible refine xgs_nil ?_
  | with_reducible refine xg_setX ?_
  | with_reducible refine ys_ret ?_
  | with_reducible refine ys_drop ?_
  | with_reducible refine ys_next ?_
  | with_reducible refine ys_par ?_
  | with_reducible refine ys_retN ?_
  | with_reducible refine xe_var (by with_unfolding_all exact rfl) ?_
  | with_reducible refine xe_int ?_
  | with_reducible refine xe_str ?_
  | with_reducible refine xe_bl ?_
  | with_reducible refine xe_non ?_
  | with_reducible refine xe_ty ?_
  | with_reducible refine xe_op ?_
  | with_reducible refine xe_un ?_
  | with_reducible refine xa_cons ?_
  | with_reducible refine xa_nil ?_
  | with_reducible refine xe_isiT ["int", "str"] ?_
  | with_reducible refine ⟨rfl, by decide, _, _, rfl, by walk_at "kl", ?_⟩
  | with_reducible refine xe_cb ?_
  | with_reducible refine xe_call ?_
  | with_reducible refine xe_tup ?_
  | with_reducible refine xe_sl ?_
  | with_reducible refine xo_no ?_
  | with_reducible refine xo_at ?_
  | with_reducible refine xe_bm ?_
  | with_reducible refine xe_if ?_
  | with_reducible refine xe_andV ?_
  | with_reducible refine xe_orV ?_
  | with_reducible refine xe_notV ?_
  | with_reducible refine xe_chain ?_
  | with_reducible refine xe_isN ?_
  | with_reducible refine xe_notN ?_
  | with_reducible refine xt_test ?_
  | with_reducible refine xt_B ?_
  | with_reducible refine xt_and ?_
  | with_reducible refine xt_or ?_
  | with_reducible refine xt_not ?_
  | with_reducible refine xt_yes ?_
  | with_reducible refine xr_addI ?_
  | with_reducible refine xr_eqI ?_
  | with_reducible refine xr_neI ?_
  | with_reducible refine xr_eqS ?_
  | with_reducible refine xr_neS ?_
  | with_reducible refine xr_eqB ?_
  | with_reducible refine xr_neB ?_
  | with_reducible refine xc_int ?_
  | with_reducible refine xc_isi (by with_unfolding_all exact rfl) (by walk_at "kb") ?_
  | with_reducible refine xc_lenL ?_
  | with_reducible refine xc_lenT ?_
  | with_reducible refine xu_I ?_
  | with_reducible refine xr_I0 ?_
  | with_reducible refine xr_B0 ?_
  | with_reducible refine xr_I (by walk_at "cx") ?_
  | with_reducible refine xr_addSt (by walk_at "side") ?_
  | with_reducible refine xc_lenS (by walk_at "side") ?_
  | with_reducible refine xl_S (by walk_at "side") ?_
  | with_reducible refine xl_L ?_
  | with_reducible refine xl_T ?_
  | with_reducible refine xl_scr ?_
  | with_reducible refine xr_ix1 (xr_ixLM (by walk_at "has") (by with_unfolding_all exact rfl) ?_)
  | with_reducible refine xr_ix1 (xr_ixL (by with_unfolding_all exact rfl) ?_)
  | with_reducible refine xr_ix2 (xr_ixT (by with_unfolding_all exact rfl) ?_)
  | with_reducible refine ⟨_, _, _, _, rfl, rfl, (by walk_at "has"), (by with_unfolding_all exact rfl), fun M3 hp => ?_⟩
  | with_reducible refine b1 (by walk_at "kt") ?_
  | with_reducible refine b2 (by walk_at "kf") ?_
  | with_reducible refine b3 (by walk_at "kt") ?_
  | with_reducible refine b4 (by walk_at "kf") ?_
  | with_reducible refine ⟨_, rfl, ?_⟩
  | with_reducible refine And.intro rfl ?_
  | with_reducible refine ⟨Nat.le_of_ble_eq_true rfl, ?_⟩))
local macro_rules | `(tactic| walk_at "xgo") => `(tactic| repeat (walk_at "x1"))
local macro_rules | `(tactic| walk_at "xgi") => `(tactic| repeat (first | walk_at "x1" | with_reducible refine ys_if ?_))
section
variable {P : Program} {w : World} {K : PySem.W.Frag} {mg : Str → Option Value} {base : Heap}
def topS (i : Nat) : Stmt := PySem.Challenge.pw_evertally_k07_names_recognized.main.body.getD i (.Pass ⟨0, 0, 0, 0⟩)
abbrev s_is_name : Stmt := topS 4
abbrev n_is_name : List Str := ["text", "sign"]
abbrev p_is_name : List Str := ["text"]
theorem sc_is_name : FnScope n_is_name p_is_name (defScope s_is_name) := ⟨rfl, rfl, rfl, by decide +kernel, rfl, by decide +kernel, by decide +kernel⟩
abbrev s__law_feed : Stmt := topS 6
abbrev n__law_feed : List Str := ["_law_script", "_law_cells", "_law_stamp", "_law_cell"]
abbrev p__law_feed : List Str := ["_law_script"]
theorem sc__law_feed : FnScope n__law_feed p__law_feed (defScope s__law_feed) := ⟨rfl, rfl, rfl, by decide +kernel, rfl, by decide +kernel, by decide +kernel⟩
abbrev s__law_take : Stmt := topS 7
abbrev n__law_take : List Str := ["_law_feed_here", "_law_many", "_law_cell", "_law_mingled", "_law_got"]
abbrev p__law_take : List Str := ["_law_feed_here", "_law_many"]
theorem sc__law_take : FnScope n__law_take p__law_take (defScope s__law_take) := ⟨rfl, rfl, rfl, by decide +kernel, rfl, by decide +kernel, by decide +kernel⟩
abbrev s__law_pick : Stmt := topS 8
abbrev n__law_pick : List Str := ["_law_feed_here", "_law_some"]
abbrev p__law_pick : List Str := ["_law_feed_here", "_law_some"]
theorem sc__law_pick : FnScope n__law_pick p__law_pick (defScope s__law_pick) := ⟨rfl, rfl, rfl, by decide +kernel, rfl, by decide +kernel, by decide +kernel⟩
abbrev s__law_same : Stmt := topS 9
abbrev n__law_same : List Str := ["_law_found", "_law_due", "_law_alike", "_law_one", "_law_two"]
abbrev p__law_same : List Str := ["_law_found", "_law_due"]
theorem sc__law_same : FnScope n__law_same p__law_same (defScope s__law_same) := ⟨rfl, rfl, rfl, by decide +kernel, rfl, by decide +kernel, by decide +kernel⟩
abbrev s__law_is_name : Stmt := topS 10
abbrev n__law_is_name : List Str := ["_law_text", "_law_small", "_law_sign"]
abbrev p__law_is_name : List Str := ["_law_text"]
theorem sc__law_is_name : FnScope n__law_is_name p__law_is_name (defScope s__law_is_name) := ⟨rfl, rfl, rfl, by decide +kernel, rfl, by decide +kernel, by decide +kernel⟩
abbrev s_law : Stmt := topS 11
abbrev n_law : List Str := ["_law_script", "_law_feed_here", "_law_turn", "_law_text", "_law_k", "_law_at", "_law_odd"]
abbrev p_law : List Str := ["_law_script"]
theorem sc_law : FnScope n_law p_law (defScope s_law) := ⟨rfl, rfl, rfl, by decide +kernel, rfl, by decide +kernel, by decide +kernel⟩
structure Top (K : PySem.W.Frag) (mg : Str → Option Value) : Prop where
  b_all : mg "all" = none
  b_bool : mg "bool" = none
  b_int : mg "int" = none
  b_isinstance : mg "isinstance" = none
  b_len : mg "len" = none
  b_list : mg "list" = none
  b_range : mg "range" = none
  b_str : mg "str" = none
  b_tuple : mg "tuple" = none
  b_zip : mg "zip" = none
  c_SMALL : CT mg "SMALL" (V.str "abcdefghijklmnopqrstuvwxyz")
  c_SIZE_SIGN : CT mg "SIZE_SIGN" (V.str "x")
  c_LONGEST_NAME : CT mg "LONGEST_NAME" (V.int 6)
  f_is_name : FT K mg "is_name" "is_name" s_is_name p_is_name
  f__law_feed : FT K mg "_law_feed" "_law_feed" s__law_feed p__law_feed
  f__law_take : FT K mg "_law_take" "_law_take" s__law_take p__law_take
  f__law_pick : FT K mg "_law_pick" "_law_pick" s__law_pick p__law_pick
  f__law_same : FT K mg "_law_same" "_law_same" s__law_same p__law_same
  f__law_is_name : FT K mg "_law_is_name" "_law_is_name" s__law_is_name p__law_is_name
  f_law : FT K mg "law" "law" s_law p_law

def S_take : DS := fun ds M R => ∃ f n, ds = [.ref f, .int n] ∧ Has M f .feed ∧ 0 < n ∧ n.natAbs < 2 ^ 2000 ∧ ∀ r : Int, 0 ≤ r → r < n → R (.int r) M
theorem g__law_take (T : Top K mg) : GFn P w K mg base 1 "_law_take" p__law_take S_take := by
  refine g_ok T.f__law_take sc__law_take (by rintro ds M R ⟨f, n, rfl, _⟩; rfl) fun f0 cdv A outer s H E hr => ⟨_, (pss_cons (ps_if (PW.pt (pw_and (pt_cmpR op_eq (pe_ix (k_ix K) (pv 0) pe_int (fun _ _ => rfl)) pe_int (nomark _)) (pw_and1 (pt_cmpR op_lt (pe_ix (k_ix K) (pv 0) pe_int (fun _ _ => rfl)) (pe_callB (k_len K) (by rfl) T.b_len (by decide +kernel) (pa_cons (pe_ix (k_ix K) (pv 0) pe_int (fun _ _ => rfl)) pa_nil)) (nomark _))))) (pss_cons (ps_set (i := 2) sc__law_take.nd rfl (by first | exact Or.inl rfl | exact Or.inr rfl) (pe_ix (k_ix K) (pe_ix (k_ix K) (pv 0) pe_int (fun _ _ => rfl)) (pe_ix (k_ix K) (pv 0) pe_int (fun _ _ => rfl)) (fun _ _ => rfl))) (pss_cons (ps_asg (pe_op (k_addU K) (pe_ix (k_ix K) (pv 0) pe_int (fun _ _ => rfl)) pe_int) (pg_sub (pv 0) pe_int set_list)) (pss_one (ps_if (pt_cmpR op_ge (pv 2) (pe_op op_pow pe_int pe_int) (nomark _)) (pss_one (ps_asg (pv 2) (pg_sub (pv 0) pe_int set_list))) (pss_cons (ps_set (i := 3) sc__law_take.nd rfl (by first | exact Or.inl rfl | exact Or.inr rfl) (pe_op (k_addU K) (pe_op op_mulU (pe_ix (k_ix K) (pv 0) pe_int (fun _ _ => rfl)) pe_int) (pe_op op_mod (pe_callTy c_int (by rfl) T.b_int (by decide +kernel) (pa_cons (pv 2) pa_nil)) pe_int))) (pss_one (ps_asg (pe_op op_mod (pe_callTy c_int (by rfl) T.b_int (by decide +kernel) (pa_cons (pe_op (k_addU K) (pv 3) (pe_op op_mulU (pe_ix (k_ix K) (pv 0) pe_int (fun _ _ => rfl)) pe_int)) pa_nil)) pe_int) (pg_sub (pv 0) pe_int set_list)))))))) pss_nil) (pss_cons (ps_if (pt_cmpR op_gt (pe_ix (k_ix K) (pv 0) pe_int (fun _ _ => rfl)) pe_int (nomark _)) (pss_cons (ps_set (i := 4) sc__law_take.nd rfl (by first | exact Or.inl rfl | exact Or.inr rfl) (pe_op op_mod (pe_callTy c_int (by rfl) T.b_int (by decide +kernel) (pa_cons (pe_ix (k_ix K) (pv 0) pe_int (fun _ _ => rfl)) pa_nil)) (pv 1))) (pss_cons (ps_asg (pe_op op_fdivW (pe_ix (k_ix K) (pv 0) pe_int (fun _ _ => rfl)) (pv 1)) (pg_sub (pv 0) pe_int set_list)) (pss_one (ps_ret (pv 4))))) pss_nil) (pss_cons (ps_asg (pe_op op_mod (pe_callTy c_int (by rfl) T.b_int (by decide +kernel) (pa_cons (pe_op (k_addU K) (pe_op op_mulU (pe_ix (k_ix K) (pv 0) pe_int (fun _ _ => rfl)) pe_int) pe_int) pa_nil)) pe_int) (pg_sub (pv 0) pe_int set_list)) (pss_one (ps_ret (pe_op op_mod (pe_callTy c_int (by rfl) T.b_int (by decide +kernel) (pa_cons (pe_op op_fdivW (pe_op op_mod (pe_callTy c_int (by rfl) T.b_int (by decide +kernel) (pa_cons (pe_op op_mulU (pe_ix (k_ix K) (pv 0) pe_int (fun _ _ => rfl)) (pe_ix (k_ix K) (pv 0) pe_int (fun _ _ => rfl))) pa_nil)) pe_int) pe_int) pa_nil)) (pv 1))))))), ?_⟩
  rintro ds M R ⟨f, n, rfl, hm, hn, hb, q⟩
  refine xs_unfeed hm fun ns i b s M1 hc sm h1 => ?_
  refine ys_wrap (FoldF f) foldF_wd ?_
  show Xs K _ _ [some (.ref f), some (.int n), none, none, none] M1
  obtain ⟨c1, c2, c3, c4⟩ := id hc
  refine ys_mid (fun ρ' M' => ∃ x2 x3 x4 ns i b s, ρ' = [some (.ref f), some (.int n), x2, x3, x4] ∧ FeedC ns i b s ∧ Same1 f M M' ∧ Has M' f (feedL ns i b s)) ?_ ?_
  · walk_at "xgi"
    refine ⟨fun hb0 => ?_, fun _ => ?_⟩
    · walk_at "xgi"
      refine ⟨fun hlt => ?_, fun _ => ?_⟩
      · have hlt' : i < ns.length := by simpa using hlt
        obtain ⟨z, hz⟩ := atI_ints c1 hlt'
        walk_at "xgi"
        refine xr_ix1 (xr_ixL hz ?_)
        walk_at "xgi"
        refine ⟨fun hz2 => ?_, fun _ => ?_⟩
        · walk_at "xgi"
          rename_i M3 hp3 M4 hp4
          refine ⟨_, _, _, ns, i + 1, z, s, rfl, ⟨by omega, ?_, c3, c4⟩, (sm.trans hp3.same1).trans hp4.same1, hp4.has⟩
          have := of_decide_eq_true hz2
          have e : (10 : Int) ^ (Int.toNat 18) = 1000000000000000000 := by decide
          rw [e] at this
          omega
        · walk_at "xgi"
          rename_i M3 hp3 hz2 M4 hp4
          refine ⟨_, _, _, ns, i + 1, b, _, rfl, ⟨by omega, c2, ?_, ?_⟩, (sm.trans hp3.same1).trans hp4.same1, hp4.has⟩
          · exact Int.emod_nonneg _ (by decide)
          · exact Int.lt_trans (Int.emod_lt_of_pos _ (by decide)) (by decide)
      · walk_at "xgi"
        exact ⟨_, _, _, ns, i, b, s, rfl, hc, sm, h1⟩
    · walk_at "xgi"
      exact ⟨_, _, _, ns, i, b, s, rfl, hc, sm, h1⟩
  · rintro ρ' M' ⟨x2, x3, x4, ns, i, b, s, rfl, ⟨c1, c2, c3, c4⟩, sm, h1⟩
    walk_at "xgi"
    refine ⟨fun hb0 => ?_, fun _ => ?_⟩
    · walk_at "xgi"
      rename_i M3 hp3
      refine ⟨M, ⟨hm, sm.trans hp3.same1, ns, i, b / n, s, ⟨c1, Int.ediv_nonneg c2 (by omega), c3, c4⟩, hp3.has⟩, q _ (Int.emod_nonneg _ (by omega)) (Int.emod_lt_of_pos _ hn)⟩
    · walk_at "xgi"
      rename_i M3 hp3
      refine ⟨M, ⟨hm, sm.trans hp3.same1, ns, i, b, _, ⟨c1, c2, Int.emod_nonneg _ (by decide), Int.lt_trans (Int.emod_lt_of_pos _ (by decide)) (by decide)⟩, hp3.has⟩, q _ (Int.emod_nonneg _ (by omega)) (Int.emod_lt_of_pos _ hn)⟩

def S_feed : DS := fun ds M R => ∃ ns, ds = [.scr ns] ∧ ns.length ≤ 63 ∧ ∀ f, R (.ref f) ((f, .feed) :: M)
theorem g__law_feed (T : Top K mg) : GFn P w K mg base 1 "_law_feed" p__law_feed S_feed := by
  refine g_ok T.f__law_feed sc__law_feed (by rintro ds M R ⟨ns, rfl, _⟩; rfl) fun f0 cdv A outer s H E hr => ⟨_, (pss_cons (ps_set (i := 1) sc__law_feed.nd rfl (by first | exact Or.inl rfl | exact Or.inr rfl) (pe_callTy (k_list K) (by rfl) T.b_list (by decide +kernel) (pa_cons (pe_slice (k_sl K) (pv 0) po_none (po_some pe_int)) pa_nil))) (pss_cons (ps_set (i := 2) sc__law_feed.nd rfl (by first | exact Or.inl rfl | exact Or.inr rfl) (pe_op (k_addU K) pe_int (pe_op op_mulU pe_int (pe_callB (k_len K) (by rfl) T.b_len (by decide +kernel) (pa_cons (pv 1) pa_nil))))) (pss_cons (ps_for PassesOwn.never (by rfl) (pi_listK K (pv 1)) (pg_name (i := 3) sc__law_feed.nd rfl (by first | exact Or.inl rfl | exact Or.inr rfl)) (pss_one (ps_set (i := 2) sc__law_feed.nd rfl (by first | exact Or.inl rfl | exact Or.inr rfl) (pe_op op_mod (pe_callTy c_int (by rfl) T.b_int (by decide +kernel) (pa_cons (pe_op (k_addU K) (pe_op (k_addU K) (pe_op op_mulU (pv 2) pe_int) (pe_op op_mod (pe_callTy c_int (by rfl) T.b_int (by decide +kernel) (pa_cons (pv 3) pa_nil)) pe_int)) pe_int) pa_nil)) pe_int)))) (pss_one (ps_ret (pe_lst (pa_cons (pv 1) (pa_cons pe_int (pa_cons pe_int (pa_cons (pv 2) pa_nil)))))))))), ?_⟩
  rintro ds M R ⟨ns, rfl, hn, q⟩
  show Xs K _ _ [some (.scr ns), none, none, none] M
  walk_at "xgo"
  refine xc_listL (.inl rfl) ?_
  rw [cut63 hn]
  walk_at "xgo"
  refine ys_for allV ?_
  refine xi_list ?_
  walk_at "xgo"
  refine ⟨fun i ρ' M' => ∃ s c, ρ' = [some (.scr ns), some (.lst (ns.map D.int)), some (.int s), c] ∧ 0 ≤ s ∧ s < 2147483648 ∧ M' = M, ?_, fun _ _ _ _ _ => trivial, ?_, ?_⟩
  · refine ⟨_, none, rfl, ?_, ?_, rfl⟩
    · simp; omega
    · simp; omega
  · rintro i d ρ' M' hi hd ⟨s, c, rfl, h1, h2, rfl⟩
    rw [List.getElem?_map] at hd
    cases e : ns[i]? with
    | none => rw [e] at hd; cases hd
    | some z =>
      rw [e] at hd
      cases hd
      walk_at "xgo"
      exact ⟨_, _, rfl, Int.emod_nonneg _ (by decide), Int.lt_trans (Int.emod_lt_of_pos _ (by decide)) (by decide), rfl⟩
  · rintro ρ' M' ⟨s, c, rfl, h1, h2, rfl⟩
    refine ys_ret ?_
    refine xe_tofeed ?_
    refine xe_lstM ?_
    walk_at "xgo"
    intro p
    exact ⟨p, _, rfl, ⟨.head, ⟨rfl, fun q hq hne => (List.mem_cons.mp hq).elim (fun e => absurd (congrArg Prod.fst e) hne) (fun e => List.mem_cons_of_mem _ e)⟩, ns, 0, 0, s, ⟨Int.le_refl 0, Int.le_refl 0, h1, h2⟩, .head⟩, q p⟩
/-- a pick from a list, a tuple, a text -/
def S_pick : DS := fun ds M R => ∃ f x, ds = [.ref f, x] ∧ Has M f .feed ∧
  ((∃ xs, x = .lst xs ∧ 0 < xs.length ∧ xs.length ≤ 1000000 ∧ ∀ d ∈ xs, R d M) ∨ (∃ xs, x = .tup xs ∧ 0 < xs.length ∧ xs.length ≤ 1000000 ∧ ∀ d ∈ xs, R d M) ∨
    ∃ z : Str, x = .str z ∧ 0 < z.length ∧ z.length ≤ 1000000 ∧ ∀ c ∈ z.cps.toList, R (.str ⟨#[c]⟩) M)
theorem pick_at {α : Type} {xs : List α} {r : Int} (h0 : 0 ≤ r) (h1 : r < xs.length) : ∃ d, d ∈ xs ∧ L2.atI xs r = some d := by
  obtain ⟨n, rfl⟩ := Int.eq_ofNat_of_zero_le h0
  have hn : n < xs.length := by omega
  exact ⟨xs[n], List.getElem_mem hn, atI_nat (by simp [hn])⟩
theorem g__law_pick (T : Top K mg) : GFn P w K mg base 2 "_law_pick" p__law_pick S_pick := by
  refine g_ok T.f__law_pick sc__law_pick (by rintro ds M R ⟨f, x, rfl, _⟩; rfl) fun f0 cdv A outer s H E hr => ⟨_, (pss_one (ps_ret (pe_ix (k_ix K) (pv 1) (pe_gK (g__law_take T) (hr.mono (by decide)) (pa_cons (pv 0) (pa_cons (pe_callB (k_len K) (by rfl) T.b_len (by decide +kernel) (pa_cons (pv 1) pa_nil)) pa_nil))) (fun _ _ => rfl)))), ?_⟩
  rintro ds M R ⟨f, x, rfl, hm, hx⟩
  show Xs K _ _ [some (.ref f), some x] M
  rcases hx with ⟨xs, rfl, h0, h1, q⟩ | ⟨xs, rfl, h0, h1, q⟩ | ⟨z, rfl, h0, h1, q⟩
  · walk_at "xgo"
    refine ⟨f, _, rfl, hm, by omega, big2000 (by omega), fun r r0 r1 => ?_⟩
    obtain ⟨d, hd, e⟩ := pick_at r0 r1
    exact xr_ix1 (xr_ixL e (q d hd))
  · walk_at "xgo"
    refine ⟨f, _, rfl, hm, by omega, big2000 (by omega), fun r r0 r1 => ?_⟩
    obtain ⟨d, hd, e⟩ := pick_at r0 r1
    exact xr_ix2 (xr_ixT e (q d hd))
  · have hz : z.length = z.cps.toList.length := by simp [Str.length]
    walk_at "xgo"
    refine ⟨f, _, rfl, hm, by omega, big2000 (by omega), fun r r0 r1 => ?_⟩
    obtain ⟨d, hd, e⟩ := pick_at (xs := z.cps.toList) r0 (by omega)
    exact xr_ix3 (xr_ixS (by omega) e (q d hd))

/-- the same plain data twice -/
def S_same (n : Nat) : DS := fun ds M R => ∃ d, ds = [d, d] ∧ pl n d = true ∧ R (.bl true) M
theorem all_rep (n : Nat) : (List.replicate n true).all id = true := by
  induction n with
  | zero => rfl
  | succ n ih => rw [List.replicate_succ, List.all_cons, ih]; rfl
theorem g_same_n (T : Top K mg) : ∀ n : Nat, GFn P w K mg base n "_law_same" p__law_same (S_same n) := by
  intro n
  induction n with
  | zero =>
    obtain ⟨f, fd, F, h1, h2⟩ := T.f__law_same.ex
    refine ⟨f, fd, ⟨fun vs H Q E h => ?_, fun A outer s H args us vs Q E _ _ _ _ h => ?_⟩, h1, F.kp, h2⟩
    · obtain ⟨G, M, ds, R, _, _, ⟨d, _, h3, _⟩, _⟩ := h
      cases h3
    · obtain ⟨G, M, ds, R, _, _, ⟨d, _, h3, _⟩, _⟩ := h
      cases h3
  | succ n ih =>
    refine g_ok T.f__law_same sc__law_same (by rintro ds M R ⟨d, rfl, _⟩; rfl) fun f0 cdv A outer s H E hr => ⟨_, (pss_cons (ps_if (PW.pt (pw_or (pt_cmp (pc_isN (pv 1))) (pw_or1 (pt_cmp (pc_isN (pv 0)))))) (pss_one (ps_ret (pe_and (pe_cmp (pc_isN (pv 0))) (pe_one (pe_cmp (pc_isN (pv 1))))))) pss_nil) (pss_cons (ps_if (PW.pt (pw_or (pt_val (pe_callB (k_isi K) (by rfl) T.b_isinstance (by decide +kernel) (pa_cons (pv 1) (pa_cons (pe_bltn (v := .ty "bool") (by rfl) T.b_bool (by decide +kernel) rfl) pa_nil)))) (pw_or1 (pt_val (pe_callB (k_isi K) (by rfl) T.b_isinstance (by decide +kernel) (pa_cons (pv 0) (pa_cons (pe_bltn (v := .ty "bool") (by rfl) T.b_bool (by decide +kernel) rfl) pa_nil))))))) (pss_one (ps_ret (pe_and (pe_callB (k_isi K) (by rfl) T.b_isinstance (by decide +kernel) (pa_cons (pv 1) (pa_cons (pe_bltn (v := .ty "bool") (by rfl) T.b_bool (by decide +kernel) rfl) pa_nil))) (pe_and (pe_callB (k_isi K) (by rfl) T.b_isinstance (by decide +kernel) (pa_cons (pv 0) (pa_cons (pe_bltn (v := .ty "bool") (by rfl) T.b_bool (by decide +kernel) rfl) pa_nil))) (pe_one (pe_cmpR op_eq (pv 0) (pv 1) (nomark _))))))) pss_nil) (pss_cons (ps_if (pt_val (pe_callB (k_isiT K) (by rfl) T.b_isinstance (by decide +kernel) (pa_cons (pv 1) (pa_cons (pe_tup (pa_cons (pe_bltn (v := .ty "int") (by rfl) T.b_int (by decide +kernel) rfl) (pa_cons (pe_bltn (v := .ty "str") (by rfl) T.b_str (by decide +kernel) rfl) pa_nil))) pa_nil)))) (pss_cons (ps_set (i := 2) sc__law_same.nd rfl (by first | exact Or.inl rfl | exact Or.inr rfl) (pe_cmpR op_eq (pe_callB (k_isi K) (by rfl) T.b_isinstance (by decide +kernel) (pa_cons (pv 0) (pa_cons (pe_bltn (v := .ty "int") (by rfl) T.b_int (by decide +kernel) rfl) pa_nil))) (pe_callB (k_isi K) (by rfl) T.b_isinstance (by decide +kernel) (pa_cons (pv 1) (pa_cons (pe_bltn (v := .ty "int") (by rfl) T.b_int (by decide +kernel) rfl) pa_nil))) (nomark _))) (pss_one (ps_ret (pe_and (pe_callB (k_isiT K) (by rfl) T.b_isinstance (by decide +kernel) (pa_cons (pv 0) (pa_cons (pe_tup (pa_cons (pe_bltn (v := .ty "int") (by rfl) T.b_int (by decide +kernel) rfl) (pa_cons (pe_bltn (v := .ty "str") (by rfl) T.b_str (by decide +kernel) rfl) pa_nil))) pa_nil))) (pe_and (pv 2) (pe_one (pe_cmpR op_eq (pv 0) (pv 1) (nomark _)))))))) pss_nil) (pss_cons (ps_if (pt_cmpR op_ne (pe_callB (k_isi K) (by rfl) T.b_isinstance (by decide +kernel) (pa_cons (pv 1) (pa_cons (pe_bltn (v := .ty "tuple") (by rfl) T.b_tuple (by decide +kernel) rfl) pa_nil))) (pe_callB (k_isi K) (by rfl) T.b_isinstance (by decide +kernel) (pa_cons (pv 0) (pa_cons (pe_bltn (v := .ty "tuple") (by rfl) T.b_tuple (by decide +kernel) rfl) pa_nil))) (nomark _)) (pss_one (ps_ret pe_bl)) pss_nil) (pss_cons (ps_if (pt_cmpR op_ne (pe_callB (k_isi K) (by rfl) T.b_isinstance (by decide +kernel) (pa_cons (pv 1) (pa_cons (pe_bltn (v := .ty "list") (by rfl) T.b_list (by decide +kernel) rfl) pa_nil))) (pe_callB (k_isi K) (by rfl) T.b_isinstance (by decide +kernel) (pa_cons (pv 0) (pa_cons (pe_bltn (v := .ty "list") (by rfl) T.b_list (by decide +kernel) rfl) pa_nil))) (nomark _)) (pss_one (ps_ret pe_bl)) pss_nil) (pss_one (ps_ret (pe_and (pe_cmpR op_eq (pe_callB (k_len K) (by rfl) T.b_len (by decide +kernel) (pa_cons (pv 0) pa_nil)) (pe_callB (k_len K) (by rfl) T.b_len (by decide +kernel) (pa_cons (pv 1) pa_nil)) (nomark _)) (pe_one (pe_callB (k_all K) (by rfl) T.b_all (by decide +kernel) (pa_cons (pe_lc (own := [("_law_one", 3), ("_law_two", 4)]) (by rfl) sc__law_same.nd (pi_zipK K T.b_zip (pa_cons (pv 0) (pa_cons (pv 1) pa_nil))) (blkOk_by (own := [("_law_one", 3), ("_law_two", 4)]) (N := n__law_same) (sc := defScope s__law_same) (by decide +kernel)) (fun _ _ _ _ _ => (pg_tupK K (n := 2) (pgs_cons (pg_name (i := 3) sc__law_same.nd rfl (by first | exact Or.inl rfl | exact Or.inr rfl)) (pgs_cons (pg_name (i := 4) sc__law_same.nd rfl (by first | exact Or.inl rfl | exact Or.inr rfl)) pgs_nil)))) (fun _ _ _ _ _ => pts_nil) (fun _ _ _ _ _ => (pe_gK ih hr (pa_cons (pv 3) (pa_cons (pv 4) pa_nil))))) pa_nil))))))))))), ?_⟩
    rintro ds M R ⟨d, rfl, hp, q⟩
    show Xs K _ _ [some d, some d, none, none, none] M
    have turn : ∀ (xs : List D), (decide (xs.length ≤ 1000000) && xs.all (pl n)) = true → ∀ (i : Nat) (a b : D), xs[i]? = some a → xs[i]? = some b → a = b ∧ pl n a = true := by
      intro xs h i a b h1 h2
      rw [Bool.and_eq_true, List.all_eq_true] at h
      exact ⟨Option.some.inj (h1.symm.trans h2), h.2 a (List.mem_of_getElem? h1)⟩
    have bound : ∀ (xs : List D), (decide (xs.length ≤ 1000000) && xs.all (pl n)) = true → min xs.length xs.length ≤ 16000000 := by
      intro xs h
      rw [Bool.and_eq_true] at h
      have := of_decide_eq_true h.1
      omega
    have fin : ∀ m : Nat, List.replicate m (D.bl true) = (List.replicate m true).map D.bl := fun m => by simp
    cases d with
    | non => walk_at "xgi"; exact q
    | bl b => walk_at "xgi"; simpa using q
    | int i => walk_at "xgi"; simpa using q
    | str z => walk_at "xgi"; simpa using q
    | lst xs =>
      walk_at "xgi"
      refine xe_lc ?_
      refine xi_zipA ?_
      walk_at "xgi"
      refine ⟨_, _, xs, xs, rfl, .inl ⟨rfl, rfl⟩, trivial, fun _ _ => trivial, bound xs hp, fun i ys => ys = List.replicate i (.bl true), rfl, ?_, ?_⟩
      · rintro i d ys p hi ⟨a, b, h1, h2, rfl⟩ rfl
        obtain ⟨rfl, h3⟩ := turn xs hp i a b h1 h2
        walk_at "xgi"
        exact ⟨a, rfl, h3, rfl, List.replicate_succ'.symm⟩
      · rintro ys rfl
        rw [fin]
        walk_at "xgi"
        refine xc_all ?_
        rw [all_rep]
        exact q
    | tup xs =>
      walk_at "xgi"
      refine xe_lc ?_
      refine xi_zipA ?_
      walk_at "xgi"
      refine ⟨_, _, xs, xs, rfl, .inr ⟨rfl, rfl⟩, trivial, fun _ _ => trivial, bound xs hp, fun i ys => ys = List.replicate i (.bl true), rfl, ?_, ?_⟩
      · rintro i d ys p hi ⟨a, b, h1, h2, rfl⟩ rfl
        obtain ⟨rfl, h3⟩ := turn xs hp i a b h1 h2
        walk_at "xgi"
        exact ⟨a, rfl, h3, rfl, List.replicate_succ'.symm⟩
      · rintro ys rfl
        rw [fin]
        walk_at "xgi"
        refine xc_all ?_
        rw [all_rep]
        exact q
    | _ => cases hp
theorem g__law_same (T : Top K mg) : GFn P w K mg base 6 "_law_same" p__law_same (S_same 6) := g_same_n T 6

/-- the small letters' codes -/
def smallL : List Nat := (("abcdefghijklmnopqrstuvwxyz" : Str)).cps.toList
def allSmall (z : Str) : Bool := z.cps.toList.all fun c => decide (c ∈ smallL)
def isName (z : Str) : Bool := decide (1 ≤ z.length ∧ z.length ≤ 6) && (allSmall z && !decide (z = "x"))
def S_is_name : DS := fun ds M R => ∃ z, ds = [.str z] ∧ z.length ≤ 1000000 ∧ R (.bl (isName z)) M
/-- [c in s for c in z] -/
theorem lc_small {K : PySem.W.Frag} {ρ : Rho} {M : Mm} {R : RD} {i j : Nat} {z : Str} (hz : z.length ≤ 1000000) (hi : ρ[i]? = some (some (.str z))) (hj : j < ρ.length)
    (h : R (.lst ((z.cps.toList.map fun c => decide (c ∈ smallL)).map D.bl)) M) :
    Xe K (tLc (iStr (tVar i)) (gName j) tYes (tOp rInC (tVar j) (tC (.str "abcdefghijklmnopqrstuvwxyz"))) [j]) ρ M R := by
  refine xe_lc ?_
  refine xi_str ?_
  refine xe_var hi ?_
  have hn : z.cps.size ≤ 16000000 := by show z.length ≤ _; omega
  refine ⟨z, rfl, trivial, fun _ _ => trivial, hn, fun n ys => ys = ((z.cps.toList.take n).map fun c => decide (c ∈ smallL)).map D.bl, rfl, ?_, ?_⟩
  · rintro n d ys p hn ⟨c, hc, rfl⟩ rfl
    have hc' : z.cps.toList[n]? = some c := by rw [Array.getElem?_toList]; exact hc
    walk_at "xgo"
    refine xe_var (d := .str ⟨#[c]⟩) (by simp [wipeD, hj]) ?_
    walk_at "xgo"
    refine xr_inC ?_
    refine ⟨rfl, ?_⟩
    simp only []
    rw [List.take_add_one, hc']
    simp [smallL]
  · rintro ys rfl
    rw [List.take_of_length_le (by simp)]
    exact h
theorem all_map (z : Str) : ((z.cps.toList.map fun c => decide (c ∈ smallL)).all id) = allSmall z := by
  simp [allSmall, List.all_map]
theorem isName_short {z : Str} (h : ¬ (1 ≤ z.length ∧ z.length ≤ 6)) : isName z = false := by simp [isName, h]
theorem isName_odd {z : Str} (h : allSmall z = false) : isName z = false := by simp [isName, h]
theorem isName_of {z : Str} (h : 1 ≤ z.length ∧ z.length ≤ 6) (h2 : allSmall z = true) : isName z = !decide (z = "x") := by simp [isName, h, h2]
theorem g_is_name (T : Top K mg) : GFn P w K mg base 1 "is_name" p_is_name S_is_name := by
  refine g_ok T.f_is_name sc_is_name (by rintro ds M R ⟨z, rfl, _⟩; rfl) fun f0 cdv A outer s H E hr => ⟨_, (pss_one (ps_ret (pe_and (pe_chain op_le op_le pe_int (pe_callB (k_len K) (by rfl) T.b_len (by decide +kernel) (pa_cons (pv 0) pa_nil)) (pe_ct T.c_LONGEST_NAME)) (pe_and (pe_callB (k_all K) (by rfl) T.b_all (by decide +kernel) (pa_cons (pe_lc (own := [("sign", 1)]) (by rfl) sc_is_name.nd (pi_str (pv 0)) (blkOk_by (own := [("sign", 1)]) (N := n_is_name) (sc := defScope s_is_name) (by decide +kernel)) (fun _ _ _ _ _ => (pg_name (i := 1) sc_is_name.nd rfl (by first | exact Or.inl rfl | exact Or.inr rfl))) (fun _ _ _ _ _ => pts_nil) (fun _ _ _ _ _ => (pe_cmpR o_inC (pv 1) (pe_ct T.c_SMALL) (by rfl)))) pa_nil)) (pe_one (pe_cmpR op_ne (pv 0) (pe_ct T.c_SIZE_SIGN) (nomark _))))))), ?_⟩
  rintro ds M R ⟨z, rfl, hz, q⟩
  show Xs K _ _ [some (.str z), none] M
  walk_at "xgo"
  refine ⟨fun h1 => ?_, fun h1 => ?_⟩
  · have h1 := of_decide_eq_true h1
    walk_at "xgo"
    refine ⟨fun h2 => ?_, fun h2 => ?_⟩
    · have h2 := of_decide_eq_true h2
      walk_at "xgo"
      refine lc_small hz rfl (by exact Nat.le_of_ble_eq_true rfl) ?_
      walk_at "xgo"
      refine xc_all ?_
      rw [all_map]
      walk_at "xgo"
      refine ⟨fun h3 => ?_, fun h3 => ?_⟩
      · walk_at "xgo"
        rw [isName_of ⟨by omega, by omega⟩ h3] at q
        exact q
      · rw [isName_odd h3] at q
        exact q
    · have h2 := of_decide_eq_false h2
      walk_at "xgo"
      rw [isName_short (by omega)] at q
      exact q
  · have h1 := of_decide_eq_false h1
    walk_at "xgo"
    rw [isName_short (by omega)] at q
    exact q

theorem g__law_is_name (T : Top K mg) : GFn P w K mg base 1 "_law_is_name" p__law_is_name S_is_name := by
  refine g_ok T.f__law_is_name sc__law_is_name (by rintro ds M R ⟨z, rfl, _⟩; rfl) fun f0 cdv A outer s H E hr => ⟨_, (pss_cons (ps_set (i := 1) sc__law_is_name.nd rfl (by first | exact Or.inl rfl | exact Or.inr rfl) (pe_callB (k_all K) (by rfl) T.b_all (by decide +kernel) (pa_cons (pe_lc (own := [("_law_sign", 2)]) (by rfl) sc__law_is_name.nd (pi_str (pv 0)) (blkOk_by (own := [("_law_sign", 2)]) (N := n__law_is_name) (sc := defScope s__law_is_name) (by decide +kernel)) (fun _ _ _ _ _ => (pg_name (i := 2) sc__law_is_name.nd rfl (by first | exact Or.inl rfl | exact Or.inr rfl))) (fun _ _ _ _ _ => pts_nil) (fun _ _ _ _ _ => (pe_cmpR o_inC (pv 2) pe_str (by rfl)))) pa_nil))) (pss_one (ps_ret (pe_and (pe_chain op_lt op_lt pe_int (pe_callB (k_len K) (by rfl) T.b_len (by decide +kernel) (pa_cons (pv 0) pa_nil)) pe_int) (pe_and (pv 1) (pe_one (pe_cmpR op_ne (pv 0) pe_str (nomark _)))))))), ?_⟩
  rintro ds M R ⟨z, rfl, hz, q⟩
  show Xs K _ _ [some (.str z), none, none] M
  walk_at "xgo"
  refine lc_small hz rfl (by exact Nat.le_of_ble_eq_true rfl) ?_
  walk_at "xgo"
  refine xc_all ?_
  rw [all_map]
  walk_at "xgo"
  refine ⟨fun h1 => ?_, fun h1 => ?_⟩
  · have h1 := of_decide_eq_true h1
    walk_at "xgo"
    refine ⟨fun h2 => ?_, fun h2 => ?_⟩
    · have h2 := of_decide_eq_true h2
      walk_at "xgo"
      refine ⟨fun h3 => ?_, fun h3 => ?_⟩
      · walk_at "xgo"
        rw [isName_of ⟨by omega, by omega⟩ h3] at q
        exact q
      · rw [isName_odd h3] at q
        exact q
    · have h2 := of_decide_eq_false h2
      walk_at "xgo"
      rw [isName_short (by omega)] at q
      exact q
  · have h1 := of_decide_eq_false h1
    walk_at "xgo"
    rw [isName_short (by omega)] at q
    exact q
def S_law : DS := fun ds M R => ∃ ns, ds = [.scr ns] ∧ ns.length ≤ 63 ∧ ∀ M', R (.bl true) M'
theorem law_in {ns : List Int} (h : ns.length ≤ 63) : S_law [.scr ns] [] fun d _ => d = .bl true := ⟨ns, rfl, h, fun _ => rfl⟩
theorem pl_bl (b : Bool) : pl 6 (.bl b) = true := rfl
theorem cut_le (z : Str) (a b : Option Int) : (cutS z a b).length ≤ z.length := by
  show (cutS z a b).cps.size ≤ z.cps.size
  unfold cutS
  rw [List.size_toArray, List.length_take, List.length_drop, ← Array.length_toList]
  omega
theorem app_len (a b : Str) : (a ++ b).length = a.length + b.length := by
  show (a ++ b).cps.size = a.cps.size + b.cps.size
  exact Array.size_append
def odds : List Str := ["", "x", "xx", "ax", "abcdef", "abcdefg", "a b", "T", "t1"]
theorem odds_ok : odds.map (fun z => isName z) = odds.map fun z => inD (.str z) [.str "xx", .str "ax", .str "abcdef"] := by decide +kernel
theorem g_law (T : Top K mg) {f0 : Addr} {fd : FuncData} (F : Fun K "law" "law" s_law f0 fd) : FnOk P w K mg base CX0 9 f0 fd p_law (spOf K S_law) := by
  refine fn_ok F sc_law (by rintro ds M R ⟨z, rfl, _⟩; rfl) fun cdv A outer s H E hr => ⟨_, (pss_cons (ps_set (i := 1) sc_law.nd rfl (by first | exact Or.inl rfl | exact Or.inr rfl) (pe_gK (g__law_feed T) (hr.mono (by decide)) (pa_cons (pv 0) pa_nil))) (pss_cons (ps_for PassesOwn.never (by rfl) (pi_range1 (by rfl) T.b_range (pa_cons pe_int pa_nil)) (pg_name (i := 2) sc_law.nd rfl (by first | exact Or.inl rfl | exact Or.inr rfl)) (pss_cons (ps_set (i := 3) sc_law.nd rfl (by first | exact Or.inl rfl | exact Or.inr rfl) pe_str) (pss_cons (ps_for PassesOwn.never (by rfl) (pi_range1 (by rfl) T.b_range (pa_cons (pe_gK (g__law_take T) (hr.mono (by decide)) (pa_cons (pv 1) (pa_cons pe_int pa_nil))) pa_nil)) (pg_name (i := 4) sc_law.nd rfl (by first | exact Or.inl rfl | exact Or.inr rfl)) (pss_one (ps_set (i := 3) sc_law.nd rfl (by first | exact Or.inl rfl | exact Or.inr rfl) (pe_op (k_addU K) (pv 3) (pe_gK (g__law_pick T) (hr.mono (by decide)) (pa_cons (pv 1) (pa_cons pe_str pa_nil))))))) (pss_cons (ps_if (pt_cmpR op_eq (pe_gK (g__law_take T) (hr.mono (by decide)) (pa_cons (pv 1) (pa_cons pe_int pa_nil))) pe_int (nomark _)) (pss_cons (ps_set (i := 5) sc_law.nd rfl (by first | exact Or.inl rfl | exact Or.inr rfl) (pe_gK (g__law_take T) (hr.mono (by decide)) (pa_cons (pv 1) (pa_cons (pe_op (k_addU K) (pe_callB (k_len K) (by rfl) T.b_len (by decide +kernel) (pa_cons (pv 3) pa_nil)) pe_int) pa_nil)))) (pss_one (ps_set (i := 3) sc_law.nd rfl (by first | exact Or.inl rfl | exact Or.inr rfl) (pe_op (k_addU K) (pe_op (k_addU K) (pe_slice (k_sl K) (pv 3) po_none (po_some (pv 5))) (pe_gK (g__law_pick T) (hr.mono (by decide)) (pa_cons (pv 1) (pa_cons pe_str pa_nil)))) (pe_slice (k_sl K) (pv 3) (po_some (pv 5)) po_none))))) pss_nil) (pss_one (ps_if (pt_not (pt_val (pe_gK (g__law_same T) (hr.mono (by decide)) (pa_cons (pe_gK (g_is_name T) (hr.mono (by decide)) (pa_cons (pv 3) pa_nil)) (pa_cons (pe_gK (g__law_is_name T) (hr.mono (by decide)) (pa_cons (pv 3) pa_nil)) pa_nil))))) (pss_one (ps_ret pe_bl)) pss_nil)))))) (pss_cons (ps_set (i := 6) sc_law.nd rfl (by first | exact Or.inl rfl | exact Or.inr rfl) (pe_lst (pa_cons pe_str (pa_cons pe_str (pa_cons pe_str (pa_cons pe_str (pa_cons pe_str (pa_cons pe_str (pa_cons pe_str (pa_cons pe_str (pa_cons pe_str pa_nil))))))))))) (pss_one (ps_ret (pe_gK (g__law_same T) (hr.mono (by decide)) (pa_cons (pe_lc (own := [("_law_text", 3)]) (by rfl) sc_law.nd (pi_listK K (pv 6)) (blkOk_by (own := [("_law_text", 3)]) (N := n_law) (sc := defScope s_law) (by decide +kernel)) (fun _ _ _ _ _ => (pg_name (i := 3) sc_law.nd rfl (by first | exact Or.inl rfl | exact Or.inr rfl))) (fun _ _ _ _ _ => pts_nil) (fun _ _ _ _ _ => (pe_gK (g_is_name T) (hr.mono (by decide)) (pa_cons (pv 3) pa_nil)))) (pa_cons (pe_lc (own := [("_law_text", 3)]) (by rfl) sc_law.nd (pi_listK K (pv 6)) (blkOk_by (own := [("_law_text", 3)]) (N := n_law) (sc := defScope s_law) (by decide +kernel)) (fun _ _ _ _ _ => (pg_name (i := 3) sc_law.nd rfl (by first | exact Or.inl rfl | exact Or.inr rfl))) (fun _ _ _ _ _ => pts_nil) (fun _ _ _ _ _ => (pe_cmpR (k_in K) (pv 3) (pe_tup (pa_cons pe_str (pa_cons pe_str (pa_cons pe_str pa_nil)))) (by rfl)))) pa_nil)))))))), ?_⟩
  rintro ds M R ⟨ns, rfl, hn, q⟩
  show Xs K _ _ [some (.scr ns), none, none, none, none, none, none] M
  walk_at "xgo"
  refine ⟨ns, rfl, hn, fun f => ?_⟩
  walk_at "xgo"
  refine ys_for allV ?_
  refine xi_rng1 ?_
  walk_at "xgo"
  refine ⟨by decide, by decide, fun i ρ' M' => ∃ x2 x3 x4 x5, ρ' = [some (.scr ns), some (.ref f), x2, x3, x4, x5, none] ∧ M' = (f, .feed) :: M, ⟨_, _, _, _, rfl, rfl⟩, fun _ _ _ _ _ => trivial, ?_, ?_⟩
  · rintro i d ρ' M' hi rfl ⟨x2, x3, x4, x5, rfl, rfl⟩
    walk_at "xgo"
    -- the text
    refine ys_to (fun ρ' M' => ∃ (z : Str) (x4 : Option D), ρ' = [some (.scr ns), some (.ref f), some (.int (0 + (i : Nat))), some (.str z), x4, x5, none] ∧ M' = (f, .feed) :: M ∧ z.length ≤ 8) ?_ ?_
    · refine ys_for allV ?_
      refine xi_rng1 ?_
      walk_at "xgo"
      refine ⟨f, 9, rfl, .head, by decide, by decide +kernel, fun r r0 r1 => ?_⟩
      walk_at "xgo"
      refine ⟨by omega, by omega, fun j ρ' M' => ∃ (z : Str) (x4 : Option D), ρ' = [some (.scr ns), some (.ref f), some (.int (0 + (i : Nat))), some (.str z), x4, x5, none] ∧ M' = (f, .feed) :: M ∧ z.length ≤ j, ⟨_, _, rfl, rfl, Nat.le_refl 0⟩, fun _ _ _ _ _ => trivial, ?_, ?_⟩
      · rintro j d ρ' M' hj rfl ⟨z, x4, rfl, rfl, hz⟩
        walk_at "xgo"
        refine ⟨f, _, rfl, .head, .inr (.inr ⟨_, rfl, by decide +kernel, by decide +kernel, fun c hc => ?_⟩)⟩
        have h1 : (⟨#[c]⟩ : Str).length = 1 := rfl
        walk_at "xgo"
        exact ⟨_, _, rfl, rfl, by rw [app_len]; omega⟩
      · rintro ρ' M' ⟨z, x4, rfl, rfl, hz⟩
        exact ⟨z, x4, rfl, rfl, by omega⟩
    · rintro ρ' M' ⟨z, x4, rfl, rfl, hz⟩
      refine ys_mid (fun ρ' M' => ∃ (z : Str) (x5 : Option D), ρ' = [some (.scr ns), some (.ref f), some (.int (0 + (i : Nat))), some (.str z), x4, x5, none] ∧ M' = (f, .feed) :: M ∧ z.length ≤ 100) ?_ ?_
      · refine ys_if ?_
        walk_at "xgo"
        refine ⟨f, 3, rfl, .head, by decide, by decide +kernel, fun r r0 r1 => ?_⟩
        walk_at "xgo"
        refine ⟨fun _ => ?_, fun _ => ?_⟩
        · walk_at "xgo"
          refine ⟨f, _, rfl, .head, by omega, big2000 (by omega), fun k k0 k1 => ?_⟩
          walk_at "xgo"
          refine ⟨f, _, rfl, .head, .inr (.inr ⟨_, rfl, by decide +kernel, by decide +kernel, fun c hc => ?_⟩)⟩
          have h1 : (⟨#[c]⟩ : Str).length = 1 := rfl
          have h2 := cut_le z none (some k)
          have h3 := cut_le z (some k) none
          have h4 := app_len (cutS z none (some k)) ⟨#[c]⟩
          walk_at "xgo"
          exact ⟨_, _, rfl, rfl, by rw [app_len]; omega⟩
        · walk_at "xgo"
          exact ⟨z, _, rfl, rfl, by omega⟩
      · rintro ρ' M' ⟨z, x5, rfl, rfl, hz⟩
        refine ys_if ?_
        walk_at "xgo"
        refine ⟨z, rfl, by omega, ?_⟩
        walk_at "xgo"
        refine ⟨z, rfl, by omega, ?_⟩
        walk_at "xgo"
        refine ⟨_, rfl, rfl, ?_⟩
        walk_at "xgo"
        exact ⟨_, _, _, _, rfl, rfl⟩
  · rintro ρ' M' ⟨x2, x3, x4, x5, rfl, rfl⟩
    walk_at "xgo"
    refine xe_lst ?_
    walk_at "xgo"
    have odd_at : ∀ (i : Nat) (x : D), (odds.map D.str)[i]? = some x → ∃ z, odds[i]? = some z ∧ x = .str z ∧ z ∈ odds := by
      intro i x h
      rw [List.getElem?_map] at h
      cases e : odds[i]? with
      | none => rw [e] at h; cases h
      | some z => rw [e] at h; cases h; exact ⟨z, rfl, rfl, List.mem_of_getElem? e⟩
    have odd_len : ∀ z ∈ odds, z.length ≤ 7 := by decide +kernel
    refine xe_lc ?_
    refine xi_list ?_
    walk_at "xgo"
    refine ⟨trivial, fun _ _ => trivial, by decide, fun i ys => ys = ((odds.take i).map isName).map D.bl, rfl, ?_, ?_⟩
    · rintro i d ys p hi hd rfl
      obtain ⟨z, hz, rfl, hm⟩ := odd_at i d hd
      have := odd_len z hm
      walk_at "xgo"
      refine ⟨z, rfl, by omega, rfl, ?_⟩
      simp only []
      rw [List.take_add_one, hz]
      simp
    · rintro ys e
      have e : ys = (odds.map isName).map D.bl := e
      subst e
      walk_at "xgo"
      refine xe_lc ?_
      refine xi_list ?_
      walk_at "xgo"
      refine ⟨trivial, fun _ _ => trivial, by decide, fun i ys => ys = ((odds.take i).map fun z => inD (.str z) [.str "xx", .str "ax", .str "abcdef"]).map D.bl, rfl, ?_, ?_⟩
      · rintro i d ys p hi hd rfl
        obtain ⟨z, hz, rfl, hm⟩ := odd_at i d hd
        walk_at "xgo"
        refine xr_in (ds := [.str "xx", .str "ax", .str "abcdef"]) rfl rfl ?_ (.inr (.inl rfl))
        refine ⟨rfl, ?_⟩
        simp only []
        rw [List.take_add_one, hz]
        simp
      · rintro ys e
        have e : ys = (odds.map fun z => inD (.str z) [.str "xx", .str "ax", .str "abcdef"]).map D.bl := e
        subst e
        walk_at "xgo"
        rw [← odds_ok]
        exact ⟨_, rfl, by decide +kernel, q _⟩

theorem top_mk {K : PySem.W.Frag} {h : Heap} {mg : Str → Option Value} (X : K.In h) (G : h.Ns mainGlobals mg)
    (z_all : PySem.W.nsIn K mainGlobals "all" = some none)
    (z_bool : PySem.W.nsIn K mainGlobals "bool" = some none)
    (z_int : PySem.W.nsIn K mainGlobals "int" = some none)
    (z_isinstance : PySem.W.nsIn K mainGlobals "isinstance" = some none)
    (z_len : PySem.W.nsIn K mainGlobals "len" = some none)
    (z_list : PySem.W.nsIn K mainGlobals "list" = some none)
    (z_range : PySem.W.nsIn K mainGlobals "range" = some none)
    (z_str : PySem.W.nsIn K mainGlobals "str" = some none)
    (z_tuple : PySem.W.nsIn K mainGlobals "tuple" = some none)
    (z_zip : PySem.W.nsIn K mainGlobals "zip" = some none)
    {u_SMALL : Tok} (v_SMALL : PySem.W.nsIn K mainGlobals "SMALL" = some (some (.str "abcdefghijklmnopqrstuvwxyz" u_SMALL)))
    {u_SIZE_SIGN : Tok} (v_SIZE_SIGN : PySem.W.nsIn K mainGlobals "SIZE_SIGN" = some (some (.str "x" u_SIZE_SIGN)))
    {u_LONGEST_NAME : Tok} (v_LONGEST_NAME : PySem.W.nsIn K mainGlobals "LONGEST_NAME" = some (some (.int 6 u_LONGEST_NAME)))
    {F_is_name : Addr} {od_is_name an_is_name : Option Addr} {sl_is_name : Array (Option Value)} {oc_is_name kV_is_name dc_is_name pm_is_name cd_is_name ct_is_name : Value} (a_is_name : PySem.W.nsIn K mainGlobals "is_name" = some (some (.ref F_is_name)))
    (l_is_name : K.lookup F_is_name = some ⟨oc_is_name, od_is_name, .func (PySem.W.fnOf "is_name" "is_name" (defArgs s_is_name) (defBody s_is_name) (defScope s_is_name) .none kV_is_name dc_is_name pm_is_name an_is_name cd_is_name ct_is_name), sl_is_name⟩) (c_is_name : PySem.W.codeIn K cd_is_name "is_name" = true) (k_is_name : PySem.W.keepIn K (.ref F_is_name) = true)
    {F__law_feed : Addr} {od__law_feed an__law_feed : Option Addr} {sl__law_feed : Array (Option Value)} {oc__law_feed kV__law_feed dc__law_feed pm__law_feed cd__law_feed ct__law_feed : Value} (a__law_feed : PySem.W.nsIn K mainGlobals "_law_feed" = some (some (.ref F__law_feed)))
    (l__law_feed : K.lookup F__law_feed = some ⟨oc__law_feed, od__law_feed, .func (PySem.W.fnOf "_law_feed" "_law_feed" (defArgs s__law_feed) (defBody s__law_feed) (defScope s__law_feed) .none kV__law_feed dc__law_feed pm__law_feed an__law_feed cd__law_feed ct__law_feed), sl__law_feed⟩) (c__law_feed : PySem.W.codeIn K cd__law_feed "_law_feed" = true) (k__law_feed : PySem.W.keepIn K (.ref F__law_feed) = true)
    {F__law_take : Addr} {od__law_take an__law_take : Option Addr} {sl__law_take : Array (Option Value)} {oc__law_take kV__law_take dc__law_take pm__law_take cd__law_take ct__law_take : Value} (a__law_take : PySem.W.nsIn K mainGlobals "_law_take" = some (some (.ref F__law_take)))
    (l__law_take : K.lookup F__law_take = some ⟨oc__law_take, od__law_take, .func (PySem.W.fnOf "_law_take" "_law_take" (defArgs s__law_take) (defBody s__law_take) (defScope s__law_take) .none kV__law_take dc__law_take pm__law_take an__law_take cd__law_take ct__law_take), sl__law_take⟩) (c__law_take : PySem.W.codeIn K cd__law_take "_law_take" = true) (k__law_take : PySem.W.keepIn K (.ref F__law_take) = true)
    {F__law_pick : Addr} {od__law_pick an__law_pick : Option Addr} {sl__law_pick : Array (Option Value)} {oc__law_pick kV__law_pick dc__law_pick pm__law_pick cd__law_pick ct__law_pick : Value} (a__law_pick : PySem.W.nsIn K mainGlobals "_law_pick" = some (some (.ref F__law_pick)))
    (l__law_pick : K.lookup F__law_pick = some ⟨oc__law_pick, od__law_pick, .func (PySem.W.fnOf "_law_pick" "_law_pick" (defArgs s__law_pick) (defBody s__law_pick) (defScope s__law_pick) .none kV__law_pick dc__law_pick pm__law_pick an__law_pick cd__law_pick ct__law_pick), sl__law_pick⟩) (c__law_pick : PySem.W.codeIn K cd__law_pick "_law_pick" = true) (k__law_pick : PySem.W.keepIn K (.ref F__law_pick) = true)
    {F__law_same : Addr} {od__law_same an__law_same : Option Addr} {sl__law_same : Array (Option Value)} {oc__law_same kV__law_same dc__law_same pm__law_same cd__law_same ct__law_same : Value} (a__law_same : PySem.W.nsIn K mainGlobals "_law_same" = some (some (.ref F__law_same)))
    (l__law_same : K.lookup F__law_same = some ⟨oc__law_same, od__law_same, .func (PySem.W.fnOf "_law_same" "_law_same" (defArgs s__law_same) (defBody s__law_same) (defScope s__law_same) .none kV__law_same dc__law_same pm__law_same an__law_same cd__law_same ct__law_same), sl__law_same⟩) (c__law_same : PySem.W.codeIn K cd__law_same "_law_same" = true) (k__law_same : PySem.W.keepIn K (.ref F__law_same) = true)
    {F__law_is_name : Addr} {od__law_is_name an__law_is_name : Option Addr} {sl__law_is_name : Array (Option Value)} {oc__law_is_name kV__law_is_name dc__law_is_name pm__law_is_name cd__law_is_name ct__law_is_name : Value} (a__law_is_name : PySem.W.nsIn K mainGlobals "_law_is_name" = some (some (.ref F__law_is_name)))
    (l__law_is_name : K.lookup F__law_is_name = some ⟨oc__law_is_name, od__law_is_name, .func (PySem.W.fnOf "_law_is_name" "_law_is_name" (defArgs s__law_is_name) (defBody s__law_is_name) (defScope s__law_is_name) .none kV__law_is_name dc__law_is_name pm__law_is_name an__law_is_name cd__law_is_name ct__law_is_name), sl__law_is_name⟩) (c__law_is_name : PySem.W.codeIn K cd__law_is_name "_law_is_name" = true) (k__law_is_name : PySem.W.keepIn K (.ref F__law_is_name) = true)
    {F_law : Addr} {od_law an_law : Option Addr} {sl_law : Array (Option Value)} {oc_law kV_law dc_law pm_law cd_law ct_law : Value} (a_law : PySem.W.nsIn K mainGlobals "law" = some (some (.ref F_law)))
    (l_law : K.lookup F_law = some ⟨oc_law, od_law, .func (PySem.W.fnOf "law" "law" (defArgs s_law) (defBody s_law) (defScope s_law) .none kV_law dc_law pm_law an_law cd_law ct_law), sl_law⟩) (c_law : PySem.W.codeIn K cd_law "law" = true) (k_law : PySem.W.keepIn K (.ref F_law) = true) : Top K mg :=
  { b_all := PySem.W.mg_none_of X G z_all
    b_bool := PySem.W.mg_none_of X G z_bool
    b_int := PySem.W.mg_none_of X G z_int
    b_isinstance := PySem.W.mg_none_of X G z_isinstance
    b_len := PySem.W.mg_none_of X G z_len
    b_list := PySem.W.mg_none_of X G z_list
    b_range := PySem.W.mg_none_of X G z_range
    b_str := PySem.W.mg_none_of X G z_str
    b_tuple := PySem.W.mg_none_of X G z_tuple
    b_zip := PySem.W.mg_none_of X G z_zip
    c_SMALL := ⟨_, PySem.W.mg_of X G v_SMALL, ⟨u_SMALL, rfl⟩⟩
    c_SIZE_SIGN := ⟨_, PySem.W.mg_of X G v_SIZE_SIGN, ⟨u_SIZE_SIGN, rfl⟩⟩
    c_LONGEST_NAME := ⟨_, PySem.W.mg_of X G v_LONGEST_NAME, ⟨u_LONGEST_NAME, rfl⟩⟩
    f_is_name := FT.mk' X G a_is_name l_is_name c_is_name k_is_name fun _ _ _ _ _ _ us hl => match us, hl with | [_], _ => rfl
    f__law_feed := FT.mk' X G a__law_feed l__law_feed c__law_feed k__law_feed fun _ _ _ _ _ _ us hl => match us, hl with | [_], _ => rfl
    f__law_take := FT.mk' X G a__law_take l__law_take c__law_take k__law_take fun _ _ _ _ _ _ us hl => match us, hl with | [_, _], _ => rfl
    f__law_pick := FT.mk' X G a__law_pick l__law_pick c__law_pick k__law_pick fun _ _ _ _ _ _ us hl => match us, hl with | [_, _], _ => rfl
    f__law_same := FT.mk' X G a__law_same l__law_same c__law_same k__law_same fun _ _ _ _ _ _ us hl => match us, hl with | [_, _], _ => rfl
    f__law_is_name := FT.mk' X G a__law_is_name l__law_is_name c__law_is_name k__law_is_name fun _ _ _ _ _ _ us hl => match us, hl with | [_], _ => rfl
    f_law := FT.mk' X G a_law l_law c_law k_law fun _ _ _ _ _ _ us hl => match us, hl with | [_], _ => rfl }
theorem law_mk {K : PySem.W.Frag} {mg : Str → Option Value} {P : Program} {w : World} {fa : Addr} (T : Top K mg) (hfa : mg "law" = some (.ref fa)) :
    ∃ fd : FuncData, (∀ (s : Shared) (u : Value), BindsTo s fd ⟨[u], []⟩ [("_law_script", u)]) ∧ ∀ base : Heap, K.In base → base.Ns mainGlobals mg → FnOk P w K mg base CX0 9 fa fd ["_law_script"] (spOf K S_law) := by
  obtain ⟨f, fd, F, h1, h2⟩ := T.f_law.ex
  have e := hfa.symm.trans h1
  cases e
  have F0 := F
  obtain ⟨oc, od, kV, doc, pm, an, cdv, ct, osl, rfl, _, _⟩ := F0.ex
  exact ⟨_, fun s u => .of_eq rfl, fun base _ _ => g_law T F⟩

end
end Ev
open PySem PySem.W PyProof.Rows
set_option maxHeartbeats 0 in
theorem PySem.Challenge.cw_evertally_k07_names_recognized_holds : PySem.Challenge.rw_evertally_k07_names_recognized.Holds := by
  w_on; o_law; k_head; (case hw => w_witness2)
  k_fill
  refine L2.walk_of (l := PySem.Challenge.rw_evertally_k07_names_recognized) (n := 63) (k := 9) (x := "_law_script") (CX := fun _ => L2.CX0) (sp := fun w => XD.spOf _ Ev.S_law) rfl (by decide) rfl ⟨rfl, by decide, by decide⟩ (fun w h Y => PySem.W.kIn_of Y) ?F (fun w H a ns hl hO hS => XD.law_start hl hO hS (Ev.law_in hl)) (fun _ _ _ _ _ h => h)
  case F =>
    intro w mg fa h KX G hmg
    refine' Ev.law_mk (Ev.top_mk KX G ?z_all ?z_bool ?z_int ?z_isinstance ?z_len ?z_list ?z_range ?z_str ?z_tuple ?z_zip ?v_SMALL ?v_SIZE_SIGN ?v_LONGEST_NAME ?a_is_name ?l_is_name ?c_is_name ?k_is_name ?a__law_feed ?l__law_feed ?c__law_feed ?k__law_feed ?a__law_take ?l__law_take ?c__law_take ?k__law_take ?a__law_pick ?l__law_pick ?c__law_pick ?k__law_pick ?a__law_same ?l__law_same ?c__law_same ?k__law_same ?a__law_is_name ?l__law_is_name ?c__law_is_name ?k__law_is_name ?a_law ?l_law ?c_law ?k_law) hmg
    (case z_all => k_is); (case z_bool => k_is); (case z_int => k_is); (case z_isinstance => k_is); (case z_len => k_is); (case z_list => k_is); (case z_range => k_is); (case z_str => k_is); (case z_tuple => k_is); (case z_zip => k_is); (case v_SMALL => k_is); (case v_SIZE_SIGN => k_is); (case v_LONGEST_NAME => k_is); (case a_is_name => k_is); (case l_is_name => k_is); (case c_is_name => k_is); (case k_is_name => k_is); (case a__law_feed => k_is); (case l__law_feed => k_is); (case c__law_feed => k_is); (case k__law_feed => k_is); (case a__law_take => k_is); (case l__law_take => k_is); (case c__law_take => k_is); (case k__law_take => k_is); (case a__law_pick => k_is); (case l__law_pick => k_is); (case c__law_pick => k_is); (case k__law_pick => k_is); (case a__law_same => k_is); (case l__law_same => k_is); (case c__law_same => k_is); (case k__law_same => k_is); (case a__law_is_name => k_is); (case l__law_is_name => k_is); (case c__law_is_name => k_is); (case k__law_is_name => k_is); (case a_law => k_is); (case l_law => k_is); (case c_law => k_is); (case k_law => k_is)
