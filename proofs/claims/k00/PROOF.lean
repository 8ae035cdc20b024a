import PyProof.Rows.All
import Wide.All
import OpenK.AllK
import Wide.FinOn
import HandS.ForMost
import HandS.Exc
import HandS.Defaults
import HandS.More
import HandS.TupAny
import HandS.Star
import HandS.Property
import HandS.Codes
import HandS.IsInst
import HandS.RaiseMore
import KE.KTupSum
import HandS.ClsMeth
import OpenK.KMeth
import OpenK.KOps
import HandS.SlotsOwn
import HandS.Wide
import HandS.Head2
import HandS.HeadEnd
import HandS.HeadHook1
import HandS.HeadHook2
import HandS.Ends
import PySem.Challenge.RW_carrylog_k00_round_sums
set_option Elab.async false
set_option linter.all false
set_option maxRecDepth 100000
set_option maxHeartbeats 4000000
namespace L3
open PySem PySem.Spec PyProof.Rows L2

/-! ### data without addresses -/
inductive Dt where
  | non | bl (b : Bool) | int (i : Int) | str (x : Str) | ref (a : Addr)
  | lst (xs : List Dt) | tup (xs : List Dt) | ins (C : Addr) (fs : List Str) (xs : List Dt)
  /-- a list that is only read (the script) -/
  | rdl (xs : List Dt)
  /-- a built-in class -/
  | ty (n : String)

mutual
def Rep (K : PySem.W.Frag) (F : Hp) : Dt → V → Prop
  | .non, v => v = .non
  | .bl b, v => v = .bl b
  | .int i, v => v = .int i
  | .str x, v => v = .str x
  | .ty x, v => v = .ty x
  | .ref a, v => v = .ref a
  | .lst ds, v => ∃ a vs, v = .ref a ∧ F a = some (.lst vs) ∧ Reps K F ds vs
  | .rdl ds, v => ∃ a vs, v = .ref a ∧ SqL K F a vs ∧ Reps K F ds vs
  | .tup ds, v => ∃ a vs, v = .ref a ∧ SqT K F a vs ∧ Reps K F ds vs
  | .ins C fs xs, v => ∃ a dx fv, v = .ref a ∧ F a = some (.ins C dx fv) ∧ fv.map (·.1) = fs ∧ Reps K F xs (fv.map (·.2))
def Reps (K : PySem.W.Frag) (F : Hp) : List Dt → List V → Prop
  | [], vs => vs = []
  | d :: ds, vs => ∃ v r, vs = v :: r ∧ Rep K F d v ∧ Reps K F ds r
end
theorem same_l {K : PySem.W.Frag} {H H' : Hp} {a : Addr} {xs : List V} (e : Same H H') (h : SqL K H a xs) : SqL K H' a xs := e.seq h
theorem same_t {K : PySem.W.Frag} {H H' : Hp} {a : Addr} {xs : List V} (e : Same H H') (h : SqT K H a xs) : SqT K H' a xs := by
  rcases h with (h | ⟨o, h⟩) | h
  · exact .inl (.inl (e _ _ h))
  · exact .inl (.inr ⟨o, e _ _ h⟩)
  · exact .inr h
mutual
theorem Rep.mono {K : PySem.W.Frag} {F F' : Hp} (e : Same F F') : ∀ (d : Dt) {v : V}, Rep K F d v → Rep K F' d v
  | .non, v, h => by simp only [Rep] at h ⊢; exact h
  | .bl b, v, h => by simp only [Rep] at h ⊢; exact h
  | .int i, v, h => by simp only [Rep] at h ⊢; exact h
  | .str x, v, h => by simp only [Rep] at h ⊢; exact h
  | .ty x, v, h => by simp only [Rep] at h ⊢; exact h
  | .ref a, v, h => by simp only [Rep] at h ⊢; exact h
  | .lst ds, v, h => by
    simp only [Rep] at h ⊢
    obtain ⟨a, vs, e1, h1, h2⟩ := h
    exact ⟨a, vs, e1, e _ _ h1, Reps.mono e ds h2⟩
  | .rdl ds, v, h => by
    simp only [Rep] at h ⊢
    obtain ⟨a, vs, e1, h1, h2⟩ := h
    exact ⟨a, vs, e1, same_l e h1, Reps.mono e ds h2⟩
  | .tup ds, v, h => by
    simp only [Rep] at h ⊢
    obtain ⟨a, vs, e1, h1, h2⟩ := h
    exact ⟨a, vs, e1, same_t e h1, Reps.mono e ds h2⟩
  | .ins C fs xs, v, h => by
    simp only [Rep] at h ⊢
    obtain ⟨a, dx, fv, e1, h1, h3, h2⟩ := h
    exact ⟨a, dx, fv, e1, e _ _ h1, h3, Reps.mono e xs h2⟩
theorem Reps.mono {K : PySem.W.Frag} {F F' : Hp} (e : Same F F') : ∀ (ds : List Dt) {vs : List V}, Reps K F ds vs → Reps K F' ds vs
  | [], vs, h => by simp only [Reps] at h ⊢; exact h
  | d :: ds, vs, h => by
    simp only [Reps] at h ⊢
    obtain ⟨v, r, e1, h1, h2⟩ := h
    exact ⟨v, r, e1, Rep.mono e d h1, Reps.mono e ds h2⟩
end
section
variable {K : PySem.W.Frag} {F F' : Hp}
theorem Reps.nil : Reps K F [] [] := by simp only [Reps]
theorem Reps.cons {d : Dt} {v : V} {ds : List Dt} {vs : List V} (h : Rep K F d v) (h' : Reps K F ds vs) : Reps K F (d :: ds) (v :: vs) := by
  simp only [Reps]
  exact ⟨v, vs, rfl, h, h'⟩
theorem Reps.nil_inv {vs : List V} (h : Reps K F [] vs) : vs = [] := by simpa only [Reps] using h
theorem Reps.cons_inv {d : Dt} {ds : List Dt} {vs : List V} (h : Reps K F (d :: ds) vs) : ∃ v r, vs = v :: r ∧ Rep K F d v ∧ Reps K F ds r := by simpa only [Reps] using h
theorem Reps.length : ∀ {ds : List Dt} {vs : List V}, Reps K F ds vs → ds.length = vs.length
  | [], _, h => by rw [h.nil_inv]; rfl
  | d :: ds, _, h => by
    obtain ⟨v, r, rfl, _, h2⟩ := h.cons_inv
    rw [List.length_cons, List.length_cons, Reps.length h2]
theorem Reps.get : ∀ {ds : List Dt} {vs : List V} {i : Nat} {d : Dt}, Reps K F ds vs → ds[i]? = some d → ∃ v, vs[i]? = some v ∧ Rep K F d v
  | [], _, _, _, _, e => by simp at e
  | d :: ds, _, 0, _, h, e => by
    obtain ⟨v, r, rfl, h1, _⟩ := h.cons_inv
    simp at e; subst e; exact ⟨v, rfl, h1⟩
  | d :: ds, _, i + 1, _, h, e => by
    obtain ⟨v, r, rfl, _, h2⟩ := h.cons_inv
    obtain ⟨w, h3, h4⟩ := Reps.get (i := i) h2 (by simpa using e)
    exact ⟨w, by simpa using h3, h4⟩
theorem Reps.getV : ∀ {ds : List Dt} {vs : List V} {i : Nat} {v : V}, Reps K F ds vs → vs[i]? = some v → ∃ d, ds[i]? = some d ∧ Rep K F d v
  | [], _, _, _, h, e => by rw [h.nil_inv] at e; simp at e
  | d :: ds, _, 0, _, h, e => by
    obtain ⟨v, r, rfl, h1, _⟩ := h.cons_inv
    simp at e; subst e; exact ⟨d, rfl, h1⟩
  | d :: ds, _, i + 1, _, h, e => by
    obtain ⟨v, r, rfl, _, h2⟩ := h.cons_inv
    obtain ⟨w, h3, h4⟩ := Reps.getV (i := i) h2 (by simpa using e)
    exact ⟨w, by simpa using h3, h4⟩
theorem Reps.append : ∀ {ds es : List Dt} {vs ws : List V}, Reps K F ds vs → Reps K F es ws → Reps K F (ds ++ es) (vs ++ ws)
  | [], es, _, ws, h, h' => by rw [h.nil_inv]; exact h'
  | d :: ds, es, _, ws, h, h' => by
    obtain ⟨v, r, rfl, h1, h2⟩ := h.cons_inv
    exact .cons h1 (Reps.append h2 h')
theorem Reps.take : ∀ {ds : List Dt} {vs : List V} (n : Nat), Reps K F ds vs → Reps K F (ds.take n) (vs.take n)
  | _, _, 0, _ => .nil
  | [], _, n + 1, h => by rw [h.nil_inv]; exact .nil
  | d :: ds, _, n + 1, h => by
    obtain ⟨v, r, rfl, h1, h2⟩ := h.cons_inv
    exact .cons h1 (Reps.take n h2)
theorem Reps.drop : ∀ {ds : List Dt} {vs : List V} (n : Nat), Reps K F ds vs → Reps K F (ds.drop n) (vs.drop n)
  | _, _, 0, h => h
  | [], _, n + 1, h => by rw [h.nil_inv]; exact .nil
  | d :: ds, _, n + 1, h => by
    obtain ⟨v, r, rfl, h1, h2⟩ := h.cons_inv
    exact Reps.drop n h2
theorem Reps.set : ∀ {ds : List Dt} {vs : List V} (n : Nat) {d : Dt} {v : V}, Reps K F ds vs → Rep K F d v → Reps K F (ds.set n d) (vs.set n v)
  | [], _, n, _, _, h, _ => by rw [h.nil_inv]; exact .nil
  | d :: ds, _, 0, _, _, h, hd => by
    obtain ⟨v, r, rfl, h1, h2⟩ := h.cons_inv
    exact .cons hd h2
  | d :: ds, _, n + 1, _, _, h, hd => by
    obtain ⟨v, r, rfl, h1, h2⟩ := h.cons_inv
    exact .cons h1 (Reps.set n h2 hd)
theorem Reps.reverse : ∀ {ds : List Dt} {vs : List V}, Reps K F ds vs → Reps K F ds.reverse vs.reverse
  | [], _, h => by rw [h.nil_inv]; exact .nil
  | d :: ds, _, h => by
    obtain ⟨v, r, rfl, h1, h2⟩ := h.cons_inv
    rw [List.reverse_cons, List.reverse_cons]
    exact (Reps.reverse h2).append (.cons h1 .nil)
theorem Reps.ints : ∀ {ns : List Int} {vs : List V}, Reps K F (ns.map Dt.int) vs → vs = ns.map V.int
  | [], _, h => h.nil_inv
  | n :: ns, _, h => by
    obtain ⟨v, r, rfl, h1, h2⟩ := h.cons_inv
    simp only [Rep] at h1
    rw [h1, Reps.ints h2]; rfl
theorem Reps.ints' : ∀ (ns : List Int), Reps K F (ns.map Dt.int) (ns.map V.int)
  | [] => .nil
  | n :: ns => .cons (by simp only [Rep]) (Reps.ints' ns)
theorem Reps.bls : ∀ {ns : List Bool} {vs : List V}, Reps K F (ns.map Dt.bl) vs → vs = ns.map V.bl
  | [], _, h => h.nil_inv
  | n :: ns, _, h => by
    obtain ⟨v, r, rfl, h1, h2⟩ := h.cons_inv
    simp only [Rep] at h1
    rw [h1, Reps.bls h2]; rfl
theorem Rep.int {i : Int} {v : V} (h : Rep K F (.int i) v) : v = .int i := by simpa only [Rep] using h
theorem Rep.bl {b : Bool} {v : V} (h : Rep K F (.bl b) v) : v = .bl b := by simpa only [Rep] using h
theorem Rep.str {x : Str} {v : V} (h : Rep K F (.str x) v) : v = .str x := by simpa only [Rep] using h
theorem Rep.ty {x : String} {v : V} (h : Rep K F (.ty x) v) : v = .ty x := by simpa only [Rep] using h
theorem Rep.mkTy (i : String) : Rep K F (.ty i) (.ty i) := by simp only [Rep]
theorem Rep.non {v : V} (h : Rep K F .non v) : v = .non := by simpa only [Rep] using h
theorem Rep.ref {a : Addr} {v : V} (h : Rep K F (.ref a) v) : v = .ref a := by simpa only [Rep] using h
theorem Rep.lst {ds : List Dt} {v : V} (h : Rep K F (.lst ds) v) : ∃ a vs, v = .ref a ∧ F a = some (.lst vs) ∧ Reps K F ds vs := by simpa only [Rep] using h
theorem Rep.rdl {ds : List Dt} {v : V} (h : Rep K F (.rdl ds) v) : ∃ a vs, v = .ref a ∧ SqL K F a vs ∧ Reps K F ds vs := by simpa only [Rep] using h
theorem Rep.tup {ds : List Dt} {v : V} (h : Rep K F (.tup ds) v) : ∃ a vs, v = .ref a ∧ SqT K F a vs ∧ Reps K F ds vs := by simpa only [Rep] using h
theorem Rep.ins {C : Addr} {fs : List Str} {xs : List Dt} {v : V} (h : Rep K F (.ins C fs xs) v) : ∃ a dx fv, v = .ref a ∧ F a = some (.ins C dx fv) ∧ fv.map (·.1) = fs ∧ Reps K F xs (fv.map (·.2)) := by simpa only [Rep] using h
theorem Rep.mkInt (i : Int) : Rep K F (.int i) (.int i) := by simp only [Rep]
theorem Rep.mkBl (i : Bool) : Rep K F (.bl i) (.bl i) := by simp only [Rep]
theorem Rep.mkStr (i : Str) : Rep K F (.str i) (.str i) := by simp only [Rep]
theorem Rep.mkNon : Rep K F .non .non := by simp only [Rep]
theorem Rep.mkRef (a : Addr) : Rep K F (.ref a) (.ref a) := by simp only [Rep]
theorem Rep.mkRdl {ds : List Dt} {a : Addr} {vs : List V} (h : SqL K F a vs) (r : Reps K F ds vs) : Rep K F (.rdl ds) (.ref a) := by simp only [Rep]; exact ⟨a, vs, rfl, h, r⟩
theorem Rep.mkLst {ds : List Dt} {a : Addr} {vs : List V} (h : F a = some (.lst vs)) (r : Reps K F ds vs) : Rep K F (.lst ds) (.ref a) := by simp only [Rep]; exact ⟨a, vs, rfl, h, r⟩
theorem Rep.mkTup {ds : List Dt} {a : Addr} {vs : List V} (h : SqT K F a vs) (r : Reps K F ds vs) : Rep K F (.tup ds) (.ref a) := by simp only [Rep]; exact ⟨a, vs, rfl, h, r⟩
end

/-! ### owned cells -/
inductive OC where
  | lst (ds : List Dt) | ins (C : Addr) (fs : List Str) (xs : List Dt) | dct (kvs : List (Key × Dt)) | raw (o : HO)
def repO (K : PySem.W.Frag) (F : Hp) : OC → HO → Prop
  | .lst ds, o => ∃ vs, o = .lst vs ∧ Reps K F ds vs
  | .ins C fs xs, o => ∃ dx fv, o = .ins C dx fv ∧ fv.map (·.1) = fs ∧ Reps K F xs (fv.map (·.2))
  | .dct kvs, o => ∃ kv', o = .dK kv' ∧ kv'.map (·.1) = kvs.map (·.1) ∧ Reps K F (kvs.map (·.2)) (kv'.map (·.2))
  | .raw u, o => o = u
theorem repO.mono {K : PySem.W.Frag} {F F' : Hp} (e : Same F F') : ∀ {c : OC} {o : HO}, repO K F c o → repO K F' c o
  | .lst ds, o, ⟨vs, h1, h2⟩ => ⟨vs, h1, h2.mono e⟩
  | .ins C fs xs, o, ⟨dx, fv, h1, h2, h3⟩ => ⟨dx, fv, h1, h2, h3.mono e⟩
  | .dct kvs, o, ⟨kv, h1, h2, h3⟩ => ⟨kv, h1, h2, h3.mono e⟩
  | .raw u, o, h => h
abbrev Cells := List (Addr × OC)
structure Sat (K : PySem.W.Frag) (F : Hp) (L : Cells) (H : Hp) : Prop where
  sub : Same F H
  own : ∀ c ∈ L, ∃ o, H c.1 = some o ∧ repO K F c.2 o
  fre : ∀ c ∈ L, F c.1 = none
  nd : (L.map (·.1)).Nodup
section
variable {K : PySem.W.Frag} {F F' H H' : Hp} {L L0 L1 : Cells} {p a : Addr} {oc oc' : OC} {o o' : HO}
theorem same_new (h : F p = none) : Same F (upd F p o) := fun a u e => by
  rw [upd_ne (ne_of_none e h)]
  exact e
theorem none_back (e : Same F H) (h : H p = none) : F p = none := e.free h
theorem Sat.notin (S : Sat K F L H) (h : H p = none) : p ∉ L.map (·.1) := fun hm => by
  obtain ⟨c, hc, e⟩ := List.mem_map.mp hm
  obtain ⟨o, ho, _⟩ := S.own c hc
  rw [e, h] at ho
  cases ho
/-- a new cell, owned -/
theorem Sat.new (S : Sat K F L H) (h : H p = none) (r : repO K F oc o) : Sat K F ((p, oc) :: L) (upd H p o) := by
  have hp := S.notin h
  refine ⟨fun a u e => ?_, fun c hc => ?_, fun c hc => ?_, List.nodup_cons.mpr ⟨hp, S.nd⟩⟩
  · rw [upd_ne (ne_of_none (S.sub a u e) h)]
    exact S.sub a u e
  · rcases List.mem_cons.mp hc with e | hc
    · subst e; exact ⟨o, upd_same, r⟩
    · obtain ⟨u, hu, hr⟩ := S.own c hc
      exact ⟨u, by rw [upd_ne (ne_of_none hu h)]; exact hu, hr⟩
  · rcases List.mem_cons.mp hc with e | hc
    · subst e; exact none_back S.sub h
    · exact S.fre c hc
/-- a new thing, frozen -/
theorem Sat.newF (S : Sat K F L H) (h : H p = none) : Sat K (upd F p o) L (upd H p o) := by
  have hF := none_back S.sub h
  have e0 : Same F (upd F p o) := same_new hF
  refine ⟨fun a u e => ?_, fun c hc => ?_, fun c hc => ?_, S.nd⟩
  · by_cases hb : a = p
    · subst hb; rw [upd_same] at e ⊢; exact e
    · rw [upd_ne hb] at e ⊢; exact S.sub a u e
  · obtain ⟨u, hu, hr⟩ := S.own c hc
    exact ⟨u, by rw [upd_ne (ne_of_none hu h)]; exact hu, hr.mono e0⟩
  · obtain ⟨u, hu, hr⟩ := S.own c hc
    rw [upd_ne (ne_of_none hu h)]
    exact S.fre c hc
/-- something new that is not tracked here -/
theorem Sat.newN (S : Sat K F L H) (h : H p = none) : Sat K F L (upd H p o) := by
  refine ⟨fun a u e => ?_, fun c hc => ?_, S.fre, S.nd⟩
  · rw [upd_ne (ne_of_none (S.sub a u e) h)]
    exact S.sub a u e
  · obtain ⟨u, hu, hr⟩ := S.own c hc
    exact ⟨u, by rw [upd_ne (ne_of_none hu h)]; exact hu, hr⟩
theorem Sat.at (S : Sat K F (L0 ++ (a, oc) :: L1) H) : ∃ o, H a = some o ∧ repO K F oc o := S.own (a, oc) (by simp)
theorem Sat.write (S : Sat K F (L0 ++ (a, oc) :: L1) H) (r : repO K F oc' o') : Sat K F (L0 ++ (a, oc') :: L1) (upd H a o') := by
  have nd := S.nd
  have em : (L0 ++ (a, oc') :: L1).map (·.1) = (L0 ++ (a, oc) :: L1).map (·.1) := by simp
  have hF : F a = none := S.fre (a, oc) (by simp)
  refine ⟨fun b u e => ?_, fun c hc => ?_, fun c hc => ?_, by rw [em]; exact nd⟩
  · rw [upd_ne (ne_of_none e hF)]
    exact S.sub b u e
  · by_cases hb : c.1 = a
    · have hc2 : c = (a, oc') := by
        rcases List.mem_append.mp hc with h | h
        · exfalso
          rw [List.map_append, List.nodup_append] at nd
          exact nd.2.2 c.1 (List.mem_map.mpr ⟨c, h, rfl⟩) a (by simp) hb
        · rcases List.mem_cons.mp h with h | h
          · exact h
          · exfalso
            rw [List.map_append, List.nodup_append] at nd
            have := (List.nodup_cons.mp (show ((a : Addr) :: L1.map (·.1)).Nodup from nd.2.1)).1
            exact this (List.mem_map.mpr ⟨c, h, hb⟩)
      subst hc2
      exact ⟨o', upd_same, r⟩
    · have hc3 : c ∈ L0 ++ (a, oc) :: L1 := by
        rcases List.mem_append.mp hc with h | h
        · exact List.mem_append_left _ h
        · rcases List.mem_cons.mp h with h | h
          · exact absurd (by rw [h]) hb
          · exact List.mem_append_right _ (List.mem_cons_of_mem _ h)
      obtain ⟨u, hu, hr⟩ := S.own c hc3
      exact ⟨u, by rw [upd_ne hb]; exact hu, hr⟩
  · have h1 : c.1 ∈ (L0 ++ (a, oc) :: L1).map (·.1) := by rw [← em]; exact List.mem_map.mpr ⟨c, hc, rfl⟩
    obtain ⟨c', hc', e'⟩ := List.mem_map.mp h1
    rw [← e']
    exact S.fre c' hc'
/-- fewer cells -/
theorem Sat.less (S : Sat K F (L0 ++ (a, oc) :: L1) H) : Sat K F (L0 ++ L1) H := by
  have m : ∀ c, c ∈ L0 ++ L1 → c ∈ L0 ++ (a, oc) :: L1 := fun c hc => by
    rcases List.mem_append.mp hc with h | h
    · exact List.mem_append_left _ h
    · exact List.mem_append_right _ (List.mem_cons_of_mem _ h)
  refine ⟨S.sub, fun c hc => S.own c (m c hc), fun c hc => S.fre c (m c hc), ?_⟩
  have nd := S.nd
  rw [List.map_append, List.nodup_append] at nd ⊢
  exact ⟨nd.1, (List.nodup_cons.mp nd.2.1).2, fun x hx y hy => nd.2.2 x hx y (List.mem_cons_of_mem _ hy)⟩
/-- an owned cell is frozen -/
theorem Sat.freeze (S : Sat K F (L0 ++ (a, oc) :: L1) H) (h : H a = some o) : Sat K (upd F a o) (L0 ++ L1) H := by
  have hF : F a = none := S.fre (a, oc) (by simp)
  have nd := S.nd
  have S2 := S.less
  have ne : ∀ c ∈ L0 ++ L1, c.1 ≠ a := fun c hc e => by
    rw [List.map_append, List.nodup_append] at nd
    rcases List.mem_append.mp hc with h | h
    · exact nd.2.2 c.1 (List.mem_map.mpr ⟨c, h, rfl⟩) a (by simp) e
    · exact (List.nodup_cons.mp nd.2.1).1 (List.mem_map.mpr ⟨c, h, e⟩)
  refine ⟨fun b u e => ?_, fun c hc => ?_, fun c hc => ?_, S2.nd⟩
  · by_cases hb : b = a
    · subst hb; rw [upd_same] at e; rw [h]; exact e
    · rw [upd_ne hb] at e; exact S.sub b u e
  · obtain ⟨u, hu, hr⟩ := S2.own c hc
    exact ⟨u, hu, hr.mono (same_new hF)⟩
  · rw [upd_ne (ne c hc)]; exact S2.fre c hc
end

/-! ### slots -/
abbrev Gm := List (Option Dt)
def EnvR (K : PySem.W.Frag) (F : Hp) (Γ : Gm) (σ : L2.St) : Prop := σ.length = Γ.length ∧ ∀ (i : Nat) d, Γ[i]? = some (some d) → ∃ v, σ[i]? = some (some v) ∧ Rep K F d v
section
variable {K : PySem.W.Frag} {F F' H H' : Hp} {Γ : Gm} {σ : L2.St}
theorem EnvR.mono (h : EnvR K F Γ σ) (e : Same F F') : EnvR K F' Γ σ := ⟨h.1, fun i d q => by
  obtain ⟨v, h1, h2⟩ := h.2 i d q
  exact ⟨v, h1, h2.mono e⟩⟩
theorem EnvR.set (h : EnvR K F Γ σ) {d : Dt} {v : V} (r : Rep K F d v) (j : Nat) : EnvR K F (Γ.set j (some d)) (σ.set j (some v)) := by
  refine ⟨by rw [List.length_set, List.length_set]; exact h.1, fun i d' q => ?_⟩
  by_cases hj : j = i
  · subst hj
    by_cases hl : j < Γ.length
    · rw [List.getElem?_set_self hl] at q
      cases q
      exact ⟨v, List.getElem?_set_self (by rw [h.1]; exact hl), r⟩
    · rw [List.getElem?_eq_none (by rw [List.length_set]; omega)] at q
      cases q
  · rw [List.getElem?_set_ne hj] at q ⊢
    exact h.2 i d' q
/-- fewer things known -/
theorem EnvR.weak (h : EnvR K F Γ σ) {Γ' : Gm} (hl : Γ'.length = Γ.length) (w : ∀ (i : Nat) d, Γ'[i]? = some (some d) → Γ[i]? = some (some d)) : EnvR K F Γ' σ := ⟨h.1.trans hl.symm, fun i d q => h.2 i d (w i d q)⟩
end
/-- the slot's value; the slots with one value more -/
inductive Ga : Gm → Nat → Dt → Prop where
  | h {d : Dt} {Γ : Gm} : Ga (some d :: Γ) 0 d
  | t {o : Option Dt} {d : Dt} {Γ : Gm} {j : Nat} : Ga Γ j d → Ga (o :: Γ) (j + 1) d
theorem Ga.get : ∀ {Γ : Gm} {j : Nat} {d : Dt}, Ga Γ j d → Γ[j]? = some (some d)
  | _, _, _, .h => rfl
  | _, _, _, .t g => by simpa using g.get
inductive Sa : Gm → Nat → Dt → Gm → Prop where
  | h {d : Dt} {o : Option Dt} {Γ : Gm} : Sa (o :: Γ) 0 d (some d :: Γ)
  | t {o : Option Dt} {d : Dt} {Γ Γ' : Gm} {j : Nat} : Sa Γ j d Γ' → Sa (o :: Γ) (j + 1) d (o :: Γ')
theorem Sa.set : ∀ {Γ : Gm} {j : Nat} {d : Dt} {Γ' : Gm}, Sa Γ j d Γ' → Γ.set j (some d) = Γ'
  | _, _, _, _, .h => rfl
  | _, _, _, _, .t g => by rw [List.set_cons_succ, g.set]

/-! ### exceptions by their class and fields -/
structure Exn where
  cls : Value
  fs : List (Str × Dt)
def ExR (K : PySem.W.Frag) (F : Hp) (cls : Value) (d : Option Addr) (n : Exn) : Prop :=
  cls = n.cls ∧ match d with
    | none => n.fs = []
    | some a => ∃ fv, F a = some (.xd fv) ∧ fv.map (·.1) = n.fs.map (·.1) ∧ Reps K F (n.fs.map (·.2)) (fv.map (·.2))
theorem ExR.mono {K : PySem.W.Frag} {F F' : Hp} (e : Same F F') {cls : Value} {d : Option Addr} {n : Exn} (h : ExR K F cls d n) : ExR K F' cls d n := by
  refine ⟨h.1, ?_⟩
  cases d with
  | none => exact h.2
  | some a =>
    obtain ⟨fv, h1, h2, h3⟩ := h.2
    exact ⟨fv, e _ _ h1, h2, h3.mono e⟩
abbrev XD := Exn → Cells → Prop
abbrev KD := Dt → Cells → Prop
abbrev KDs := List Dt → Cells → Prop
abbrev KB := Bool → Cells → Prop
def wishX (K : PySem.W.Frag) (F0 : Hp) (Ex : XD) : XK := fun cls d H => ∃ F L n, Same F0 F ∧ Sat K F L H ∧ ExR K F cls d n ∧ Ex n L
def Xok (X : Cx) (F0 : Hp) (Ex : XD) : Prop := Takes X (fun cls d _ H => wishX X.K F0 Ex cls d H)

/-! ### canonical readings -/
section
variable (X : Cx)
def cE (e : Expr) : TE := fun σ H Q => ∀ pins s, Inv X pins σ H s → wpAny (model X.prog X.w) X.A (eval e X.env) (EP X pins σ Q) X.xe s
def cT (e : Expr) : TT := fun σ H Q => ∀ pins s, Inv X pins σ H s → wpAny (model X.prog X.w) X.A (isTrue e X.env (eval e X.env)) (TP X pins σ Q) X.xe s
def cW (e : Expr) : TT := fun σ H Q => ∀ whole pins s, Inv X pins σ H s → wpAny (model X.prog X.w) X.A (isTrue e X.env whole) (TP X pins σ Q) X.xe s
def cA (es : List Expr) : TA := fun σ H Q => ∀ pos pins s, Inv X pins σ H s → wpAny (model X.prog X.w) X.A (spliced (backTo pos (starEach es X.env))) (AP X pins σ Q) X.xe s
def cS (st : Stmt) : TS := fun D σ H => ∀ pins s, Inv X pins σ H s → wpAny (model X.prog X.w) X.A (exec st X.env) (SP X pins D) X.xe s
def cSs (st : List Stmt) : TS := fun D σ H => ∀ pins s, Inv X pins σ H s → wpAny (model X.prog X.w) X.A (execs st X.env) (SP X pins D) X.xe s
end
section
variable {X : Cx} {e : Expr} {es : List Expr} {st : Stmt} {sts : List Stmt}
theorem pE : PE X e (cE X e) := ⟨fun pins s _ _ _ I h => h pins s I⟩
theorem pT : PT X e (cT X e) := ⟨fun pins s _ _ _ I h => h pins s I⟩
theorem pW : PW X e (cW X e) := ⟨fun whole pins s _ _ _ I h => h whole pins s I⟩
theorem pA : PA X es (cA X es) := ⟨fun pos pins s _ _ _ I h => h pos pins s I⟩
theorem pS : PS X st (cS X st) := ⟨fun pins s _ _ _ I h => h pins s I⟩
theorem pSs : PSs X sts (cSs X sts) := ⟨fun pins s _ _ _ I h => h pins s I⟩
theorem cE.of {t : TE} {σ : L2.St} {H : Hp} {Q : VK} (h : PE X e t) (q : t σ H Q) : cE X e σ H Q := fun pins s I => h.run pins s σ H Q I q
theorem cT.of {t : TT} {σ : L2.St} {H : Hp} {Q : Bool → Hp → Prop} (h : PT X e t) (q : t σ H Q) : cT X e σ H Q := fun pins s I => h.run pins s σ H Q I q
theorem cW.of {t : TT} {σ : L2.St} {H : Hp} {Q : Bool → Hp → Prop} (h : PW X e t) (q : t σ H Q) : cW X e σ H Q := fun whole pins s I => h.run whole pins s σ H Q I q
theorem cA.of {t : TA} {σ : L2.St} {H : Hp} {Q : List V → Hp → Prop} (h : PA X es t) (q : t σ H Q) : cA X es σ H Q := fun pos pins s I => h.run pos pins s σ H Q I q
theorem cS.of {t : TS} {σ : L2.St} {H : Hp} {D : Ends} (h : PS X st t) (q : t D σ H) : cS X st D σ H := fun pins s I => h.run pins s σ H D I q
theorem cSs.of {t : TS} {σ : L2.St} {H : Hp} {D : Ends} (h : PSs X sts t) (q : t D σ H) : cSs X sts D σ H := fun pins s I => h.run pins s σ H D I q
end

/-! ### weakest preconditions over data -/
structure Stt (K : PySem.W.Frag) (F : Hp) (Γ : Gm) (L : Cells) (σ : L2.St) (H : Hp) : Prop where
  sat : Sat K F L H
  env : EnvR K F Γ σ
def WE (X : Cx) (e : Expr) (Γ : Gm) (L : Cells) (Ex : XD) (Kk : KD) : Prop :=
  ∀ (F0 F : Hp) (σ : L2.St) (H : Hp) (Q : VK), Xok X F0 Ex → Same F0 F → Stt X.K F Γ L σ H →
    (∀ v H' F' d L', Same F F' → Sat X.K F' L' H' → Rep X.K F' d v → Kk d L' → Q v H') → cE X e σ H Q
def WT (X : Cx) (e : Expr) (Γ : Gm) (L : Cells) (Ex : XD) (Kk : KB) : Prop :=
  ∀ (F0 F : Hp) (σ : L2.St) (H : Hp) (Q : Bool → Hp → Prop), Xok X F0 Ex → Same F0 F → Stt X.K F Γ L σ H →
    (∀ b H' F' L', Same F F' → Sat X.K F' L' H' → Kk b L' → Q b H') → cT X e σ H Q
def WW (X : Cx) (e : Expr) (Γ : Gm) (L : Cells) (Ex : XD) (Kk : KB) : Prop :=
  ∀ (F0 F : Hp) (σ : L2.St) (H : Hp) (Q : Bool → Hp → Prop), Xok X F0 Ex → Same F0 F → Stt X.K F Γ L σ H →
    (∀ b H' F' L', Same F F' → Sat X.K F' L' H' → Kk b L' → Q b H') → cW X e σ H Q
def WA (X : Cx) (es : List Expr) (Γ : Gm) (L : Cells) (Ex : XD) (Kk : KDs) : Prop :=
  ∀ (F0 F : Hp) (σ : L2.St) (H : Hp) (Q : List V → Hp → Prop), Xok X F0 Ex → Same F0 F → Stt X.K F Γ L σ H →
    (∀ vs H' F' ds L', Same F F' → Sat X.K F' L' H' → Reps X.K F' ds vs → Kk ds L' → Q vs H') → cA X es σ H Q
structure En where
  nx : Gm → Cells → Prop
  rt : KD
  bk : Gm → Cells → Prop := fun _ _ => False
  ct : Gm → Cells → Prop := fun _ _ => False
/-- the same ends, another next -/
def En.seq (E : En) (f : Gm → Cells → Prop) : En := ⟨f, E.rt, E.bk, E.ct⟩
/-- the ends of a loop's body -/
def En.loop (E : En) (f : Gm → Cells → Prop) : En := ⟨f, E.rt, E.nx, f⟩
structure EnOk (K : PySem.W.Frag) (F : Hp) (En : En) (D : Ends) : Prop where
  nx : ∀ σ' H' F' Γ' L', Same F F' → Stt K F' Γ' L' σ' H' → En.nx Γ' L' → D.nx σ' H'
  rt : ∀ v H' F' d L', Same F F' → Sat K F' L' H' → Rep K F' d v → En.rt d L' → D.rt v H'
  bk : ∀ σ' H' F' Γ' L', Same F F' → Stt K F' Γ' L' σ' H' → En.bk Γ' L' → D.bk σ' H'
  ct : ∀ σ' H' F' Γ' L', Same F F' → Stt K F' Γ' L' σ' H' → En.ct Γ' L' → D.ct σ' H'
theorem EnOk.mono {K : PySem.W.Frag} {F F' : Hp} {En : En} {D : Ends} (h : EnOk K F En D) (e : Same F F') : EnOk K F' En D :=
  ⟨fun a b c d f g => h.nx a b c d f (e.trans g), fun a b c d f g => h.rt a b c d f (e.trans g), fun a b c d f g => h.bk a b c d f (e.trans g), fun a b c d f g => h.ct a b c d f (e.trans g)⟩
def WS (X : Cx) (st : Stmt) (Γ : Gm) (L : Cells) (Ex : XD) (En : En) : Prop :=
  ∀ (F0 F : Hp) (σ : L2.St) (H : Hp) (D : Ends), Xok X F0 Ex → Same F0 F → Stt X.K F Γ L σ H → EnOk X.K F En D → cS X st D σ H
def WSs (X : Cx) (st : List Stmt) (Γ : Gm) (L : Cells) (Ex : XD) (En : En) : Prop :=
  ∀ (F0 F : Hp) (σ : L2.St) (H : Hp) (D : Ends), Xok X F0 Ex → Same F0 F → Stt X.K F Γ L σ H → EnOk X.K F En D → cSs X st D σ H

section
variable {X : Cx} {Γ Γ' : Gm} {L L' : Cells} {Ex : XD} {K : KD} {a b e : Expr} {es : List Expr} {pos p : Pos}
/-! ### names, constants -/
theorem we_var {i : Nat} {x : Str} {d : Dt} (hN : X.N[i]? = some x) (hv : Vis X.env.scope x) (h1 : (x == ("__debug__" : Str)) = false) (h2 : (x == ("__classdict__" : Str)) = false) (g : Ga Γ i d) (k : K d L) : WE X (.Name x p) Γ L Ex K :=
  fun F0 F σ H Q xo s0 S q => by
    obtain ⟨v, hv', r⟩ := S.env.2 i d g.get
    exact cE.of (pe_var hN hv h1 h2) ⟨v, hv', q v H F d L (Same.refl F) S.sat r k⟩
/-- the name as a fact of the def: its slot -/
def Nm (X : Cx) (x : Str) (i : Nat) : Prop := X.N[i]? = some x ∧ Vis X.env.scope x ∧ (x == ("__debug__" : Str)) = false ∧ (x == ("__classdict__" : Str)) = false
theorem we_nm {i : Nat} {x : Str} {d : Dt} (n : Nm X x i) (g : Ga Γ i d) (k : K d L) : WE X (.Name x p) Γ L Ex K := we_var n.1 n.2.1 n.2.2.1 n.2.2.2 g k
theorem we_int {i : Int} {j : Nat} (k : K (.int i) L) : WE X (.Constant (.int i) j p) Γ L Ex K := fun F0 F σ H Q xo s0 S q => cE.of pe_int (q _ H F _ L (Same.refl F) S.sat (Rep.mkInt i) k)
theorem we_bl {i : Bool} {j : Nat} (k : K (.bl i) L) : WE X (.Constant (.bool i) j p) Γ L Ex K := fun F0 F σ H Q xo s0 S q => cE.of pe_bl (q _ H F _ L (Same.refl F) S.sat (Rep.mkBl i) k)
theorem we_str {i : Str} {j : Nat} (k : K (.str i) L) : WE X (.Constant (.str i) j p) Γ L Ex K := fun F0 F σ H Q xo s0 S q => cE.of pe_str (q _ H F _ L (Same.refl F) S.sat (Rep.mkStr i) k)
theorem we_non {j : Nat} (k : K .non L) : WE X (.Constant .none j p) Γ L Ex K := fun F0 F σ H Q xo s0 S q => cE.of pe_non (q _ H F _ L (Same.refl F) S.sat Rep.mkNon k)

/-! ### operators -/
abbrev R2D := Dt → Dt → Cells → KD → Prop
/-- an operator on values, told over data -/
def OpD (X : Cx) (f : Value → Value → Sem Value) (R : R2D) : Prop := ∃ r : R2, OpR X f r ∧ ∀ (F H : Hp) (L : Cells) (x y : Dt) (v w : V) (K : KD) (Q : VK), Sat X.K F L H → Rep X.K F x v → Rep X.K F y w → R x y L K →
  (∀ v' H' F' d L', Same F F' → Sat X.K F' L' H' → Rep X.K F' d v' → K d L' → Q v' H') → r v w H Q
theorem OpD.or {f : Value → Value → Sem Value} {R R' : R2D} (h : OpD X f R) (h' : OpD X f R') : OpD X f (fun x y L K => R x y L K ∨ R' x y L K) := by
  obtain ⟨r, h1, h2⟩ := h
  obtain ⟨r', h1', h2'⟩ := h'
  refine ⟨_, h1.or h1', fun F H L x y v w K Q S rx ry q k => ?_⟩
  rcases q with q | q
  · exact .inl (h2 F H L x y v w K Q S rx ry q k)
  · exact .inr (h2' F H L x y v w K Q S rx ry q k)
theorem we_bin {op : Operator} {R : R2D} (ho : OpD X (binaryOp op) R) (k : WE X a Γ L Ex fun x L1 => WE X b Γ L1 Ex fun y L2 => R x y L2 K) : WE X (.BinOp a op b p) Γ L Ex K := fun F0 F σ H Q xo s0 S q => by
  obtain ⟨r, h1, h2⟩ := ho
  refine cE.of (pe_op h1 pE pE) ?_
  refine k F0 F σ H _ xo s0 S fun v H1 F1 x L1 e1 S1 r1 k1 => ?_
  refine k1 F0 F1 σ H1 _ xo (s0.trans e1) ⟨S1, S.env.mono e1⟩ fun w H2 F2 y L2 e2 S2 r2 k2 => ?_
  exact h2 F2 H2 L2 x y v w K Q S2 (r1.mono e2) r2 k2 fun v' H' F' d L' e3 => q v' H' F' d L' ((e1.trans e2).trans e3)
theorem we_cmp {op : CmpOp} {R : R2D} (ho : OpD X (compareOp op) R) (k : WE X a Γ L Ex fun x L1 => WE X b Γ L1 Ex fun y L2 => R x y L2 K) (hm : behindInMarks op b = false := by first | exact nomark _ | rfl) : WE X (.Compare a [op] [b] p) Γ L Ex K := fun F0 F σ H Q xo s0 S q => by
  obtain ⟨r, h1, h2⟩ := ho
  refine cE.of (pe_cmpR h1 pE pE hm) ?_
  refine k F0 F σ H _ xo s0 S fun v H1 F1 x L1 e1 S1 r1 k1 => ?_
  refine k1 F0 F1 σ H1 _ xo (s0.trans e1) ⟨S1, S.env.mono e1⟩ fun w H2 F2 y L2 e2 S2 r2 k2 => ?_
  exact h2 F2 H2 L2 x y v w K Q S2 (r1.mono e2) r2 k2 fun v' H' F' d L' e3 => q v' H' F' d L' ((e1.trans e2).trans e3)
theorem we_cmp2 {op op' : CmpOp} {c : Expr} {R R' : R2D} (ho : OpD X (compareOp op) R) (ho' : OpD X (compareOp op') R') (k : WE X a Γ L Ex fun x L1 => WE X b Γ L1 Ex fun y L2 => R x y L2 fun z L3 => ∃ t, z = .bl t ∧ if t = true then WE X c Γ L3 Ex (fun u L4 => R' y u L4 K) else K (.bl false) L3)
    (hm : lastMarks [op, op'] [b, c] = false := by with_unfolding_all rfl) : WE X (.Compare a [op, op'] [b, c] p) Γ L Ex K := fun F0 F σ H Q xo s0 S q => by
  obtain ⟨r, h1, h2⟩ := ho
  obtain ⟨r', h1', h2'⟩ := ho'
  refine cE.of (pe_chain h1 h1' pE pE pE hm) ?_
  refine k F0 F σ H _ xo s0 S fun v H1 F1 x L1 e1 S1 r1 k1 => ?_
  refine k1 F0 F1 σ H1 _ xo (s0.trans e1) ⟨S1, S.env.mono e1⟩ fun w H2 F2 y L2 e2 S2 r2 k2 => ?_
  refine h2 F2 H2 L2 x y v w _ _ S2 (r1.mono e2) r2 k2 fun v' H3 F3 d L3 e3 S3 r3 k3 => ?_
  obtain ⟨t, rfl, k4⟩ := k3
  refine ⟨t, r3.bl, ?_⟩
  cases t with
  | false =>
    rw [if_neg Bool.false_ne_true] at k4 ⊢
    exact q _ H3 F3 _ L3 ((e1.trans e2).trans e3) S3 (Rep.mkBl _) k4
  | true =>
    rw [if_pos rfl] at k4 ⊢
    refine k4 F0 F3 σ H3 _ xo (((s0.trans e1).trans e2).trans e3) ⟨S3, S.env.mono ((e1.trans e2).trans e3)⟩ fun z H4 F4 u L4 e4 S4 r4 k5 => ?_
    exact h2' F4 H4 L4 y u w z K Q S4 (r2.mono (e3.trans e4)) r4 k5 fun v' H' F' d L' e5 => q v' H' F' d L' ((((e1.trans e2).trans e3).trans e4).trans e5)
theorem we_un {op : UnaryOp} {r : V → Hp → VK → Prop} {R : Dt → Cells → KD → Prop} (ho : UnR X (unaryOp op) r)
    (hr : ∀ (F H : Hp) (L : Cells) (x : Dt) (v : V) (K : KD) (Q : VK), Sat X.K F L H → Rep X.K F x v → R x L K → (∀ v' H' F' d L', Same F F' → Sat X.K F' L' H' → Rep X.K F' d v' → K d L' → Q v' H') → r v H Q)
    (k : WE X a Γ L Ex fun x L1 => R x L1 K) : WE X (.UnaryOp op a p) Γ L Ex K := fun F0 F σ H Q xo s0 S q => by
  refine cE.of (pe_un ho pE) ?_
  refine k F0 F σ H _ xo s0 S fun v H1 F1 x L1 e1 S1 r1 k1 => ?_
  exact hr F1 H1 L1 x v K Q S1 r1 k1 fun v' H' F' d L' e3 => q v' H' F' d L' (e1.trans e3)
end
end L3

namespace L3
open PySem PySem.Spec PyProof.Rows L2

theorem line_of {n : Nat} (h : n ≤ 1000000) : n ≤ sizeLine := Nat.le_trans h (by rw [sizeLine_eq]; decide)
theorem line_lt {n : Nat} (h : n < 1000000) : n < sizeLine := Nat.lt_of_lt_of_le h (by rw [sizeLine_eq]; decide)
/-! ### the operators on data -/
def rII (g : Int → Int → Dt) (C : Int → Int → Prop) : R2D := fun x y L K => ∃ i j, x = .int i ∧ y = .int j ∧ C i j ∧ K (g i j) L
abbrev T0 : Int → Int → Prop := fun _ _ => True
/-- + -/
def rPlus : R2D := fun x y L K => (∃ i j, x = .int i ∧ y = .int j ∧ K (.int (i + j)) L) ∨ (∃ a b, x = .str a ∧ y = .str b ∧ a.length + b.length ≤ 1000000 ∧ K (.str (a ++ b)) L) ∨
  (∃ xs ys, x = .lst xs ∧ y = .lst ys ∧ xs.length + ys.length ≤ 1000000 ∧ K (.lst (xs ++ ys)) L) ∨ (∃ xs ys, x = .tup xs ∧ y = .tup ys ∧ xs.length + ys.length ≤ 1000000 ∧ K (.tup (xs ++ ys)) L)
section
variable {X : Cx} {L : Cells} {K : KD}
theorem opD_I {f : Value → Value → Sem Value} {C : Int → Int → Prop} {g : Int → Int → V} {gd : Int → Int → Dt} (ho : OpR X f (rI C g)) (hg : ∀ F i j, Rep X.K F (gd i j) (g i j)) : OpD X f (rII gd C) :=
  ⟨_, ho, fun F H L x y v w K Q S rx ry ⟨i, j, e1, e2, hc, hk⟩ k => by
    subst e1 e2
    exact ⟨i, j, rx.int, ry.int, hc, k _ H F _ L (Same.refl F) S (hg F i j) hk⟩⟩
theorem opR_0 {f : Value → Value → Sem Value} {g : Int → Int → V} (ho : OpR X f (rI0 g)) : OpR X f (rI (fun _ _ => True) g) := fun pins s σ H x y v w Q I rx ry ⟨i, j, e1, e2, _, q⟩ => ho pins s σ H x y v w Q I rx ry ⟨i, j, e1, e2, q⟩
theorem d_sub : OpD X (binaryOp .Sub) (rII (fun i j => .int (i - j)) T0) := opD_I (opR_0 op_sub) fun _ _ _ => Rep.mkInt _
theorem d_mul : OpD X (binaryOp .Mult) (rII (fun i j => .int (i * j)) CMul) := opD_I op_mul fun _ _ _ => Rep.mkInt _
theorem d_fdiv : OpD X (binaryOp .FloorDiv) (rII (fun i j => .int (i / j)) CDiv) := opD_I op_fdiv fun _ _ _ => Rep.mkInt _
theorem d_mod : OpD X (binaryOp .Mod) (rII (fun i j => .int (i % j)) (fun _ j => 0 < j)) := opD_I op_mod fun _ _ _ => Rep.mkInt _
theorem d_pow : OpD X (binaryOp .Pow) (rII (fun i j => .int (i ^ j.toNat)) CPow) := opD_I op_pow fun _ _ _ => Rep.mkInt _
theorem d_lt : OpD X (compareOp .Lt) (rII (fun i j => .bl (decide (i < j))) T0) := opD_I (opR_0 op_lt) fun _ _ _ => Rep.mkBl _
theorem d_le : OpD X (compareOp .LtE) (rII (fun i j => .bl (decide (i ≤ j))) T0) := opD_I (opR_0 op_le) fun _ _ _ => Rep.mkBl _
theorem d_gt : OpD X (compareOp .Gt) (rII (fun i j => .bl (decide (j < i))) T0) := opD_I (opR_0 op_gt) fun _ _ _ => Rep.mkBl _
theorem d_ge : OpD X (compareOp .GtE) (rII (fun i j => .bl (decide (j ≤ i))) T0) := opD_I (opR_0 op_ge) fun _ _ _ => Rep.mkBl _
theorem rII0 {g : Int → Int → Dt} {i j : Int} (k : K (g i j) L) : rII g T0 (.int i) (.int j) L K := ⟨i, j, rfl, rfl, trivial, k⟩
theorem rIIc {g : Int → Int → Dt} {C : Int → Int → Prop} {i j : Int} (c : C i j) (k : K (g i j) L) : rII g C (.int i) (.int j) L K := ⟨i, j, rfl, rfl, c, k⟩
theorem d_plus : OpD X (binaryOp .Add) rPlus := by
  refine OpD.or ⟨_, op_add, ?_⟩ (OpD.or ⟨_, op_add_str, ?_⟩ (OpD.or ⟨_, op_cat, ?_⟩ ⟨_, op_catA, ?_⟩))
  · intro F H L x y v w K Q S rx ry ⟨i, j, e1, e2, hk⟩ k
    subst e1 e2
    exact ⟨i, j, rx.int, ry.int, k _ H F _ L (Same.refl F) S (Rep.mkInt _) hk⟩
  · intro F H L x y v w K Q S rx ry ⟨i, j, e1, e2, hc, hk⟩ k
    subst e1 e2
    exact ⟨i, j, rx.str, ry.str, line_of hc, k _ H F _ L (Same.refl F) S (Rep.mkStr _) hk⟩
  · intro F H L x y v w K Q S rx ry ⟨i, j, e1, e2, hc, hk⟩ k
    subst e1 e2
    obtain ⟨a, vs, rfl, h1, r1⟩ := rx.lst
    obtain ⟨b, ws, rfl, h2, r2⟩ := ry.lst
    rw [r1.length, r2.length] at hc
    refine ⟨a, b, vs, ws, rfl, rfl, S.sub _ _ h1, S.sub _ _ h2, line_of hc, fun p hp => ?_⟩
    have hF := none_back S.sub hp
    exact k _ _ _ _ L (same_new hF) (S.newF hp) (Rep.mkLst upd_same ((r1.append r2).mono (same_new hF))) hk
  · intro F H L x y v w K Q S rx ry ⟨i, j, e1, e2, hc, hk⟩ k
    subst e1 e2
    obtain ⟨a, vs, rfl, h1, r1⟩ := rx.tup
    obtain ⟨b, ws, rfl, h2, r2⟩ := ry.tup
    rw [r1.length, r2.length] at hc
    have ra := r1.append r2
    refine ⟨a, b, vs, ws, rfl, rfl, same_t S.sub h1, same_t S.sub h2, line_of hc, fun e => ?_, fun _ e => ?_, fun _ _ p hp => ?_⟩
    · subst e
      rw [List.nil_append] at ra
      exact k _ H F _ L (Same.refl F) S (Rep.mkTup h2 ra) hk
    · subst e
      rw [List.append_nil] at ra
      exact k _ H F _ L (Same.refl F) S (Rep.mkTup h1 ra) hk
    · have hF := none_back S.sub hp
      exact k _ _ _ _ L (same_new hF) (S.newF hp) (Rep.mkTup (SqT.of upd_same) (ra.mono (same_new hF))) hk
theorem plus_int {i j : Int} (k : K (.int (i + j)) L) : rPlus (.int i) (.int j) L K := .inl ⟨i, j, rfl, rfl, k⟩
theorem plus_str {i j : Str} (h : i.length + j.length ≤ 1000000) (k : K (.str (i ++ j)) L) : rPlus (.str i) (.str j) L K := .inr (.inl ⟨i, j, rfl, rfl, h, k⟩)
theorem plus_lst {i j : List Dt} (h : i.length + j.length ≤ 1000000) (k : K (.lst (i ++ j)) L) : rPlus (.lst i) (.lst j) L K := .inr (.inr (.inl ⟨i, j, rfl, rfl, h, k⟩))
theorem plus_tup {i j : List Dt} (h : i.length + j.length ≤ 1000000) (k : K (.tup (i ++ j)) L) : rPlus (.tup i) (.tup j) L K := .inr (.inr (.inr ⟨i, j, rfl, rfl, h, k⟩))
end

/-! ### data as PyData: ==, in -/
mutual
def Dt.py : Dt → Option PyData
  | .non => some .none
  | .bl b => some (.bool b)
  | .int i => some (.int i)
  | .str x => some (.str x)
  | .ref _ => none
  | .ty _ => none
  | .lst ds => (Dt.pys ds).map .list
  | .rdl ds => (Dt.pys ds).map .list
  | .tup ds => (Dt.pys ds).map .tuple
  | .ins _ _ _ => none
def Dt.pys : List Dt → Option (List PyData)
  | [] => some []
  | d :: ds => match d.py, Dt.pys ds with
    | some a, some b => some (a :: b)
    | _, _ => none
end
mutual
theorem Rep.dp {K : PySem.W.Frag} {F : Hp} : ∀ (d : Dt) {v : V} {p : PyData}, Rep K F d v → d.py = some p → Dp K F v p
  | .non, v, p, r, e => by rw [r.non]; simp only [Dt.py, Option.some.injEq] at e; subst e; exact .non
  | .bl b, v, p, r, e => by rw [r.bl]; simp only [Dt.py, Option.some.injEq] at e; subst e; exact .bl b
  | .int i, v, p, r, e => by rw [r.int]; simp only [Dt.py, Option.some.injEq] at e; subst e; exact .int i
  | .str x, v, p, r, e => by rw [r.str]; simp only [Dt.py, Option.some.injEq] at e; subst e; exact .str x
  | .ref a, v, p, r, e => by simp only [Dt.py] at e; cases e
  | .ty a, v, p, r, e => by simp only [Dt.py] at e; cases e
  | .ins C fs xs, v, p, r, e => by simp only [Dt.py] at e; cases e
  | .lst ds, v, p, r, e => by
    obtain ⟨a, vs, rfl, h, rs⟩ := r.lst
    simp only [Dt.py, Option.map_eq_some_iff] at e
    obtain ⟨ps, e1, rfl⟩ := e
    exact .lst (SqL.of h) (Reps.dp ds rs e1)
  | .rdl ds, v, p, r, e => by
    obtain ⟨a, vs, rfl, h, rs⟩ := r.rdl
    simp only [Dt.py, Option.map_eq_some_iff] at e
    obtain ⟨ps, e1, rfl⟩ := e
    exact .lst h (Reps.dp ds rs e1)
  | .tup ds, v, p, r, e => by
    obtain ⟨a, vs, rfl, h, rs⟩ := r.tup
    simp only [Dt.py, Option.map_eq_some_iff] at e
    obtain ⟨ps, e1, rfl⟩ := e
    exact .tup h (Reps.dp ds rs e1)
theorem Reps.dp {K : PySem.W.Frag} {F : Hp} : ∀ (ds : List Dt) {vs : List V} {ps : List PyData}, Reps K F ds vs → Dt.pys ds = some ps → DpAll K F vs ps
  | [], vs, ps, r, e => by rw [r.nil_inv]; simp only [Dt.pys, Option.some.injEq] at e; subst e; exact .nil
  | d :: ds, vs, ps, r, e => by
    obtain ⟨v, t, rfl, h1, h2⟩ := r.cons_inv
    simp only [Dt.pys] at e
    split at e
    · rename_i a b ea eb
      cases e
      exact .cons (Rep.dp d h1 ea) (Reps.dp ds h2 eb)
    · cases e
end
mutual
theorem Dp.same {K : PySem.W.Frag} {F F' : Hp} (e : Same F F') : ∀ (p : PyData) {v : V}, Dp K F v p → Dp K F' v p
  | .none, v, h => by cases h; exact .non
  | .bool b, v, h => by cases h; exact .bl b
  | .int i, v, h => by cases h; exact .int i
  | .str s, v, h => by cases h; exact .str s
  | .list xs, v, h => by cases h with | lst h1 h2 => exact .lst (same_l e h1) (DpAll.same e xs h2)
  | .tuple xs, v, h => by cases h with | tup h1 h2 => exact .tup (same_t e h1) (DpAll.same e xs h2)
  | .dict xs, v, h => by cases h
theorem DpAll.same {K : PySem.W.Frag} {F F' : Hp} (e : Same F F') : ∀ (p : List PyData) {v : List V}, DpAll K F v p → DpAll K F' v p
  | [], v, h => by cases h; exact .nil
  | d :: ds, v, h => by cases h with | cons h1 h2 => exact .cons (Dp.same e d h1) (DpAll.same e ds h2)
end
section
variable {X : Cx} {L : Cells} {K : KD}
/-- == and != of data -/
def rEqs (neg : Bool) : R2D := fun x y L K => ∃ p q, x.py = some p ∧ y.py = some q ∧ SeqAt.shaped p = true ∧ SeqAt.shaped q = true ∧ K (.bl (if neg then !p.eqv q else p.eqv q)) L
theorem d_eqD (hu : X.A.units + 64 < cLine) : OpD X (compareOp .Eq) (rEqs false) := ⟨_, op_eqD hu, fun F H L x y v w K Q S rx ry ⟨p, q, e1, e2, s1, s2, hk⟩ k =>
  ⟨p, q, Dp.same S.sub p (rx.dp x e1), Dp.same S.sub q (ry.dp y e2), s1, s2, k _ H F _ L (Same.refl F) S (Rep.mkBl _) hk⟩⟩
theorem d_neD (hu : X.A.units + 64 < cLine) : OpD X (compareOp .NotEq) (rEqs true) := ⟨_, op_neD hu, fun F H L x y v w K Q S rx ry ⟨p, q, e1, e2, s1, s2, hk⟩ k =>
  ⟨p, q, Dp.same S.sub p (rx.dp x e1), Dp.same S.sub q (ry.dp y e2), s1, s2, k _ H F _ L (Same.refl F) S (Rep.mkBl _) hk⟩⟩
/-- flat things -/
def scalD : Dt → Dt → Bool → Prop := fun x y t => (∃ i j, x = .int i ∧ y = .int j ∧ t = decide (i = j)) ∨ (∃ i j, x = .str i ∧ y = .str j ∧ t = decide (i = j)) ∨ (∃ i j, x = .bl i ∧ y = .bl j ∧ t = decide (i = j)) ∨ (∃ i, x = .non ∧ y = .int i ∧ t = false) ∨ (∃ i, x = .int i ∧ y = .non ∧ t = false) ∨
  (∃ i, x = .non ∧ y = .str i ∧ t = false) ∨ (∃ i, x = .str i ∧ y = .non ∧ t = false) ∨ (∃ i j, x = .int i ∧ y = .str j ∧ t = false) ∨ (∃ i j, x = .str i ∧ y = .int j ∧ t = false) ∨ (x = .non ∧ y = .non ∧ t = true)
theorem scalD_ok {K : PySem.W.Frag} {F : Hp} {x y : Dt} {t : Bool} {v w : V} (h : scalD x y t) (rx : Rep K F x v) (ry : Rep K F y w) : L2.scal v w = true ∧ decide (v = w) = t := by
  rcases h with ⟨i, j, rfl, rfl, rfl⟩ | ⟨i, j, rfl, rfl, rfl⟩ | ⟨i, j, rfl, rfl, rfl⟩ | ⟨i, rfl, rfl, rfl⟩ | ⟨i, rfl, rfl, rfl⟩ | ⟨i, rfl, rfl, rfl⟩ | ⟨i, rfl, rfl, rfl⟩ | ⟨i, j, rfl, rfl, rfl⟩ | ⟨i, j, rfl, rfl, rfl⟩ | ⟨rfl, rfl, rfl⟩
  · cases rx.int; cases ry.int; exact ⟨rfl, by simp⟩
  · cases rx.str; cases ry.str; exact ⟨rfl, by simp⟩
  · cases rx.bl; cases ry.bl; exact ⟨rfl, by simp⟩
  · cases rx.non; cases ry.int; exact ⟨rfl, by simp⟩
  · cases rx.int; cases ry.non; exact ⟨rfl, by simp⟩
  · cases rx.non; cases ry.str; exact ⟨rfl, by simp⟩
  · cases rx.str; cases ry.non; exact ⟨rfl, by simp⟩
  · cases rx.int; cases ry.str; exact ⟨rfl, by simp⟩
  · cases rx.str; cases ry.int; exact ⟨rfl, by simp⟩
  · cases rx.non; cases ry.non; exact ⟨rfl, by simp⟩
def rEqF (neg : Bool) : R2D := fun x y L K => ∃ t, scalD x y t ∧ K (.bl (if neg then !t else t)) L
theorem d_eq : OpD X (compareOp .Eq) (rEqF false) := ⟨_, op_eq, fun F H L x y v w K Q S rx ry ⟨t, h, hk⟩ k => by
  obtain ⟨h1, h2⟩ := scalD_ok h rx ry
  refine ⟨h1, ?_⟩
  rw [h2]
  exact k _ H F _ L (Same.refl F) S (Rep.mkBl _) hk⟩
theorem d_ne : OpD X (compareOp .NotEq) (rEqF true) := ⟨_, op_ne, fun F H L x y v w K Q S rx ry ⟨t, h, hk⟩ k => by
  obtain ⟨h1, h2⟩ := scalD_ok h rx ry
  refine ⟨h1, ?_⟩
  rw [h2]
  exact k _ H F _ L (Same.refl F) S (Rep.mkBl _) hk⟩
theorem eq_int {i j : Int} (k : K (.bl (decide (i = j))) L) : rEqF false (.int i) (.int j) L K := ⟨_, .inl ⟨i, j, rfl, rfl, rfl⟩, k⟩
theorem eq_str {i j : Str} (k : K (.bl (decide (i = j))) L) : rEqF false (.str i) (.str j) L K := ⟨_, .inr (.inl ⟨i, j, rfl, rfl, rfl⟩), k⟩
theorem eq_bl {i j : Bool} (k : K (.bl (decide (i = j))) L) : rEqF false (.bl i) (.bl j) L K := ⟨_, .inr (.inr (.inl ⟨i, j, rfl, rfl, rfl⟩)), k⟩
theorem ne_int {i j : Int} (k : K (.bl (!decide (i = j))) L) : rEqF true (.int i) (.int j) L K := ⟨_, .inl ⟨i, j, rfl, rfl, rfl⟩, k⟩
theorem ne_str {i j : Str} (k : K (.bl (!decide (i = j))) L) : rEqF true (.str i) (.str j) L K := ⟨_, .inr (.inl ⟨i, j, rfl, rfl, rfl⟩), k⟩
theorem ne_bl {i j : Bool} (k : K (.bl (!decide (i = j))) L) : rEqF true (.bl i) (.bl j) L K := ⟨_, .inr (.inr (.inl ⟨i, j, rfl, rfl, rfl⟩)), k⟩
end
end L3

namespace L3
open PySem PySem.Spec PyProof.Rows L2

/-! ### what a def promises, told over data -/
abbrev TSp := List Dt → Cells → XD → KD → Prop
def lift (K : PySem.W.Frag) (sp : TSp) : Sp := fun vs H Q E => ∃ F L ds Ex Kk, Sat K F L H ∧ Reps K F ds vs ∧ sp ds L Ex Kk ∧
  (∀ v H' F' d L', Same F F' → Sat K F' L' H' → Rep K F' d v → Kk d L' → Q v H') ∧ ∀ cls dd H', wishX K F Ex cls dd H' → E cls dd H'
/-- room for k calls, nothing shown meanwhile -/
structure Rm (k : Nat) (A : Around) : Prop where
  room : Room k A
  gd : A.guards = some []
theorem Rm.mono {j k : Nat} {A : Around} (r : Rm k A) (h : j ≤ k) : Rm j A := ⟨r.room.mono h, r.gd⟩
section
variable (P : Program) (w : World) (K : PySem.W.Frag) (mg : Str → Option Value) (base : Heap)
/-- by positional values -/
def FnG (k : Nat) (f : Addr) (sp : TSp) : Prop := ∀ (A : Around) (outer : List Env) (s : Shared) (H : Hp) (us : List Value) (vs : List V) (Q : VK) (E : XK), Rm k A → Env0 P w K mg base A outer s H → Vals vs us → lift K sp vs H Q E →
  codeAny (model P w) A (.call (.ref f) ⟨us, []⟩) (CR (L2.CX P w) outer P w H s Q E) s
/-- by parameters -/
def FnB (k : Nat) (f : Addr) (fd : FuncData) (ps : List Str) (sp : TSp) : Prop := ∀ (A : Around) (outer : List Env) (s : Shared) (H : Hp) (args : Args) (us : List Value) (vs : List V) (Q : VK) (E : XK), Rm k A → Env0 P w K mg base A outer s H →
  BindsTo s fd args (ps.zip us) → Vals vs us → vs.length = ps.length → lift K sp vs H Q E → codeAny (model P w) A (.call (.ref f) args) (CR (L2.CX P w) outer P w H s Q E) s
end
section
variable {P : Program} {w : World} {K : PySem.W.Frag} {mg : Str → Option Value} {base : Heap} {k j : Nat} {f : Addr} {fd : FuncData} {ps : List Str} {sp sp' : TSp}
theorem FnG.mono (F : FnG P w K mg base j f sp) (h : j ≤ k) : FnG P w K mg base k f sp := fun A outer s H us vs Q E hr => F A outer s H us vs Q E (hr.mono h)
theorem FnB.mono (F : FnB P w K mg base j f fd ps sp) (h : j ≤ k) : FnB P w K mg base k f fd ps sp := fun A outer s H ar us vs Q E hr => F A outer s H ar us vs Q E (hr.mono h)
theorem FnG.imp (F : FnG P w K mg base k f sp) (h : ∀ ds L Ex Kk, sp' ds L Ex Kk → sp ds L Ex Kk) : FnG P w K mg base k f sp' := fun A outer s H us vs Q E hr e0 r ⟨F1, L, ds, Ex, Kk, S, rs, q, k1, k2⟩ =>
  F A outer s H us vs Q E hr e0 r ⟨F1, L, ds, Ex, Kk, S, rs, h _ _ _ _ q, k1, k2⟩
theorem FnB.imp (F : FnB P w K mg base k f fd ps sp) (h : ∀ ds L Ex Kk, sp' ds L Ex Kk → sp ds L Ex Kk) : FnB P w K mg base k f fd ps sp' := fun A outer s H ar us vs Q E hr e0 b r l ⟨F1, L, ds, Ex, Kk, S, rs, q, k1, k2⟩ =>
  F A outer s H ar us vs Q E hr e0 b r l ⟨F1, L, ds, Ex, Kk, S, rs, h _ _ _ _ q, k1, k2⟩
/-- written values, then defaults dd -/
theorem FnB.pos {bs : List Value} {dvs : List V} {dd : List Dt} (F : FnB P w K mg base k f fd ps sp) (hb : Binds K fd ps bs) (hd : Vals dvs bs) (hr : ∀ F0, Reps K F0 dd dvs) (n : Nat) (hn : n + dd.length = ps.length) :
    FnG P w K mg base k f (fun ds L Ex Kk => ds.length = n ∧ sp (ds ++ dd) L Ex Kk) := fun A outer s H us vs Q E rm e0 r ⟨F1, L, ds, Ex, Kk, S, rs, ⟨hl, q⟩, k1, k2⟩ => by
  have r2 : Vals (vs ++ dvs) (us ++ bs) := r.append hd
  have l1 : (vs ++ dvs).length = ps.length := by
    rw [List.length_append, ← rs.length, ← (hr F1).length, hl, hn]
  have l2 : (us ++ bs).length = ps.length := by rw [← r2.length]; exact l1
  exact F A outer s H ⟨us, []⟩ (us ++ bs) (vs ++ dvs) Q E rm e0 (hb s us (e0.mod.kin.keeps fun b o e => (e0.bs b o e).1) l2) r2 l1 ⟨F1, L, ds ++ dd, Ex, Kk, S, rs.append (hr F1), q, k1, k2⟩
theorem FnB.pos0 (F : FnB P w K mg base k f fd ps sp) (hb : Binds K fd ps []) : FnG P w K mg base k f (fun ds L Ex Kk => ds.length = ps.length ∧ sp ds L Ex Kk) := by
  have z := F.pos (dvs := []) (dd := []) hb .nil (fun _ => .nil) ps.length (by simp)
  exact z.imp fun ds L Ex Kk q => by rw [List.append_nil]; exact q
end

/-! ### a def's body keeps its promise -/
/-- the context of a def's body -/
abbrev cxD (P : Program) (w : World) (K : PySem.W.Frag) (mg : Str → Option Value) (base : Heap) (N : List Str) (qual : Str) (scope : Scope) (f : Addr) (cdv : Value) (A : Around) (outer : List Env) (s : Shared) (H : Hp) (E : XK) : Cx :=
  cxOf (L2.CX P w) P w K mg base N qual scope f cdv A outer s H E
/-- the slots at the entry -/
def gIn (N : List Str) (ds : List Dt) : Gm := ds.map some ++ List.replicate (N.length - ds.length) none
theorem envR_start {K : PySem.W.Frag} {F : Hp} {N : List Str} {ds : List Dt} {vs : List V} (r : Reps K F ds vs) : EnvR K F (gIn N ds) (L2.start N vs) := by
  have hl := r.length
  refine ⟨by unfold gIn L2.start; simp [hl], fun i d q => ?_⟩
  unfold gIn at q
  by_cases hi : i < ds.length
  · rw [List.getElem?_append_left (by simpa using hi), List.getElem?_map] at q
    cases e : ds[i]? with
    | none => rw [e] at q; cases q
    | some d' =>
      rw [e] at q
      have e2 : d' = d := by simpa using q
      subst e2
      obtain ⟨v, hv, rv⟩ := r.get e
      refine ⟨v, ?_, rv⟩
      unfold L2.start
      rw [List.getElem?_append_left (by simp only [List.length_map]; omega), List.getElem?_map, hv]
      rfl
  · rw [List.getElem?_append_right (by simpa using hi)] at q
    rw [List.getElem?_replicate] at q
    split at q
    · cases q
    · cases q
section
variable {P : Program} {w : World} {K : PySem.W.Frag} {mg : Str → Option Value} {base : Heap} {k : Nat} {f : Addr} {name qual : Str} {params : Arguments} {body : List Stmt} {scope : Scope} {dvs : List V} {kws : List (Str × V)} {fd : FuncData} {N ps : List Str} {sp : TSp}
theorem xok_def {cdv : Value} {A : Around} {outer : List Env} {s : Shared} {H : Hp} {E : XK} {F : Hp} {Ex : XD} (h : ∀ cls dd H', wishX K F Ex cls dd H' → E cls dd H') : Xok (cxD P w K mg base N qual scope f cdv A outer s H E) F Ex :=
  (takes_of (E := E) rfl rfl rfl rfl).imp fun c d σ H' q => h c d H' q
/-- THE RULE for a def -/
theorem fn_body (Fd : FunD K name qual params body scope dvs kws f fd) (S : FnScope N ps scope)
    (hbody : ∀ (cdv : Value) (A : Around) (outer : List Env) (s : Shared) (H : Hp) (E : XK), Rm k (cxD P w K mg base N qual scope f cdv A outer s H E).A → ∀ (ds : List Dt) (L : Cells) (Ex : XD) (Kk : KD), ds.length = ps.length → sp ds L Ex Kk →
      WSs (cxD P w K mg base N qual scope f cdv A outer s H E) body (gIn N ds) L Ex { nx := fun _ L' => Kk .non L', rt := Kk }) : FnB P w K mg base (k + 1) f fd ps sp := by
  obtain ⟨oc, od, dV, kV, doc, pm, an, cdv, ct, osl, rfl, lk, hcd, _, _⟩ := Fd.ex
  intro A outer s H args us vs Q E rm e0 hb r hl ⟨F1, L, ds, Ex, Kk, Sa, rs, q, k1, k2⟩
  refine StX.run_bnd lk hcd S rm.room e0 (G := fun xs H2 => xs = vs ∧ H2 = H) (fun A' Ex' Q' h => ?_) fun s2 H2 xs hx hr' => ?_
  · exact hb _ _ _ _ (h s H vs us e0 Un.refl rfl (fun _ _ z => z) r hl ⟨rfl, rfl⟩)
  · obtain ⟨rfl, rfl⟩ := hx
    refine ⟨_, pSs, ?_⟩
    refine hbody cdv A outer s2 H2 E ⟨hr', rm.gd⟩ ds L Ex Kk (by rw [rs.length]; exact hl) q F1 F1 _ _ _ (xok_def k2) (Same.refl F1) ⟨Sa, envR_start rs⟩ ⟨fun σ' H' F' Γ' L' e S' kk => ?_, fun v H' F' d L' e S' r' kk => k1 v H' F' d L' e S' r' kk, fun _ _ _ _ _ _ _ z => z.elim, fun _ _ _ _ _ _ _ z => z.elim⟩
    exact k1 .non H' F' .non L' e S'.sat Rep.mkNon kk
end

/-! ### arguments -/
section
variable {X : Cx} {Γ : Gm} {L : Cells} {Ex : XD} {K : KD} {e o : Expr} {es : List Expr} {pos p apos : Pos}
theorem wa_nil {Ks : KDs} (k : Ks [] L) : WA X [] Γ L Ex Ks := fun F0 F σ H Q xo s0 S q => cA.of pa_nil (q [] H F [] L (Same.refl F) S.sat .nil k)
theorem wa_cons {Ks : KDs} (k : WE X e Γ L Ex fun d L1 => WA X es Γ L1 Ex fun ds L2 => Ks (d :: ds) L2) (hs : starEach (e :: es) X.env = (false, eval e X.env) :: starEach es X.env := by rfl) : WA X (e :: es) Γ L Ex Ks := fun F0 F σ H Q xo s0 S q => by
  refine cA.of (pa_cons pE pA hs) ?_
  refine k F0 F σ H _ xo s0 S fun v H1 F1 x L1 e1 S1 r1 k1 => ?_
  refine k1 F0 F1 σ H1 _ xo (s0.trans e1) ⟨S1, S.env.mono e1⟩ fun ws H2 F2 ys L2 e2 S2 r2 k2 => ?_
  exact q _ H2 F2 _ L2 (e1.trans e2) S2 (.cons (r1.mono e2) r2) k2
/-- *e -/
theorem wa_star {Ks : KDs} {p' : Pos} (k : WE X e Γ L Ex fun d L1 => ∃ xs, (d = .lst xs ∨ d = .tup xs) ∧ WA X es Γ L1 Ex fun ds L2 => Ks (xs ++ ds) L2) (hs : starEach (.Starred e p' :: es) X.env = (true, eval e X.env) :: starEach es X.env := by rfl) : WA X (.Starred e p' :: es) Γ L Ex Ks := fun F0 F σ H Q xo s0 S q => by
  refine cA.of (StX.pa_star pE pA hs) ?_
  refine k F0 F σ H _ xo s0 S fun v H1 F1 x L1 e1 S1 r1 ⟨xs, hx, k1⟩ => ?_
  have fin : ∀ vs, Reps X.K F1 xs vs → cA X es σ H1 fun ys H2 => Q (vs ++ ys) H2 := fun vs rv => k1 F0 F1 σ H1 _ xo (s0.trans e1) ⟨S1, S.env.mono e1⟩ fun ws H2 F2 ys L2 e2 S2 r2 k2 =>
    q _ H2 F2 _ L2 (e1.trans e2) S2 ((rv.mono e2).append r2) k2
  rcases hx with rfl | rfl
  · obtain ⟨a, vs, rfl, h1, rv⟩ := r1.lst
    exact ⟨a, vs, rfl, .inr (SqL.of (S1.sub _ _ h1)), fin vs rv⟩
  · obtain ⟨a, vs, rfl, h1, rv⟩ := r1.tup
    exact ⟨a, vs, rfl, .inl (same_t S1.sub h1), fin vs rv⟩

/-! ### displays -/
theorem we_tup {x1} (k : WA X es Γ L Ex fun ds L1 => ds.length ≤ 1000000 ∧ K (.tup ds) L1) : WE X (.Tuple es x1 pos) Γ L Ex K := fun F0 F σ H Q xo s0 S q => by
  refine cE.of (pe_tup pA) ?_
  refine k F0 F σ H _ xo s0 S fun vs H1 F1 ds L1 e1 S1 r1 ⟨hl, k1⟩ => ⟨line_of (by rw [← r1.length]; exact hl), fun p hp => ?_⟩
  have hF := none_back S1.sub hp
  exact q _ _ _ _ L1 (e1.trans (same_new hF)) (S1.newF hp) (Rep.mkTup (SqT.of upd_same) (r1.mono (same_new hF))) k1
theorem we_lst (k : WA X es Γ L Ex fun ds L1 => ds.length ≤ 1000000 ∧ K (.lst ds) L1) : WE X (.List es pos) Γ L Ex K := fun F0 F σ H Q xo s0 S q => by
  refine cE.of (pe_lst pA) ?_
  refine k F0 F σ H _ xo s0 S fun vs H1 F1 ds L1 e1 S1 r1 ⟨hl, k1⟩ => ⟨line_of (by rw [← r1.length]; exact hl), fun p hp => ?_⟩
  have hF := none_back S1.sub hp
  exact q _ _ _ _ L1 (e1.trans (same_new hF)) (S1.newF hp) (Rep.mkLst upd_same (r1.mono (same_new hF))) k1
/-- a list of one's own, to be changed -/
theorem we_lstO (k : WA X es Γ L Ex fun ds L1 => ds.length ≤ 1000000 ∧ ∀ a, K (.ref a) ((a, .lst ds) :: L1)) : WE X (.List es pos) Γ L Ex K := fun F0 F σ H Q xo s0 S q => by
  refine cE.of (pe_lst pA) ?_
  refine k F0 F σ H _ xo s0 S fun vs H1 F1 ds L1 e1 S1 r1 ⟨hl, k1⟩ => ⟨line_of (by rw [← r1.length]; exact hl), fun p hp => ?_⟩
  exact q _ _ _ _ _ e1 (S1.new (oc := .lst ds) hp ⟨vs, rfl, r1⟩) (Rep.mkRef p) (k1 p)

/-! ### calls -/
variable {k j : Nat} {f C g : Addr} {x m : Str} {sp : TSp}
theorem run_G {pins : List (Addr × Obj)} {σ : L2.St} {H F0 F : Hp} {s : Shared} {Q : VK} {us : List Value} {vs : List V} {ds : List Dt} (Fn : FnG X.prog X.w X.K X.mg X.base k f sp) (rm : Rm k X.A) (xo : Xok X F0 Ex) (s0 : Same F0 F) (I : Inv X pins σ H s) (r : Vals vs us)
    (S : Sat X.K F L H) (rs : Reps X.K F ds vs) (h : sp ds L Ex K) (q : ∀ v H' F' d L', Same F F' → Sat X.K F' L' H' → Rep X.K F' d v → K d L' → Q v H') :
    codeAny (model X.prog X.w) X.A (.call (.ref f) ⟨us, []⟩) (fun r s' => match r with | .ok (.ret v) => EP X pins σ Q v s' | .ok _ => False | .error e => X.xe e s') s := by
  refine codeAny_mono (Fn X.A X.stack s H us vs Q (wishX X.K F0 Ex) rm I.env0 r ⟨F, L, ds, Ex, K, S, rs, h, q, fun cls dd H' ⟨F', L', n, a, b, c, d⟩ => ⟨F', L', n, s0.trans a, b, c, d⟩⟩) fun res s' hq => ?_
  cases res with
  | error e => exact passes_call xo (fun _ _ _ _ z => z) pins σ H s e s' I hq
  | ok fl =>
    cases fl with
    | ret u => exact I.after hq
    | next => exact False.elim hq
    | brk => exact False.elim hq
    | cont => exact False.elim hq
/-- a def of the module: what calls of its name promise -/
structure Cl (P : Program) (w : World) (K : PySem.W.Frag) (mg : Str → Option Value) (base : Heap) (k : Nat) (x : Str) (sp : TSp) : Prop where
  ex : ∃ f : Addr, FnG P w K mg base k f sp ∧ mg x = some (.ref f) ∧ PySem.W.keepIn K (.ref f) = true
  hd : (x == ("__debug__" : Str)) = false
/-- f(e, ..) -/
theorem we_call (c : Cl X.prog X.w X.K X.mg X.base k x sp) (rm : Rm j X.A) (hk : k ≤ j) (hg : Gl X x) (ka : WA X (e :: es) Γ L Ex fun ds L1 => sp ds L1 Ex K)
    (he : starEach (e :: es) X.env = (false, eval e X.env) :: starEach es X.env := by rfl) (hpl : (backTo pos (starEach es X.env)).any (·.1) = false := by rfl) : WE X (.Call (.Name x p) (e :: es) [] pos) Γ L Ex K := fun F0 F σ H Q xo s0 S q pins s I => by
  obtain ⟨f, Fn, hm, kp⟩ := c.ex
  refine wpAny_Call_Name_kw (ld_glob I hg hm ?_ c.hd)
  have z : cA X (e :: es) σ H fun vs H1 => ∃ F1 ds L1, Same F F1 ∧ Sat X.K F1 L1 H1 ∧ Reps X.K F1 ds vs ∧ sp ds L1 Ex K := ka F0 F σ H _ xo s0 S fun vs H1 F1 ds L1 e1 S1 r1 k1 => ⟨F1, ds, L1, e1, S1, r1, k1⟩
  refine PySem.W.callWith_K (h₀ := X.base) I.ok.mod.kin kp (thn (z pos pins s I) fun us s1 ⟨vs, H1, I1, rv, F1, ds, L1, e1, S1, r1, k1⟩ => ⟨I1.kIn, ?_⟩) he hpl
  exact wpAny_call (run_G Fn (rm.mono hk) xo (s0.trans e1) I1 rv S1 r1 k1 fun v H' F' d L' e2 => q v H' F' d L' (e1.trans e2))
theorem we_call0 (c : Cl X.prog X.w X.K X.mg X.base k x sp) (rm : Rm j X.A) (hk : k ≤ j) (hg : Gl X x) (ka : sp [] L Ex K) : WE X (.Call (.Name x p) [] [] pos) Γ L Ex K := fun F0 F σ H Q xo s0 S q pins s I => by
  obtain ⟨f, Fn, hm, kp⟩ := c.ex
  refine wpAny_Call_Name_kw (ld_glob I hg hm ?_ c.hd)
  exact PySem.W.callWith_K0 I.kIn kp (wpAny_call (run_G (vs := []) (us := []) Fn (rm.mono hk) xo s0 I .nil S.sat .nil ka q))

/-! ### instances: what the text says of a class -/
/-- an instance: frozen, or a cell of one's own -/
def InsD (d : Dt) (L : Cells) (C : Addr) (m : Str) : Prop := (∃ fs xs, d = .ins C fs xs ∧ m ∉ fs) ∨ ∃ a fs xs, d = .ref a ∧ (a, OC.ins C fs xs) ∈ L ∧ m ∉ fs
theorem lookup_notin {β : Type} {m : Str} : ∀ {fs : List (Str × β)}, m ∉ fs.map (·.1) → fs.lookup m = none
  | [], _ => rfl
  | (a, b) :: r, h => by
    rw [List.lookup_cons]
    have h1 : (m == a) = false := beq_eq_false_iff_ne.mpr fun e => h (by rw [e]; simp)
    rw [h1]
    exact lookup_notin fun q => h (List.mem_cons_of_mem _ q)
theorem InsD.at {K : PySem.W.Frag} {F H : Hp} {d : Dt} {v : V} (h : InsD d L C m) (S : Sat K F L H) (r : Rep K F d v) : ∃ a dx fs, v = .ref a ∧ H a = some (.ins C dx fs) ∧ fs.lookup m = none := by
  rcases h with ⟨fs, xs, rfl, hm⟩ | ⟨a, fs, xs, rfl, hc, hm⟩
  · obtain ⟨a, dx, fv, rfl, hF, e, _⟩ := r.ins
    exact ⟨a, dx, fv, rfl, S.sub _ _ hF, lookup_notin (by rw [e]; exact hm)⟩
  · obtain ⟨o, ho, dx, fv, rfl, e, _⟩ := S.own _ hc
    exact ⟨a, dx, fv, r.ref, ho, lookup_notin (by rw [e]; exact hm)⟩
structure Mt (P : Program) (w : World) (K : PySem.W.Frag) (mg : Str → Option Value) (base : Heap) (k : Nat) (C : Addr) (m : Str) (sp : TSp) : Prop where
  cl : Cls K C
  ex : ∃ f : Addr, Meth K C m f ∧ FnG P w K mg base k f sp
/-- o.m(e, ..) -/
theorem we_meth {pl : Sem Bool} (c : Mt X.prog X.w X.K X.mg X.base k C m sp) (rm : Rm j X.A) (hk : k ≤ j) (ko : WE X o Γ L Ex fun d L1 => InsD d L1 C m ∧ WA X (e :: es) Γ L1 Ex fun ds L2 => sp (d :: ds) L2 Ex K)
    (hst : starEach (e :: es) X.env = (false, eval e X.env) :: starEach es X.env := by rfl) (hpl : (backTo pos (starEach es X.env)).any (·.1) = false := by rfl)
    (ht : eval (.Call (.Attribute o m apos) (e :: es) [] pos) X.env = (do let ov ← eval o X.env; standAt apos.atName; let (f, first) ← holding [ov] (getMethod ov m pl); callWith pos f first (backTo pos (starEach (e :: es) X.env)) (backToKw pos (keywordEach [] X.env))) := by rfl) :
    WE X (.Call (.Attribute o m apos) (e :: es) [] pos) Γ L Ex K := fun F0 F σ H Q xo s0 S q pins s I => by
  obtain ⟨f, hm, Fn⟩ := c.ex
  have z : cE X o σ H fun v H1 => ∃ F1 d L1, Same F F1 ∧ Sat X.K F1 L1 H1 ∧ Rep X.K F1 d v ∧ InsD d L1 C m ∧ WA X (e :: es) Γ L1 Ex fun ds L2 => sp (d :: ds) L2 Ex K := ko F0 F σ H _ xo s0 S fun v H1 F1 d L1 e1 S1 r1 k1 => ⟨F1, d, L1, e1, S1, r1, k1⟩
  refine PySem.W.methodCall_KW (pl := pl) (thn (z pins s I) fun u s1 ⟨v, H1, I1, ru, F1, d, L1, e1, S1, r1, hi, ka⟩ => ?_) ht
  obtain ⟨a, dx, fs, ev, ea, l⟩ := hi.at S1 r1
  subst ev
  obtain rfl : u = Value.ref a := ru
  refine getmeth_ok I1 ea c.cl hm l ?_
  have z2 : cA X (e :: es) σ H1 fun vs H2 => ∃ F2 ds L2, Same F1 F2 ∧ Sat X.K F2 L2 H2 ∧ Reps X.K F2 ds vs ∧ sp (d :: ds) L2 Ex K := ka F0 F1 σ H1 _ xo (s0.trans e1) ⟨S1, S.env.mono e1⟩ fun vs H2 F2 ds L2 e2 S2 r2 k2 => ⟨F2, ds, L2, e2, S2, r2, k2⟩
  refine PySem.W.callWith_K (first := [.ref a]) (h₀ := X.base) I.ok.mod.kin hm.kp (thn (z2 pos pins s1 I1) fun us s2 ⟨vs, H2, I2, rv, F2, ds, L2, e2, S2, r2, k2⟩ => ⟨I2.kIn, ?_⟩) hst hpl
  exact wpAny_call (run_G (us := .ref a :: us) (vs := .ref a :: vs) Fn (rm.mono hk) xo ((s0.trans e1).trans e2) I2 (.cons rfl rv) S2 (.cons (r1.mono e2) r2) k2 fun v H' F' d L' e3 => q v H' F' d L' ((e1.trans e2).trans e3))
/-- o.m() -/
theorem we_meth0 {pl : Sem Bool} (c : Mt X.prog X.w X.K X.mg X.base k C m sp) (rm : Rm j X.A) (hk : k ≤ j) (ko : WE X o Γ L Ex fun d L1 => InsD d L1 C m ∧ sp [d] L1 Ex K)
    (ht : eval (.Call (.Attribute o m apos) [] [] pos) X.env = (do let ov ← eval o X.env; standAt apos.atName; let (f, first) ← holding [ov] (getMethod ov m pl); callWith pos f first (backTo pos (starEach [] X.env)) (backToKw pos (keywordEach [] X.env))) := by rfl) :
    WE X (.Call (.Attribute o m apos) [] [] pos) Γ L Ex K := fun F0 F σ H Q xo s0 S q pins s I => by
  obtain ⟨f, hm, Fn⟩ := c.ex
  have z : cE X o σ H fun v H1 => ∃ F1 d L1, Same F F1 ∧ Sat X.K F1 L1 H1 ∧ Rep X.K F1 d v ∧ InsD d L1 C m ∧ sp [d] L1 Ex K := ko F0 F σ H _ xo s0 S fun v H1 F1 d L1 e1 S1 r1 k1 => ⟨F1, d, L1, e1, S1, r1, k1⟩
  refine PySem.W.methodCall_KW (pl := pl) (thn (z pins s I) fun u s1 ⟨v, H1, I1, ru, F1, d, L1, e1, S1, r1, hi, k1⟩ => ?_) ht
  obtain ⟨a, dx, fs, ev, ea, l⟩ := hi.at S1 r1
  subst ev
  obtain rfl : u = Value.ref a := ru
  refine getmeth_ok I1 ea c.cl hm l ?_
  exact PySem.W.callWith_K0 (first := [.ref a]) I1.kIn hm.kp (wpAny_call (run_G (us := [.ref a]) (vs := [.ref a]) Fn (rm.mono hk) xo (s0.trans e1) I1 (.cons rfl .nil) S1 (.cons r1 .nil) k1 fun v H' F' d L' e3 => q v H' F' d L' (e1.trans e3)))
end
end L3

namespace L3
open PySem PySem.Spec PyProof.Rows L2

section
variable {X : Cx} {Γ : Gm} {L : Cells} {Ex : XD} {e a b c : Expr} {es : List Expr} {pos p : Pos} {st : Stmt} {sts : List Stmt} {En : En}
/-! ### tests -/
theorem wt_val {Kb : KB} (k : WE X e Γ L Ex fun d L1 => ∃ t, d = .bl t ∧ Kb t L1) (he : ∀ whole, isTrue e X.env whole = (do let v ← whole; standAt e.pos; holding [v] (truthy v)) := by intro _; rfl) : WT X e Γ L Ex Kb := fun F0 F σ H Q xo s0 S q => by
  refine cT.of (pt_val pE he) ?_
  refine k F0 F σ H _ xo s0 S fun v H1 F1 x L1 e1 S1 r1 ⟨t, et, k1⟩ => ?_
  subst et
  exact ⟨t, r1.bl, q t H1 F1 L1 e1 S1 k1⟩
theorem wt_cmp {Kb : KB} {op : CmpOp} {R : R2D} (ho : OpD X (compareOp op) R) (k : WE X a Γ L Ex fun x L1 => WE X b Γ L1 Ex fun y L2 => R x y L2 fun z L3 => ∃ t, z = .bl t ∧ Kb t L3) (hm : behindInMarks op b = false := by first | exact nomark _ | rfl) : WT X (.Compare a [op] [b] p) Γ L Ex Kb := fun F0 F σ H Q xo s0 S q => by
  obtain ⟨r, h1, h2⟩ := ho
  refine cT.of (pt_cmpR h1 pE pE hm) ?_
  refine k F0 F σ H _ xo s0 S fun v H1 F1 x L1 e1 S1 r1 k1 => ?_
  refine k1 F0 F1 σ H1 _ xo (s0.trans e1) ⟨S1, S.env.mono e1⟩ fun w H2 F2 y L2 e2 S2 r2 k2 => ?_
  refine h2 F2 H2 L2 x y v w _ _ S2 (r1.mono e2) r2 k2 fun v' H' F' d L' e3 S3 r3 ⟨t, et, k3⟩ => ?_
  subst et
  exact ⟨t, r3.bl, q t H' F' L' ((e1.trans e2).trans e3) S3 k3⟩
theorem wt_cmp2 {Kb : KB} {op op' : CmpOp} {R R' : R2D} (ho : OpD X (compareOp op) R) (ho' : OpD X (compareOp op') R') (k : WE X a Γ L Ex fun x L1 => WE X b Γ L1 Ex fun y L2 => R x y L2 fun z L3 => ∃ t, z = .bl t ∧ if t = true then WE X c Γ L3 Ex (fun u L4 => R' y u L4 fun z L5 => ∃ t, z = .bl t ∧ Kb t L5) else Kb false L3)
    (hm : lastMarks [op, op'] [b, c] = false := by with_unfolding_all rfl) : WT X (.Compare a [op, op'] [b, c] p) Γ L Ex Kb := fun F0 F σ H Q xo s0 S q => by
  obtain ⟨r, h1, h2⟩ := ho
  obtain ⟨r', h1', h2'⟩ := ho'
  refine cT.of (pt_chain h1 h1' pE pE pE hm) ?_
  refine k F0 F σ H _ xo s0 S fun v H1 F1 x L1 e1 S1 r1 k1 => ?_
  refine k1 F0 F1 σ H1 _ xo (s0.trans e1) ⟨S1, S.env.mono e1⟩ fun w H2 F2 y L2 e2 S2 r2 k2 => ?_
  refine h2 F2 H2 L2 x y v w _ _ S2 (r1.mono e2) r2 k2 fun v' H3 F3 d L3 e3 S3 r3 k3 => ?_
  obtain ⟨t, rfl, k4⟩ := k3
  refine ⟨t, r3.bl, ?_⟩
  cases t with
  | false =>
    rw [if_neg Bool.false_ne_true] at k4 ⊢
    exact ⟨false, rfl, q _ H3 F3 L3 ((e1.trans e2).trans e3) S3 k4⟩
  | true =>
    rw [if_pos rfl] at k4 ⊢
    refine k4 F0 F3 σ H3 _ xo (((s0.trans e1).trans e2).trans e3) ⟨S3, S.env.mono ((e1.trans e2).trans e3)⟩ fun z H4 F4 u L4 e4 S4 r4 k5 => ?_
    refine h2' F4 H4 L4 y u w z _ _ S4 (r2.mono (e3.trans e4)) r4 k5 fun v' H' F' d L' e5 S5 r5 ⟨t, et, k6⟩ => ?_
    subst et
    exact ⟨t, r5.bl, q t H' F' L' ((((e1.trans e2).trans e3).trans e4).trans e5) S5 k6⟩
theorem wt_not {Kb : KB} (k : WT X a Γ L Ex fun t L1 => Kb (!t) L1) : WT X (.UnaryOp .Not a p) Γ L Ex Kb := fun F0 F σ H Q xo s0 S q => by
  refine cT.of (pt_not pT) ?_
  exact k F0 F σ H _ xo s0 S fun t H1 F1 L1 e1 S1 k1 => q _ H1 F1 L1 e1 S1 k1
theorem wt_of {Kb : KB} (k : WW X e Γ L Ex Kb) : WT X e Γ L Ex Kb := fun F0 F σ H Q xo s0 S q => by
  refine cT.of pW.pt ?_
  exact k F0 F σ H _ xo s0 S fun t H1 F1 L1 e1 S1 k1 => q _ H1 F1 L1 e1 S1 k1
theorem ww_and1 {Kb : KB} (k : WT X a Γ L Ex Kb) : WW X (.BoolOp .And [a] p) Γ L Ex Kb := fun F0 F σ H Q xo s0 S q => cW.of (pw_and1 pT) (k F0 F σ H _ xo s0 S fun t H1 F1 L1 e1 S1 k1 => q _ H1 F1 L1 e1 S1 k1)
theorem ww_or1 {Kb : KB} (k : WT X a Γ L Ex Kb) : WW X (.BoolOp .Or [a] p) Γ L Ex Kb := fun F0 F σ H Q xo s0 S q => cW.of (pw_or1 pT) (k F0 F σ H _ xo s0 S fun t H1 F1 L1 e1 S1 k1 => q _ H1 F1 L1 e1 S1 k1)
theorem ww_and {Kb : KB} (k : WT X a Γ L Ex fun t L1 => if t = true then WW X (.BoolOp .And (b :: es) p) Γ L1 Ex Kb else Kb false L1) : WW X (.BoolOp .And (a :: b :: es) p) Γ L Ex Kb := fun F0 F σ H Q xo s0 S q => by
  refine cW.of (pw_and pT pW) ?_
  refine k F0 F σ H _ xo s0 S fun t H1 F1 L1 e1 S1 k1 => ?_
  cases t with
  | false =>
    rw [if_neg Bool.false_ne_true] at k1 ⊢
    exact q _ H1 F1 L1 e1 S1 k1
  | true =>
    rw [if_pos rfl] at k1 ⊢
    exact k1 F0 F1 σ H1 _ xo (s0.trans e1) ⟨S1, S.env.mono e1⟩ fun t H2 F2 L2 e2 S2 k2 => q _ H2 F2 L2 (e1.trans e2) S2 k2
theorem ww_or {Kb : KB} (k : WT X a Γ L Ex fun t L1 => if t = true then Kb true L1 else WW X (.BoolOp .Or (b :: es) p) Γ L1 Ex Kb) : WW X (.BoolOp .Or (a :: b :: es) p) Γ L Ex Kb := fun F0 F σ H Q xo s0 S q => by
  refine cW.of (pw_or pT pW) ?_
  refine k F0 F σ H _ xo s0 S fun t H1 F1 L1 e1 S1 k1 => ?_
  cases t with
  | true =>
    rw [if_pos rfl] at k1 ⊢
    exact q _ H1 F1 L1 e1 S1 k1
  | false =>
    rw [if_neg Bool.false_ne_true] at k1 ⊢
    exact k1 F0 F1 σ H1 _ xo (s0.trans e1) ⟨S1, S.env.mono e1⟩ fun t H2 F2 L2 e2 S2 k2 => q _ H2 F2 L2 (e1.trans e2) S2 k2
/-- and, or, not as values -/
theorem we_one {op} {K : KD} (k : WE X a Γ L Ex K) : WE X (.BoolOp op [a] p) Γ L Ex K := fun F0 F σ H Q xo s0 S q => cE.of (pe_one pE) (k F0 F σ H _ xo s0 S q)
theorem we_and {K : KD} (k : WE X a Γ L Ex fun d L1 => ∃ t, d = .bl t ∧ if t = true then WE X (.BoolOp .And (b :: es) p) Γ L1 Ex K else K (.bl false) L1) : WE X (.BoolOp .And (a :: b :: es) p) Γ L Ex K := fun F0 F σ H Q xo s0 S q => by
  refine cE.of (pe_and pE pE) ?_
  refine k F0 F σ H _ xo s0 S fun v H1 F1 d L1 e1 S1 r1 ⟨t, et, k1⟩ => ?_
  subst et
  refine ⟨t, r1.bl, ?_⟩
  cases t with
  | false =>
    rw [if_neg Bool.false_ne_true] at k1 ⊢
    exact q _ H1 F1 _ L1 e1 S1 (Rep.mkBl _) k1
  | true =>
    rw [if_pos rfl] at k1 ⊢
    exact k1 F0 F1 σ H1 _ xo (s0.trans e1) ⟨S1, S.env.mono e1⟩ fun v H2 F2 d L2 e2 S2 r2 k2 => q _ H2 F2 d L2 (e1.trans e2) S2 r2 k2
theorem we_or {K : KD} (k : WE X a Γ L Ex fun d L1 => ∃ t, d = .bl t ∧ if t = true then K (.bl true) L1 else WE X (.BoolOp .Or (b :: es) p) Γ L1 Ex K) : WE X (.BoolOp .Or (a :: b :: es) p) Γ L Ex K := fun F0 F σ H Q xo s0 S q => by
  refine cE.of (pe_or pE pE) ?_
  refine k F0 F σ H _ xo s0 S fun v H1 F1 d L1 e1 S1 r1 ⟨t, et, k1⟩ => ?_
  subst et
  refine ⟨t, r1.bl, ?_⟩
  cases t with
  | true =>
    rw [if_pos rfl] at k1 ⊢
    exact q _ H1 F1 _ L1 e1 S1 (Rep.mkBl _) k1
  | false =>
    rw [if_neg Bool.false_ne_true] at k1 ⊢
    exact k1 F0 F1 σ H1 _ xo (s0.trans e1) ⟨S1, S.env.mono e1⟩ fun v H2 F2 d L2 e2 S2 r2 k2 => q _ H2 F2 d L2 (e1.trans e2) S2 r2 k2
theorem we_not {K : KD} (k : WE X a Γ L Ex fun d L1 => ∃ t, d = .bl t ∧ K (.bl (!t)) L1) : WE X (.UnaryOp .Not a p) Γ L Ex K := fun F0 F σ H Q xo s0 S q => by
  refine cE.of (pe_not pE) ?_
  refine k F0 F σ H _ xo s0 S fun v H1 F1 d L1 e1 S1 r1 ⟨t, et, k1⟩ => ?_
  subst et
  exact ⟨t, r1.bl, q _ H1 F1 _ L1 e1 S1 (Rep.mkBl _) k1⟩
theorem we_ifExp {K : KD} (k : WT X c Γ L Ex fun t L1 => if t = true then WE X a Γ L1 Ex K else WE X b Γ L1 Ex K) : WE X (.IfExp c a b p) Γ L Ex K := fun F0 F σ H Q xo s0 S q => by
  refine cE.of (pe_ifExp pT pE pE) ?_
  refine k F0 F σ H _ xo s0 S fun t H1 F1 L1 e1 S1 k1 => ?_
  cases t with
  | true =>
    rw [if_pos rfl] at k1 ⊢
    exact k1 F0 F1 σ H1 _ xo (s0.trans e1) ⟨S1, S.env.mono e1⟩ fun v H2 F2 d L2 e2 S2 r2 k2 => q _ H2 F2 d L2 (e1.trans e2) S2 r2 k2
  | false =>
    rw [if_neg Bool.false_ne_true] at k1 ⊢
    exact k1 F0 F1 σ H1 _ xo (s0.trans e1) ⟨S1, S.env.mono e1⟩ fun v H2 F2 d L2 e2 S2 r2 k2 => q _ H2 F2 d L2 (e1.trans e2) S2 r2 k2

/-! ### statements -/
theorem ws_nil (k : En.nx Γ L) : WSs X [] Γ L Ex En := fun F0 F σ H D xo s0 S q => cSs.of pss_nil (q.nx σ H F Γ L (Same.refl F) S k)
theorem ws_cons (k : WS X st Γ L Ex (En.seq fun Γ' L' => WSs X sts Γ' L' Ex En)) : WSs X (st :: sts) Γ L Ex En := fun F0 F σ H D xo s0 S q => by
  refine cSs.of (pss_cons pS pSs) ?_
  exact k F0 F σ H _ xo s0 S ⟨fun σ' H' F' Γ' L' e1 S1 k1 => k1 F0 F' σ' H' D xo (s0.trans e1) S1 (q.mono e1), q.rt, q.bk, q.ct⟩
theorem ws_one (k : WS X st Γ L Ex En) : WSs X [st] Γ L Ex En := fun F0 F σ H D xo s0 S q => cSs.of (pss_one pS) (k F0 F σ H D xo s0 S q)
/-- what is known ahead of a block, changed -/
theorem wss_conv {Γ' : Gm} {L' : Cells} (h : ∀ F σ H, Stt X.K F Γ L σ H → ∃ F', Same F F' ∧ Stt X.K F' Γ' L' σ H) (k : WSs X sts Γ' L' Ex En) : WSs X sts Γ L Ex En := fun F0 F σ H D xo s0 S q => by
  obtain ⟨F', e1, S1⟩ := h F σ H S
  exact k F0 F' σ H D xo (s0.trans e1) S1 (q.mono e1)
theorem wss_imp {En' : L3.En} (k : WSs X sts Γ L Ex En) (h1 : ∀ Γ L, En.nx Γ L → En'.nx Γ L) (h2 : ∀ d L, En.rt d L → En'.rt d L) (h3 : ∀ Γ L, En.bk Γ L → En'.bk Γ L) (h4 : ∀ Γ L, En.ct Γ L → En'.ct Γ L) : WSs X sts Γ L Ex En' := fun F0 F σ H D xo s0 S q =>
  k F0 F σ H D xo s0 S ⟨fun σ' H' F' Γ' L' e1 S1 k1 => q.nx σ' H' F' Γ' L' e1 S1 (h1 _ _ k1), fun v H' F' d L' e1 S1 r k1 => q.rt v H' F' d L' e1 S1 r (h2 _ _ k1), fun σ' H' F' Γ' L' e1 S1 k1 => q.bk σ' H' F' Γ' L' e1 S1 (h3 _ _ k1), fun σ' H' F' Γ' L' e1 S1 k1 => q.ct σ' H' F' Γ' L' e1 S1 (h4 _ _ k1)⟩
/-- a word between a statement and what follows -/
theorem ws_cut (M : Gm → Cells → Prop) (k : WS X st Γ L Ex (En.seq M)) (k2 : ∀ Γ' L', M Γ' L' → WSs X sts Γ' L' Ex En) : WSs X (st :: sts) Γ L Ex En := ws_cons fun F0 F σ H D xo s0 S q =>
  k F0 F σ H D xo s0 S ⟨fun σ' H' F' Γ' L' e1 S1 k1 => q.nx σ' H' F' Γ' L' e1 S1 (k2 _ _ k1), q.rt, q.bk, q.ct⟩
theorem ws_pass (k : En.nx Γ L) : WS X (.Pass pos) Γ L Ex En := fun F0 F σ H D xo s0 S q => cS.of ps_pass (q.nx σ H F Γ L (Same.refl F) S k)
theorem ws_break (k : En.bk Γ L) : WS X (.Break pos) Γ L Ex En := fun F0 F σ H D xo s0 S q => cS.of ps_break (q.bk σ H F Γ L (Same.refl F) S k)
theorem ws_continue (k : En.ct Γ L) : WS X (.Continue pos) Γ L Ex En := fun F0 F σ H D xo s0 S q => cS.of ps_continue (q.ct σ H F Γ L (Same.refl F) S k)
theorem ws_expr (k : WE X e Γ L Ex fun _ L1 => En.nx Γ L1) (hs : swapsWith e none pos.line X.env = pure false := by rfl) : WS X (.Expr e pos) Γ L Ex En := fun F0 F σ H D xo s0 S q => by
  refine cS.of (ps_expr pE hs) ?_
  exact k F0 F σ H _ xo s0 S fun v H1 F1 d L1 e1 S1 r1 k1 => q.nx σ H1 F1 Γ L1 e1 ⟨S1, S.env.mono e1⟩ k1
theorem ws_ret (k : WE X e Γ L Ex En.rt) : WS X (.Return (some e) pos) Γ L Ex En := fun F0 F σ H D xo s0 S q => by
  refine cS.of (ps_ret pE) ?_
  exact k F0 F σ H _ xo s0 S fun v H1 F1 d L1 e1 S1 r1 k1 => q.rt v H1 F1 d L1 e1 S1 r1 k1
theorem ws_retN (k : En.rt .non L) : WS X (.Return none pos) Γ L Ex En := fun F0 F σ H D xo s0 S q => cS.of ps_retN (q.rt .non H F .non L (Same.refl F) S.sat Rep.mkNon k)
theorem ws_if {t f : List Stmt} (k : WT X c Γ L Ex fun b L1 => if b = true then WSs X t Γ L1 Ex En else WSs X f Γ L1 Ex En) : WS X (.If c t f pos) Γ L Ex En := fun F0 F σ H D xo s0 S q => by
  refine cS.of (ps_if pT pSs pSs) ?_
  refine k F0 F σ H _ xo s0 S fun b H1 F1 L1 e1 S1 k1 => ?_
  cases b with
  | true =>
    rw [if_pos rfl] at k1 ⊢
    exact k1 F0 F1 σ H1 D xo (s0.trans e1) ⟨S1, S.env.mono e1⟩ (q.mono e1)
  | false =>
    rw [if_neg Bool.false_ne_true] at k1 ⊢
    exact k1 F0 F1 σ H1 D xo (s0.trans e1) ⟨S1, S.env.mono e1⟩ (q.mono e1)
/-- a name to be stored -/
def Ns (X : Cx) (x : Str) (i : Nat) : Prop := X.N.Nodup ∧ X.N[i]? = some x ∧ Loc X.env.scope x ∧ (X.fn x = true ∨ X.env.scope.names.lookup x = some .local)
theorem ws_set {i : Nat} {x : Str} {p' : Pos} (n : Ns X x i) (k : WE X e Γ L Ex fun d L1 => ∃ Γ', Sa Γ i d Γ' ∧ En.nx Γ' L1) (hs : swapsWith e (some (.Name x p')) pos.line X.env = pure false := by rfl) : WS X (.Assign [.Name x p'] e pos) Γ L Ex En := fun F0 F σ H D xo s0 S q => by
  refine cS.of (ps_set n.1 n.2.1 n.2.2.1 pE hs n.2.2.2) ?_
  refine k F0 F σ H _ xo s0 S fun v H1 F1 d L1 e1 S1 r1 ⟨Γ', g, k1⟩ => ?_
  rw [← g.set] at k1
  exact q.nx _ H1 F1 _ L1 e1 ⟨S1, (S.env.mono e1).set r1 i⟩ k1
end
end L3

namespace L3
open PySem PySem.Spec PyProof.Rows L2

/-! ### targets -/
def cG (X : Cx) (tg : Expr) : TG := fun v σ H Q => ∀ pins s u, Inv X pins σ H s → RelV v u → wpAny (model X.prog X.w) X.A (assign tg X.env u) (fun _ s' => ∃ σ' H', Inv X pins σ' H' s' ∧ Q σ' H') X.xe s
def cGs (X : Cx) (tgs : List Expr) : TGs := fun vs σ H Q => ∀ pins s us, Inv X pins σ H s → Vals vs us → wpAny (model X.prog X.w) X.A (assignInOrder ((assignEach tgs X.env).map (·.2)) us) (fun _ s' => ∃ σ' H', Inv X pins σ' H' s' ∧ Q σ' H') X.xe s
def cI (X : Cx) (tg iter : Expr) : TI := fun σ H R => ∀ pins s, Inv X pins σ H s → wpAny (model X.prog X.w) X.A (eval iter X.env) (fun v s1 => wpAny (model X.prog X.w) X.A (pyIter v) (PIE X pins σ tg R) X.xe s1) X.xe s
section
variable {X : Cx} {tg it : Expr} {tgs : List Expr}
theorem pG : PG X tg (cG X tg) := ⟨fun pins s _ _ _ u _ I r h => h pins s u I r⟩
theorem pGs : PGs X tgs (cGs X tgs) := ⟨fun pins s _ _ _ us _ I r h => h pins s us I r⟩
theorem pI : PI X tg it (cI X tg it) := ⟨fun pins s _ _ _ I h => h pins s I⟩
theorem cG.of {t : TG} {v : V} {σ : L2.St} {H : Hp} {Q : L2.St → Hp → Prop} (h : PG X tg t) (q : t v σ H Q) : cG X tg v σ H Q := fun pins s u I r => h.run pins s σ H v u Q I r q
theorem cGs.of {t : TGs} {vs : List V} {σ : L2.St} {H : Hp} {Q : L2.St → Hp → Prop} (h : PGs X tgs t) (q : t vs σ H Q) : cGs X tgs vs σ H Q := fun pins s us I r => h.run pins s σ H vs us Q I r q
theorem cI.of {t : TI} {σ : L2.St} {H : Hp} {R : It → Hp → Prop} (h : PI X tg it t) (q : t σ H R) : cI X tg it σ H R := fun pins s I => h.run pins s σ H R I q
end
def WG (X : Cx) (tg : Expr) (Γ : Gm) (L : Cells) (Ex : XD) (d : Dt) (K : Gm → Cells → Prop) : Prop :=
  ∀ (F0 F : Hp) (σ : L2.St) (H : Hp) (v : V) (Q : L2.St → Hp → Prop), Xok X F0 Ex → Same F0 F → Stt X.K F Γ L σ H → Rep X.K F d v →
    (∀ σ' H' F' Γ' L', Same F F' → Stt X.K F' Γ' L' σ' H' → K Γ' L' → Q σ' H') → cG X tg v σ H Q
def WGs (X : Cx) (tgs : List Expr) (Γ : Gm) (L : Cells) (Ex : XD) (ds : List Dt) (K : Gm → Cells → Prop) : Prop :=
  ∀ (F0 F : Hp) (σ : L2.St) (H : Hp) (vs : List V) (Q : L2.St → Hp → Prop), Xok X F0 Ex → Same F0 F → Stt X.K F Γ L σ H → Reps X.K F ds vs →
    (∀ σ' H' F' Γ' L', Same F F' → Stt X.K F' Γ' L' σ' H' → K Γ' L' → Q σ' H') → cGs X tgs vs σ H Q
/-- a walk over the items ds: at turn i the i-th -/
def Seq (K : PySem.W.Frag) (F : Hp) (J : It) (ds : List Dt) : Prop := ∀ F1 H L i, Same F F1 → Sat K F1 L H →
  (∀ d, ds[i]? = some d → J.go i H ∧ ∀ x H', J.yld i H x H' → ∃ F', Same F1 F' ∧ Sat K F' L H' ∧ Rep K F' d x) ∧ (ds.length ≤ i → J.stop i H)
def WI (X : Cx) (tg it : Expr) (Γ : Gm) (L : Cells) (Ex : XD) (Kd : List Dt → Cells → Prop) : Prop :=
  ∀ (F0 F : Hp) (σ : L2.St) (H : Hp) (R : It → Hp → Prop), Xok X F0 Ex → Same F0 F → Stt X.K F Γ L σ H →
    (∀ J H' F' ds L', Same F F' → Sat X.K F' L' H' → Seq X.K F' J ds → Kd ds L' → R J H') → cI X tg it σ H R
section
variable {X : Cx} {Γ Γ' : Gm} {L : Cells} {Ex : XD} {e a b c tg it o i : Expr} {es tgs : List Expr} {pos p : Pos} {st : Stmt} {sts body : List Stmt} {En : En}
theorem wg_name {j : Nat} {x : Str} {d : Dt} {K : Gm → Cells → Prop} (n : Ns X x j) (g : Sa Γ j d Γ') (k : K Γ' L) : WG X (.Name x p) Γ L Ex d K := fun F0 F σ H v Q xo s0 S r q => by
  refine cG.of (pg_name n.1 n.2.1 n.2.2.1 n.2.2.2) ?_
  rw [← g.set] at k
  exact q _ H F _ L (Same.refl F) ⟨S.sat, S.env.set r j⟩ k
theorem wgs_nil {K : Gm → Cells → Prop} (k : K Γ L) : WGs X [] Γ L Ex [] K := fun F0 F σ H vs Q xo s0 S r q => cGs.of pgs_nil ⟨r.nil_inv, q σ H F Γ L (Same.refl F) S k⟩
theorem wgs_cons {d : Dt} {ds : List Dt} {K : Gm → Cells → Prop} (k : WG X tg Γ L Ex d fun Γ1 L1 => WGs X tgs Γ1 L1 Ex ds K)
    (hs : (assignEach (tg :: tgs) X.env).map (·.2) = assign tg X.env :: (assignEach tgs X.env).map (·.2) := by rfl) : WGs X (tg :: tgs) Γ L Ex (d :: ds) K := fun F0 F σ H vs Q xo s0 S r q => by
  obtain ⟨v, vr, rfl, r1, r2⟩ := r.cons_inv
  refine cGs.of (pgs_cons pG pGs hs) ⟨v, vr, rfl, ?_⟩
  refine k F0 F σ H v _ xo s0 S r1 fun σ1 H1 F1 Γ1 L1 e1 S1 k1 => ?_
  exact k1 F0 F1 σ1 H1 vr Q xo (s0.trans e1) S1 (r2.mono e1) fun σ' H' F' Γ' L' e2 => q σ' H' F' Γ' L' (e1.trans e2)
theorem wg_tup {ds : List Dt} {k' n : Nat} {K : Gm → Cells → Prop} (hc : X.calm = true) (hl : ds.length = n) (k : WGs X tgs Γ L Ex ds K) (hn : (assignEach tgs X.env).length = n := by rfl) (hst : (assignEach tgs X.env).findIdx? (·.1) = none := by rfl) :
    WG X (.Tuple tgs k' p) Γ L Ex (.tup ds) K := fun F0 F σ H v Q xo s0 S r q => by
  obtain ⟨a, vs, rfl, h1, rv⟩ := r.tup
  refine cG.of (pg_tup (n := n) hc pGs hn hst) ⟨a, vs, rfl, same_t S.sat.sub h1, by rw [← rv.length]; exact hl, ?_⟩
  exact k F0 F σ H vs Q xo s0 S rv q
theorem ws_asg (k : WE X e Γ L Ex fun d L1 => WG X tg Γ L1 Ex d En.nx) (hs : swapsWithSole [tg] e pos.line X.env = pure false := by rfl) (hw : swappedStores [tg] e X.env = pure none := by rfl) (h1 : (assignEach [tg] X.env).map (·.2) = [assign tg X.env] := by rfl) : WS X (.Assign [tg] e pos) Γ L Ex En := fun F0 F σ H D xo s0 S q => by
  refine cS.of (ps_asg pE pG hs hw h1) ?_
  refine k F0 F σ H _ xo s0 S fun v H1 F1 d L1 e1 S1 r1 k1 => ?_
  exact k1 F0 F1 σ H1 v _ xo (s0.trans e1) ⟨S1, S.env.mono e1⟩ r1 fun σ' H' F' Γ' L' e2 S2 k2 => q.nx σ' H' F' Γ' L' (e1.trans e2) S2 k2
/-- an own list's cell -/
def Has (L : Cells) (a : Addr) (c : OC) (f : OC → Cells) : Prop := ∃ L0 L1, L = L0 ++ (a, c) :: L1 ∧ f = fun c' => L0 ++ (a, c') :: L1
theorem Has.h {a : Addr} {c : OC} {L : Cells} : Has ((a, c) :: L) a c (fun c' => (a, c') :: L) := ⟨[], L, rfl, rfl⟩
theorem Has.t {q : Addr × OC} {a : Addr} {c : OC} {L : Cells} {f : OC → Cells} (h : Has L a c f) : Has (q :: L) a c (fun c' => q :: f c') := by
  obtain ⟨L0, L1, rfl, rfl⟩ := h
  exact ⟨q :: L0, L1, rfl, rfl⟩
theorem Has.upd {L : Cells} {a : Addr} {c c' : OC} {f : OC → Cells} (h : Has L a c f) : Has (f c') a c' f := by
  obtain ⟨L0, L1, rfl, rfl⟩ := h
  exact ⟨L0, L1, rfl, rfl⟩
theorem Has.split {L : Cells} {a : Addr} {c : OC} {f : OC → Cells} (h : Has L a c f) : ∃ L0 L1, L = L0 ++ (a, c) :: L1 ∧ ∀ c', f c' = L0 ++ (a, c') :: L1 := by
  obtain ⟨L0, L1, rfl, rfl⟩ := h
  exact ⟨L0, L1, rfl, fun _ => rfl⟩
theorem Has.mem {L : Cells} {a : Addr} {c : OC} {f : OC → Cells} (h : Has L a c f) : (a, c) ∈ L := by
  obtain ⟨L0, L1, rfl, _⟩ := h.split
  simp
/-- o[i] = v -/
theorem wg_sub {d : Dt} {K : Gm → Cells → Prop} (k : WE X o Γ L Ex fun x L1 => WE X i Γ L1 Ex fun y L2 => ∃ a ds j n f, x = .ref a ∧ y = .int j ∧ Has L2 a (.lst ds) f ∧ ixN ds.length j = some n ∧ K Γ (f (.lst (ds.set n d))))
    (ha : ∀ v, assign (.Subscript o i p) X.env v = (do let ov ← holding [v] (eval o X.env); let iv ← holding [v, ov] (eval i X.env); standAt p; holding [v, ov, iv] (setItem ov iv v); release [v, ov, iv] []) := by intro _; rfl) : WG X (.Subscript o i p) Γ L Ex d K := fun F0 F σ H v Q xo s0 S r q => by
  refine cG.of (pg_sub pE pE set_list ha) ?_
  refine k F0 F σ H _ xo s0 S fun w H1 F1 x L1 e1 S1 r1 k1 => ?_
  refine k1 F0 F1 σ H1 _ xo (s0.trans e1) ⟨S1, S.env.mono e1⟩ fun z H2 F2 y L2 e2 S2 r2 ⟨a, ds, j, n, f, ex, ey, hh, hi, k2⟩ => ?_
  subst ex ey
  obtain ⟨L0, L1, rfl, ef⟩ := hh.split
  obtain ⟨u, hu, vs, rfl, rv⟩ := S2.at
  refine ⟨a, vs, j, n, r1.ref, r2.int, hu, by rw [← rv.length]; exact hi, ?_⟩
  rw [ef] at k2
  exact q σ _ F2 Γ _ (e1.trans e2) ⟨S2.write (oc' := .lst (ds.set n d)) ⟨_, rfl, rv.set n (r.mono (e1.trans e2))⟩, S.env.mono (e1.trans e2)⟩ k2

/-! ### what is walked -/
theorem seq_list {K : PySem.W.Frag} {F : Hp} {a : Addr} {vs : List V} {ds : List Dt} (h : SqL K F a vs) (r : Reps K F ds vs) : Seq K F (Itl K a) ds := fun F1 H L i e1 S => by
  have hH := same_l (e1.trans S.sub) h
  have r1 := r.mono e1
  refine ⟨fun d hd => ?_, fun hi => ⟨vs, hH, by rw [← r.length]; exact hi⟩⟩
  obtain ⟨v, hv, rv⟩ := r1.get hd
  refine ⟨⟨vs, v, hH, hv⟩, fun x H' y => ?_⟩
  obtain ⟨e, y⟩ := y
  subst e
  have hx := y vs hH
  rw [hv] at hx
  cases hx
  exact ⟨F1, Same.refl F1, S, rv⟩
theorem seq_tup {K : PySem.W.Frag} {F : Hp} {a : Addr} {vs : List V} {ds : List Dt} (h : SqT K F a vs) (r : Reps K F ds vs) : Seq K F (Itt K a) ds := fun F1 H L i e1 S => by
  have hH := same_t (e1.trans S.sub) h
  have r1 := r.mono e1
  refine ⟨fun d hd => ?_, fun hi => ⟨vs, hH, by rw [← r.length]; exact hi⟩⟩
  obtain ⟨v, hv, rv⟩ := r1.get hd
  refine ⟨⟨vs, v, hH, hv⟩, fun x H' y => ?_⟩
  obtain ⟨e, y⟩ := y
  subst e
  have hx := y vs hH
  rw [hv] at hx
  cases hx
  exact ⟨F1, Same.refl F1, S, rv⟩
/-- the rngD lo, lo + 1, .. -/
def rngD (lo : Int) (n : Nat) : List Dt := (List.range n).map fun i => .int (lo + (i : Nat))
theorem rngD_len (lo : Int) (n : Nat) : (rngD lo n).length = n := by simp [rngD]
theorem rngD_at {lo : Int} {n i : Nat} {d : Dt} (h : (rngD lo n)[i]? = some d) : i < n ∧ d = .int (lo + (i : Nat)) := by
  unfold rngD at h
  rw [List.getElem?_map] at h
  by_cases hi : i < n
  · rw [List.getElem?_range hi] at h
    simp at h
    exact ⟨hi, h.symm⟩
  · rw [List.getElem?_eq_none (by simpa using hi)] at h
    simp at h
theorem seq_range {K : PySem.W.Frag} {F : Hp} {lo : Int} {n : Nat} : Seq K F (Itr lo n) (rngD lo n) := fun F1 H L i e1 S => by
  refine ⟨fun d hd => ?_, fun hi => by rw [rngD_len] at hi; exact hi⟩
  obtain ⟨hi, rfl⟩ := rngD_at hd
  refine ⟨hi, fun x H' ⟨e, y⟩ => ?_⟩
  subst e y
  exact ⟨F1, Same.refl F1, S, Rep.mkInt _⟩
theorem wi_list {Kd : List Dt → Cells → Prop} (k : WE X e Γ L Ex fun d L1 => ∃ ds, (d = .lst ds ∨ d = .rdl ds) ∧ Kd ds L1) : WI X tg e Γ L Ex Kd := fun F0 F σ H R xo s0 S q => by
  refine cI.of (pi_list pE) ?_
  refine k F0 F σ H _ xo s0 S fun v H1 F1 d L1 e1 S1 r1 ⟨ds, hd, k1⟩ => ?_
  rcases hd with rfl | rfl
  · obtain ⟨a, vs, rfl, h1, rv⟩ := r1.lst
    exact ⟨a, rfl, ⟨vs, SqL.of (S1.sub _ _ h1)⟩, q _ H1 F1 ds L1 e1 S1 (seq_list (SqL.of h1) rv) k1⟩
  · obtain ⟨a, vs, rfl, h1, rv⟩ := r1.rdl
    exact ⟨a, rfl, ⟨vs, same_l S1.sub h1⟩, q _ H1 F1 ds L1 e1 S1 (seq_list h1 rv) k1⟩
theorem wi_tup {Kd : List Dt → Cells → Prop} (k : WE X e Γ L Ex fun d L1 => ∃ ds, d = .tup ds ∧ Kd ds L1) : WI X tg e Γ L Ex Kd := fun F0 F σ H R xo s0 S q => by
  refine cI.of (pi_tup pE) ?_
  refine k F0 F σ H _ xo s0 S fun v H1 F1 d L1 e1 S1 r1 ⟨ds, hd, k1⟩ => ?_
  subst hd
  obtain ⟨a, vs, rfl, h1, rv⟩ := r1.tup
  exact ⟨a, rfl, ⟨vs, same_t S1.sub h1⟩, q _ H1 F1 ds L1 e1 S1 (seq_tup h1 rv) k1⟩
/-- a builtin's name that the module leaves as it is -/
def Bn (X : Cx) (x : Str) : Prop := Gl X x ∧ X.mg x = none
theorem wi_range1 {Kd : List Dt → Cells → Prop} (hb : Bn X "range") (k : WA X [a] Γ L Ex fun ds L1 => ∃ n : Int, ds = [.int n] ∧ (-1000000 ≤ n ∧ n ≤ 1000000) ∧ Kd (rngD 0 n.toNat) L1) (hs : starEach [a] X.env = [(false, eval a X.env)] := by rfl) :
    WI X tg (.Call (.Name "range" p) [a] [] pos) Γ L Ex Kd := fun F0 F σ H R xo s0 S q => by
  refine cI.of (pi_range1 hb.1 hb.2 pA hs) ?_
  refine k F0 F σ H _ xo s0 S fun vs H1 F1 ds L1 e1 S1 r1 ⟨n, hd, hl, k1⟩ => ?_
  subst hd
  obtain ⟨v, vr, rfl, ra, rb⟩ := r1.cons_inv
  cases rb.nil_inv
  cases ra.int
  exact ⟨n, rfl, by omega, by omega, q _ H1 F1 _ L1 e1 S1 seq_range k1⟩
theorem wi_range2 {Kd : List Dt → Cells → Prop} (hb : Bn X "range") (k : WA X [a, b] Γ L Ex fun ds L1 => ∃ m n : Int, ds = [.int m, .int n] ∧ (-1000000 ≤ m ∧ m ≤ 1000000 ∧ -1000000 ≤ n ∧ n ≤ 1000000) ∧ Kd (rngD m (n - m).toNat) L1)
    (hs : starEach [a, b] X.env = [(false, eval a X.env), (false, eval b X.env)] := by rfl) (hs2 : starEach [b] X.env = [(false, eval b X.env)] := by rfl) :
    WI X tg (.Call (.Name "range" p) [a, b] [] pos) Γ L Ex Kd := fun F0 F σ H R xo s0 S q => by
  refine cI.of (pi_range2 hb.1 hb.2 pA hs hs2) ?_
  refine k F0 F σ H _ xo s0 S fun vs H1 F1 ds L1 e1 S1 r1 ⟨m, n, hd, hl, k1⟩ => ?_
  subst hd
  obtain ⟨v, vr, rfl, ra, rb⟩ := r1.cons_inv
  obtain ⟨v2, vr2, rfl, ra2, rb2⟩ := rb.cons_inv
  cases rb2.nil_inv
  cases ra.int
  cases ra2.int
  exact ⟨m, n, rfl, ⟨by omega, by omega, by omega, by omega⟩, q _ H1 F1 _ L1 e1 S1 seq_range k1⟩

/-! ### loops -/
/-- for: the word by the turn -/
theorem ws_for (hc : X.calm = true) (hp : PassesOwn (model X.prog X.w) X.A X.env X.xe) (k : WI X tg it Γ L Ex fun ds L1 => ∃ I : Nat → Gm → Cells → Prop, I 0 Γ L1 ∧
      (∀ i d Γ' L', ds[i]? = some d → I i Γ' L' → WG X tg Γ' L' Ex d fun Γ2 L2 => WSs X body Γ2 L2 Ex (En.loop (I (i + 1)))) ∧ ∀ Γ' L', I ds.length Γ' L' → En.nx Γ' L')
    (hfs : ∀ x, foldedSetIterable it X.env x = pure x := by intro _; rfl) : WS X (.For tg it body [] pos) Γ L Ex En := fun F0 F σ H D xo s0 S q => by
  refine cS.of (ps_for hp hc pI pG pSs hfs) ?_
  refine k F0 F σ H _ xo s0 S fun J H1 F1 ds L1 e1 S1 sq ⟨I, h0, ht, hd⟩ => ?_
  refine ⟨fun i m σ' H' => m = ds.length - i ∧ i ≤ ds.length ∧ ∃ F' Γ' L', Same F1 F' ∧ Stt X.K F' Γ' L' σ' H' ∧ I i Γ' L', ⟨ds.length, rfl, Nat.zero_le _, F1, Γ, L1, Same.refl F1, ⟨S1, S.env.mono e1⟩, h0⟩, ?_⟩
  rintro i m σ' H' ⟨rfl, hi, F', Γ', L', e2, S2, p⟩
  have sI := sq F' H' L' i e2 S2.sat
  by_cases hlt : i < ds.length
  · obtain ⟨go, y⟩ := sI.1 ds[i] (List.getElem?_eq_getElem hlt)
    refine .inr ⟨go, fun σ3 H3 => ∃ F3 Γ3 L3, Same F1 F3 ∧ Stt X.K F3 Γ3 L3 σ3 H3 ∧ I (i + 1) Γ3 L3, fun σ3 H3 z => ⟨ds.length - (i + 1), by omega, rfl, hlt, z⟩, fun x H2 hy => ?_⟩
    obtain ⟨F2, e3, S3, rx⟩ := y x H2 hy
    refine ht i ds[i] Γ' L' (List.getElem?_eq_getElem hlt) p F0 F2 σ' H2 x _ xo (((s0.trans e1).trans e2).trans e3) ⟨S3, S2.env.mono e3⟩ rx fun σ4 H4 F4 Γ4 L4 e4 S4 k4 => ?_
    have e14 : Same F1 F4 := (e2.trans e3).trans e4
    refine k4 F0 F4 σ4 H4 _ xo ((s0.trans e1).trans e14) S4 ⟨fun σ5 H5 F5 Γ5 L5 e5 S5 k5 => ⟨F5, Γ5, L5, e14.trans e5, S5, k5⟩, fun v H5 F5 d L5 e5 S5 r5 k5 => q.rt v H5 F5 d L5 (e1.trans (e14.trans e5)) S5 r5 k5,
      fun σ5 H5 F5 Γ5 L5 e5 S5 k5 => q.nx σ5 H5 F5 Γ5 L5 (e1.trans (e14.trans e5)) S5 k5, fun σ5 H5 F5 Γ5 L5 e5 S5 k5 => ⟨F5, Γ5, L5, e14.trans e5, S5, k5⟩⟩
  · have e : i = ds.length := by omega
    subst e
    exact .inl ⟨sI.2 (Nat.le_refl _), q.nx σ' H' F' Γ' L' (e1.trans e2) S2 (hd Γ' L' p)⟩
/-- while: the word by a number that falls -/
theorem ws_while (hp : PassesOwn (model X.prog X.w) X.A X.env X.xe) (I : Nat → Gm → Cells → Prop) (h0 : ∃ m, I m Γ L)
    (ht : ∀ m Γ' L', I m Γ' L' → WT X c Γ' L' Ex fun t L1 => if t = true then WSs X body Γ' L1 Ex (En.loop fun Γ2 L2 => ∃ m', m' < m ∧ I m' Γ2 L2) else En.nx Γ' L1) :
    WS X (.While c body [] pos) Γ L Ex En := fun F0 F σ H D xo s0 S q => by
  refine cS.of (ps_while hp pT pSs) ?_
  obtain ⟨m0, h0⟩ := h0
  refine ⟨fun m σ' H' => ∃ F' Γ' L', Same F F' ∧ Stt X.K F' Γ' L' σ' H' ∧ I m Γ' L', ⟨m0, F, Γ, L, Same.refl F, S, h0⟩, ?_⟩
  rintro m σ' H' ⟨F', Γ', L', e1, S1, p⟩
  refine ht m Γ' L' p F0 F' σ' H' _ xo (s0.trans e1) S1 fun t H2 F2 L2 e2 S2 k2 => ?_
  cases t with
  | true =>
    rw [if_pos rfl] at k2 ⊢
    refine ⟨fun σ3 H3 => ∃ m', m' < m ∧ ∃ F3 Γ3 L3, Same F F3 ∧ Stt X.K F3 Γ3 L3 σ3 H3 ∧ I m' Γ3 L3, fun σ3 H3 ⟨m', hm, z⟩ => ⟨m', hm, z⟩, ?_⟩
    have e12 := e1.trans e2
    exact k2 F0 F2 σ' H2 _ xo (s0.trans e12) ⟨S2, S1.env.mono e2⟩ ⟨fun σ5 H5 F5 Γ5 L5 e5 S5 ⟨m', hm, k5⟩ => ⟨m', hm, F5, Γ5, L5, e12.trans e5, S5, k5⟩, fun v H5 F5 d L5 e5 S5 r5 k5 => q.rt v H5 F5 d L5 (e12.trans e5) S5 r5 k5,
      fun σ5 H5 F5 Γ5 L5 e5 S5 k5 => q.nx σ5 H5 F5 Γ5 L5 (e12.trans e5) S5 k5, fun σ5 H5 F5 Γ5 L5 e5 S5 ⟨m', hm, k5⟩ => ⟨m', hm, F5, Γ5, L5, e12.trans e5, S5, k5⟩⟩
  | false =>
    rw [if_neg Bool.false_ne_true] at k2 ⊢
    exact q.nx σ' H2 F2 Γ' L2 (e1.trans e2) ⟨S2, S1.env.mono e2⟩ k2

/-! ### list comprehensions -/
def wipeG (Γ : Gm) : List Nat → Gm
  | [] => Γ
  | v :: vs => (wipeG Γ vs).set v none
end
theorem EnvR.wipe {K : PySem.W.Frag} {F : Hp} {Γ : Gm} {σ : L2.St} (h : EnvR K F Γ σ) (vs : List Nat) : EnvR K F (wipeG Γ vs) (L2.wipe σ vs) := by
  induction vs with
  | nil => exact h
  | cons v vs ih =>
    refine ⟨by unfold wipeG L2.wipe; rw [List.length_set, List.length_set]; exact ih.1, fun i d q => ?_⟩
    unfold wipeG at q
    by_cases hj : v = i
    · subst hj
      by_cases hl : v < (wipeG Γ vs).length
      · rw [List.getElem?_set_self hl] at q
        cases q
      · rw [List.getElem?_eq_none (by rw [List.length_set]; omega)] at q
        cases q
    · rw [List.getElem?_set_ne hj] at q
      obtain ⟨w, h1, h2⟩ := ih.2 i d q
      exact ⟨w, by unfold L2.wipe; rw [List.getElem?_set_ne hj]; exact h1, h2⟩
theorem set_none_set {α : Type} (l : List (Option α)) (i : Nat) (v : Option α) : (l.set i v).set i none = l.set i none := by
  rw [List.set_set]
/-- the slots that a comprehension's target writes are its own -/
theorem wipe_set {σ : L2.St} {i : Nat} {v : V} : ∀ {vs : List Nat}, i ∈ vs → L2.wipe (σ.set i (some v)) vs = L2.wipe σ vs
  | w :: vs, h => by
    unfold L2.wipe
    by_cases hw : i = w
    · subst hw
      by_cases hm : i ∈ vs
      · rw [wipe_set hm]
      · have e : ∀ (vs : List Nat), i ∉ vs → L2.wipe (σ.set i (some v)) vs = (L2.wipe σ vs).set i (some v) := by
          intro vs
          induction vs with
          | nil => intro _; rfl
          | cons u us ih =>
            intro hu
            unfold L2.wipe
            rw [ih fun z => hu (List.mem_cons_of_mem _ z), List.set_comm _ _ (fun z => hu (by rw [z]; simp))]
        rw [e vs hm, List.set_set]
    · have hm : i ∈ vs := by
        rcases List.mem_cons.mp h with z | z
        · exact absurd z hw
        · exact z
      rw [wipe_set hm]
theorem wipe_wipe (σ : L2.St) : ∀ vs : List Nat, L2.wipe (L2.wipe σ vs) vs = L2.wipe σ vs := fun vs => by
  have e : ∀ (us : List Nat), (∀ u ∈ us, u ∈ vs) → L2.wipe (L2.wipe σ us) vs = L2.wipe σ vs := by
    intro us
    induction us with
    | nil => intro _; rfl
    | cons u us ih =>
      intro h
      have h2 := ih fun w hw => h w (List.mem_cons_of_mem _ hw)
      have h3 : ∀ (τ : L2.St) (vs : List Nat), u ∈ vs → L2.wipe (τ.set u none) vs = L2.wipe τ vs := by
        intro τ vs
        induction vs with
        | nil => intro q; cases q
        | cons x xs ih2 =>
          intro q
          unfold L2.wipe
          by_cases hx : u ∈ xs
          · rw [ih2 hx]
          · have hux : u = x := by
              rcases List.mem_cons.mp q with z | z
              · exact z
              · exact absurd z hx
            subst hux
            have e2 : ∀ (ys : List Nat), u ∉ ys → L2.wipe (τ.set u none) ys = (L2.wipe τ ys).set u none := by
              intro ys
              induction ys with
              | nil => intro _; rfl
              | cons y ys ih3 =>
                intro hy
                unfold L2.wipe
                rw [ih3 fun z => hy (List.mem_cons_of_mem _ z), List.set_comm _ _ (fun z => hy (by rw [z]; simp))]
            rw [e2 xs hx, List.set_set]
      show L2.wipe ((L2.wipe σ us).set u none) vs = _
      rw [h3 _ _ (h u (by simp)), h2]
  exact e vs fun _ h => h
end L3

namespace L3
open PySem PySem.Spec PyProof.Rows L2

/-- nothing is raised -/
abbrev noX : XD := fun _ _ => False
theorem xok_blk {X : Cx} (hx : X.xe = fun _ _ => False) (F0 : Hp) : Xok X F0 noX := fun u s' x => by
  obtain ⟨_, _, _, _, _, _, _, _, _, _, _, _, _, _, _, _, _, _, _, _, _, _, z⟩ := x
  exact z.elim
/-- the block of a comprehension, whatever it stands over -/
abbrev bk (X : Cx) (scope : Scope) (s : Shared) (H : Hp) (C : Addr) (cl : List (Str × Addr)) (fp : List Addr) : Cx := X.blk s H scope (compEnvC scope cl C X.env) fp
def WEB (X : Cx) (scope : Scope) (e : Expr) (Γ : Gm) (L : Cells) (K : KD) : Prop := ∀ s H C cl fp, WE (bk X scope s H C cl fp) e Γ L noX K
def WTB (X : Cx) (scope : Scope) (e : Expr) (Γ : Gm) (L : Cells) (K : KB) : Prop := ∀ s H C cl fp, WT (bk X scope s H C cl fp) e Γ L noX K
def NsB (X : Cx) (scope : Scope) (x : Str) (i : Nat) : Prop := ∀ s H C cl fp, Ns (bk X scope s H C cl fp) x i
def bE (X : Cx) (scope : Scope) (e : Expr) : TE := fun σ H Q => ∀ s H0 C cl fp, cE (bk X scope s H0 C cl fp) e σ H Q
def bT (X : Cx) (scope : Scope) (e : Expr) : TT := fun σ H Q => ∀ s H0 C cl fp, cT (bk X scope s H0 C cl fp) e σ H Q
section
variable {X : Cx} {Γ Γ' : Gm} {L : Cells} {Ex : XD} {K : KD} {e a b c tg it elt : Expr} {es tgs : List Expr} {pos p p' : Pos} {scope : Scope} {own : List (Str × Nat)} {En : En} {x : Str} {i : Nat}
theorem pBE (s : Shared) (H : Hp) (C : Addr) (cl : List (Str × Addr)) (fp : List Addr) : PE (X.blk s H scope (compEnvC scope cl C X.env) fp) e (bE X scope e) := ⟨fun pins s' σ H' Q I h => h s H C cl fp pins s' I⟩
theorem pBT (s : Shared) (H : Hp) (C : Addr) (cl : List (Str × Addr)) (fp : List Addr) : PT (X.blk s H scope (compEnvC scope cl C X.env) fp) e (bT X scope e) := ⟨fun pins s' σ H' Q I h => h s H C cl fp pins s' I⟩
theorem Sat.swap {K : PySem.W.Frag} {F H : Hp} {q : Addr × OC} (S : Sat K F (q :: L) H) : Sat K F L H := S.less (L0 := [])

/-- the turns of a comprehension, by what its target, tests and element do -/
theorem lc_turns {g : TG} {tt : TT} {te : TE} {vs : List Nat} (k : WI X tg it Γ L Ex fun ds L1 => ∃ I : Nat → List Dt → Cells → Prop, I 0 [] L1 ∧
      (∀ i d acc L' (D : Addr), ds[i]? = some d → I i acc L' → ∀ F σ H v (Nx : Hp → Prop), EnvR X.K F (wipeG Γ vs) (L2.wipe σ vs) → Sat X.K F ((D, .lst acc) :: L') H → Rep X.K F d v →
        (∀ H4 F4 L4 y w, Same F F4 → Sat X.K F4 ((D, .lst acc) :: L4) H4 → Rep X.K F4 y w → acc.length < 1000000 → I (i + 1) (acc ++ [y]) L4 → ∃ a4, H4 D = some (.lst a4) ∧ a4.length < sizeLine ∧ Nx (upd H4 D (.lst (a4 ++ [w])))) →
        (∀ H4 F4 L4, Same F F4 → Sat X.K F4 ((D, .lst acc) :: L4) H4 → I (i + 1) acc L4 → Nx H4) →
        g v (L2.wipe σ vs) H fun σ2 H2 => L2.wipe σ2 vs = L2.wipe σ vs ∧ tt σ2 H2 fun b H3 => if b = true then te σ2 H3 fun y H4 => ∃ a4, H4 D = some (.lst a4) ∧ a4.length < sizeLine ∧ Nx (upd H4 D (.lst (a4 ++ [y]))) else Nx H3) ∧
      ∀ acc L', I ds.length acc L' → K (.lst acc) L') (F0 F : Hp) (σ : L2.St) (H : Hp) (Q : VK) (xo : Xok X F0 Ex) (s0 : Same F0 F) (S : Stt X.K F Γ L σ H)
    (q : ∀ v H' F' d L', Same F F' → Sat X.K F' L' H' → Rep X.K F' d v → K d L' → Q v H') : tLc (cI X tg it) g tt te vs σ H Q := by
  refine k F0 F σ H _ xo s0 S fun J H1 F1 ds L1 e1 S1 sq ⟨I, h0, ht, hd⟩ => ?_
  intro D hD
  have S1' : Sat X.K F1 ((D, .lst []) :: L1) (upd H1 D (.lst [])) := S1.new (oc := .lst []) hD ⟨[], rfl, .nil⟩
  refine ⟨fun i m H' => m = ds.length - i ∧ i ≤ ds.length ∧ ∃ F' acc L', Same F1 F' ∧ Sat X.K F' ((D, .lst acc) :: L') H' ∧ I i acc L', ⟨ds.length, rfl, Nat.zero_le _, F1, [], L1, Same.refl F1, S1', h0⟩, ?_⟩
  rintro i m H' ⟨rfl, hi, F', acc, L', e2, S2, p⟩
  have sI := sq F' H' _ i e2 S2
  by_cases hlt : i < ds.length
  · obtain ⟨go, y⟩ := sI.1 ds[i] (List.getElem?_eq_getElem hlt)
    refine .inr ⟨go, fun H3 => ∃ F3 acc3 L3, Same F1 F3 ∧ Sat X.K F3 ((D, .lst acc3) :: L3) H3 ∧ I (i + 1) acc3 L3, fun H3 z => ⟨ds.length - (i + 1), by omega, rfl, hlt, z⟩, fun v H2 hy => ?_⟩
    obtain ⟨F2, e3, S3, rx⟩ := y v H2 hy
    refine ht i ds[i] acc L' D (List.getElem?_eq_getElem hlt) p F2 σ H2 v _ ((S.env.mono ((e1.trans e2).trans e3)).wipe vs) S3 rx (fun H4 F4 L4 y4 w e4 S4 r4 hl k4 => ?_) (fun H4 F4 L4 e4 S4 k4 => ⟨F4, acc, L4, (e2.trans e3).trans e4, S4, k4⟩)
    obtain ⟨o, ho, u, eo, ru⟩ := S4.own (D, .lst acc) (by simp)
    have eo' : o = .lst u := eo
    subst eo'
    refine ⟨u, ho, line_lt (by rw [← ru.length]; exact hl), F4, acc ++ [y4], L4, (e2.trans e3).trans e4, ?_, k4⟩
    exact S4.write (L0 := []) (oc' := .lst (acc ++ [y4])) ⟨_, rfl, ru.append (.cons r4 .nil)⟩
  · have e : i = ds.length := by omega
    subst e
    refine .inl ⟨sI.2 (Nat.le_refl _), ?_⟩
    obtain ⟨o, ho, u, eo, ru⟩ := S2.own (D, .lst acc) (by simp)
    have eo' : o = .lst u := eo
    subst eo'
    have hF : F' D = none := S2.fre (D, .lst acc) (by simp)
    exact q _ H' _ (.lst acc) L' ((e1.trans e2).trans (same_new hF)) (S2.freeze (L0 := []) ho) (Rep.mkLst upd_same (ru.mono (same_new hF))) (hd acc L' p)
end
theorem takes_wipe {K : PySem.W.Frag} {F : Hp} {Γ Γ2 : Gm} {σ : L2.St} {i : Nat} {d : Dt} {v : V} (h : EnvR K F Γ σ) (r : Rep K F d v) (g : Sa Γ i d Γ2) : EnvR K F Γ2 (σ.set i (some v)) := by
  rw [← g.set]
  exact h.set r i
section
variable {X : Cx} {Γ Γ' : Gm} {L : Cells} {Ex : XD} {K : KD} {e a b c tg it elt : Expr} {es tgs : List Expr} {pos p p' : Pos} {scope : Scope} {own : List (Str × Nat)} {En : En} {x : Str} {j : Nat}
/-- what a turn of [elt for x in it] asks -/
def LcT (X : Cx) (scope : Scope) (elt : Expr) (Γw : Gm) (j : Nat) (ds : List Dt) (I : Nat → List Dt → Cells → Prop) : Prop :=
  ∀ i d acc L' (D : Addr), ds[i]? = some d → I i acc L' → ∃ Γ2, Sa Γw j d Γ2 ∧ WEB X scope elt Γ2 ((D, .lst acc) :: L') fun y L4 => ∃ L3, L4 = (D, .lst acc) :: L3 ∧ acc.length < 1000000 ∧ I (i + 1) (acc ++ [y]) L3
def LcTI (X : Cx) (scope : Scope) (elt c : Expr) (Γw : Gm) (j : Nat) (ds : List Dt) (I : Nat → List Dt → Cells → Prop) : Prop :=
  ∀ i d acc L' (D : Addr), ds[i]? = some d → I i acc L' → ∃ Γ2, Sa Γw j d Γ2 ∧ WTB X scope c Γ2 ((D, .lst acc) :: L') fun t L5 =>
    if t = true then WEB X scope elt Γ2 L5 fun y L4 => ∃ L3, L4 = (D, .lst acc) :: L3 ∧ acc.length < 1000000 ∧ I (i + 1) (acc ++ [y]) L3 else ∃ L3, L5 = (D, .lst acc) :: L3 ∧ I (i + 1) acc L3
theorem lcT_use {vs : List Nat} {ds : List Dt} {I : Nat → List Dt → Cells → Prop} (hj : j ∈ vs) (t : LcT X scope elt (wipeG Γ vs) j ds I) (i : Nat) (d : Dt) (acc : List Dt) (L' : Cells) (D : Addr) (hd : ds[i]? = some d) (h : I i acc L') (F : Hp) (σ : L2.St) (H : Hp) (v : V) (Nx : Hp → Prop)
    (en : EnvR X.K F (wipeG Γ vs) (L2.wipe σ vs)) (S : Sat X.K F ((D, .lst acc) :: L') H) (r : Rep X.K F d v)
    (k1 : ∀ H4 F4 L4 y w, Same F F4 → Sat X.K F4 ((D, .lst acc) :: L4) H4 → Rep X.K F4 y w → acc.length < 1000000 → I (i + 1) (acc ++ [y]) L4 → ∃ a4, H4 D = some (.lst a4) ∧ a4.length < sizeLine ∧ Nx (upd H4 D (.lst (a4 ++ [w])))) :
    gName j v (L2.wipe σ vs) H fun σ2 H2 => L2.wipe σ2 vs = L2.wipe σ vs ∧ tYes σ2 H2 fun b H3 => if b = true then bE X scope elt σ2 H3 fun y H4 => ∃ a4, H4 D = some (.lst a4) ∧ a4.length < sizeLine ∧ Nx (upd H4 D (.lst (a4 ++ [y]))) else Nx H3 := by
  obtain ⟨Γ2, g, w⟩ := t i d acc L' D hd h
  refine ⟨by rw [wipe_set hj, wipe_wipe], ?_⟩
  unfold tYes
  simp only [if_true]
  intro s H0 C cl fp
  refine w s H0 C cl fp F F _ H _ (xok_blk rfl F) (Same.refl F) ⟨S, takes_wipe en r g⟩ fun u H4 F4 y L4 e4 S4 r4 ⟨L3, e, hl, hI⟩ => ?_
  subst e
  exact k1 H4 F4 L3 y u e4 S4 r4 hl hI
theorem lcTI_use {vs : List Nat} {ds : List Dt} {I : Nat → List Dt → Cells → Prop} (hj : j ∈ vs) (t : LcTI X scope elt c (wipeG Γ vs) j ds I) (i : Nat) (d : Dt) (acc : List Dt) (L' : Cells) (D : Addr) (hd : ds[i]? = some d) (h : I i acc L') (F : Hp) (σ : L2.St) (H : Hp) (v : V) (Nx : Hp → Prop)
    (en : EnvR X.K F (wipeG Γ vs) (L2.wipe σ vs)) (S : Sat X.K F ((D, .lst acc) :: L') H) (r : Rep X.K F d v)
    (k1 : ∀ H4 F4 L4 y w, Same F F4 → Sat X.K F4 ((D, .lst acc) :: L4) H4 → Rep X.K F4 y w → acc.length < 1000000 → I (i + 1) (acc ++ [y]) L4 → ∃ a4, H4 D = some (.lst a4) ∧ a4.length < sizeLine ∧ Nx (upd H4 D (.lst (a4 ++ [w]))))
    (k2 : ∀ H4 F4 L4, Same F F4 → Sat X.K F4 ((D, .lst acc) :: L4) H4 → I (i + 1) acc L4 → Nx H4) :
    gName j v (L2.wipe σ vs) H fun σ2 H2 => L2.wipe σ2 vs = L2.wipe σ vs ∧ bT X scope c σ2 H2 fun b H3 => if b = true then bE X scope elt σ2 H3 fun y H4 => ∃ a4, H4 D = some (.lst a4) ∧ a4.length < sizeLine ∧ Nx (upd H4 D (.lst (a4 ++ [y]))) else Nx H3 := by
  obtain ⟨Γ2, g, w⟩ := t i d acc L' D hd h
  refine ⟨by rw [wipe_set hj, wipe_wipe], ?_⟩
  intro s H0 C cl fp
  have en2 := takes_wipe en r g
  refine w s H0 C cl fp F F _ H _ (xok_blk rfl F) (Same.refl F) ⟨S, en2⟩ fun b H3 F3 L5 e3 S3 k3 => ?_
  cases b with
  | true =>
    rw [if_pos rfl] at k3 ⊢
    intro s H0 C cl fp
    refine k3 s H0 C cl fp F3 F3 _ H3 _ (xok_blk rfl F3) (Same.refl F3) ⟨S3, en2.mono e3⟩ fun u H4 F4 y L4 e4 S4 r4 ⟨L3, e, hl, hI⟩ => ?_
    subst e
    exact k1 H4 F4 L3 y u (e3.trans e4) S4 r4 hl hI
  | false =>
    rw [if_neg Bool.false_ne_true] at k3 ⊢
    obtain ⟨L3, e, hI⟩ := k3
    subst e
    exact k2 H3 F3 L3 e3 S3 hI
theorem we_lc (hc : X.calm = true) (hN : X.N.Nodup) (ok : BlkOk X.N X.env.scope scope own) (hj : j ∈ own.map (·.2)) (n : NsB X scope x j)
    (k : WI X (.Name x p') it Γ L Ex fun ds L1 => ∃ I : Nat → List Dt → Cells → Prop, I 0 [] L1 ∧ LcT X scope elt (wipeG Γ (own.map (·.2))) j ds I ∧ ∀ acc L', I ds.length acc L' → K (.lst acc) L')
    (hfs : ∀ y, foldedSetIterable it X.env y = pure y := by intro _; rfl) : WE X (.ListComp elt [⟨.Name x p', it, [], 0⟩] scope pos) Γ L Ex K := fun F0 F σ H Q xo s0 S q => by
  refine cE.of (pe_lc (own := own) (g := gName j) (tt := tYes) hc hN pI ok (fun s H C cl fp => pg_name (n s H C cl fp).1 (n s H C cl fp).2.1 (n s H C cl fp).2.2.1 (n s H C cl fp).2.2.2) (fun s H C cl fp => pts_nil) pBE hfs) ?_
  refine lc_turns (K := K) ?_ F0 F σ H Q xo s0 S q
  intro F0 F σ H R xo s0 S q
  refine k F0 F σ H R xo s0 S fun J H1 F1 ds L1 e1 S1 sq ⟨I, h0, ht, hd⟩ => q J H1 F1 ds L1 e1 S1 sq ⟨I, h0, fun i d acc L' D hdi h F σ H v Nx en S r k1 k2 => lcT_use hj ht i d acc L' D hdi h F σ H v Nx en S r k1, hd⟩
theorem we_lcI (hc : X.calm = true) (hN : X.N.Nodup) (ok : BlkOk X.N X.env.scope scope own) (hj : j ∈ own.map (·.2)) (n : NsB X scope x j)
    (k : WI X (.Name x p') it Γ L Ex fun ds L1 => ∃ I : Nat → List Dt → Cells → Prop, I 0 [] L1 ∧ LcTI X scope elt c (wipeG Γ (own.map (·.2))) j ds I ∧ ∀ acc L', I ds.length acc L' → K (.lst acc) L')
    (hfs : ∀ y, foldedSetIterable it X.env y = pure y := by intro _; rfl) : WE X (.ListComp elt [⟨.Name x p', it, [c], 0⟩] scope pos) Γ L Ex K := fun F0 F σ H Q xo s0 S q => by
  refine cE.of (pe_lc (own := own) (g := gName j) (tt := bT X scope c) hc hN pI ok (fun s H C cl fp => pg_name (n s H C cl fp).1 (n s H C cl fp).2.1 (n s H C cl fp).2.2.1 (n s H C cl fp).2.2.2) (fun s H C cl fp => pts_one (pBT s H C cl fp)) pBE hfs) ?_
  refine lc_turns (K := K) ?_ F0 F σ H Q xo s0 S q
  intro F0 F σ H R xo s0 S q
  refine k F0 F σ H R xo s0 S fun J H1 F1 ds L1 e1 S1 sq ⟨I, h0, ht, hd⟩ => q J H1 F1 ds L1 e1 S1 sq ⟨I, h0, fun i d acc L' D hdi h F σ H v Nx en S r k1 k2 => lcTI_use hj ht i d acc L' D hdi h F σ H v Nx en S r k1 k2, hd⟩
/-- y = [..], the store within -/
theorem ws_setLc {y : Str} {jy : Nat} {py spos : Pos} (hc : X.calm = true) (hN : X.N.Nodup) (hy : X.N[jy]? = some y) (hly : X.env.scope.names.lookup y = some .local) (ok : BlkOk X.N X.env.scope scope own) (hj : j ∈ own.map (·.2)) (n : NsB X scope x j)
    (k : WI X (.Name x p') it Γ L Ex fun ds L1 => ∃ I : Nat → List Dt → Cells → Prop, I 0 [] L1 ∧ LcT X scope elt (wipeG Γ (own.map (·.2))) j ds I ∧ ∀ acc L', I ds.length acc L' → ∃ Γ', Sa Γ jy (.lst acc) Γ' ∧ En.nx Γ' L')
    (hsw : swapsWith (.ListComp elt [⟨.Name x p', it, [], 0⟩] scope pos) (some (.Name y py)) spos.line X.env = pure true)
    (hfs : ∀ y, foldedSetIterable it X.env y = pure y := by intro _; rfl) : WS X (.Assign [.Name y py] (.ListComp elt [⟨.Name x p', it, [], 0⟩] scope pos) spos) Γ L Ex En := fun F0 F σ H D xo s0 S q => by
  refine cS.of (ps_setLc (i := jy) (own := own) (g := gName j) (tt := tYes) hc hN hy hly hsw pI ok (fun s H C cl fp => pg_name (n s H C cl fp).1 (n s H C cl fp).2.1 (n s H C cl fp).2.2.1 (n s H C cl fp).2.2.2) (fun s H C cl fp => pts_nil) pBE hfs) ?_
  refine lc_turns (K := fun d L' => ∃ Γ', Sa Γ jy d Γ' ∧ En.nx Γ' L') ?_ F0 F σ H _ xo s0 S fun v H1 F1 d L1 e1 S1 r1 ⟨Γ', g, k1⟩ => ?_
  · intro F0 F σ H R xo s0 S q
    refine k F0 F σ H R xo s0 S fun J H1 F1 ds L1 e1 S1 sq ⟨I, h0, ht, hd⟩ => q J H1 F1 ds L1 e1 S1 sq ⟨I, h0, fun i d acc L' D hdi h F σ H v Nx en S r k1 k2 => lcT_use hj ht i d acc L' D hdi h F σ H v Nx en S r k1, hd⟩
  · rw [← g.set] at k1
    exact q.nx _ H1 F1 _ L1 e1 ⟨S1, (S.env.mono e1).set r1 jy⟩ k1
theorem ws_setLcI {y : Str} {jy : Nat} {py spos : Pos} (hc : X.calm = true) (hN : X.N.Nodup) (hy : X.N[jy]? = some y) (hly : X.env.scope.names.lookup y = some .local) (ok : BlkOk X.N X.env.scope scope own) (hj : j ∈ own.map (·.2)) (n : NsB X scope x j)
    (k : WI X (.Name x p') it Γ L Ex fun ds L1 => ∃ I : Nat → List Dt → Cells → Prop, I 0 [] L1 ∧ LcTI X scope elt c (wipeG Γ (own.map (·.2))) j ds I ∧ ∀ acc L', I ds.length acc L' → ∃ Γ', Sa Γ jy (.lst acc) Γ' ∧ En.nx Γ' L')
    (hsw : swapsWith (.ListComp elt [⟨.Name x p', it, [c], 0⟩] scope pos) (some (.Name y py)) spos.line X.env = pure true)
    (hfs : ∀ y, foldedSetIterable it X.env y = pure y := by intro _; rfl) : WS X (.Assign [.Name y py] (.ListComp elt [⟨.Name x p', it, [c], 0⟩] scope pos) spos) Γ L Ex En := fun F0 F σ H D xo s0 S q => by
  refine cS.of (ps_setLc (i := jy) (own := own) (g := gName j) (tt := bT X scope c) hc hN hy hly hsw pI ok (fun s H C cl fp => pg_name (n s H C cl fp).1 (n s H C cl fp).2.1 (n s H C cl fp).2.2.1 (n s H C cl fp).2.2.2) (fun s H C cl fp => pts_one (pBT s H C cl fp)) pBE hfs) ?_
  refine lc_turns (K := fun d L' => ∃ Γ', Sa Γ jy d Γ' ∧ En.nx Γ' L') ?_ F0 F σ H _ xo s0 S fun v H1 F1 d L1 e1 S1 r1 ⟨Γ', g, k1⟩ => ?_
  · intro F0 F σ H R xo s0 S q
    refine k F0 F σ H R xo s0 S fun J H1 F1 ds L1 e1 S1 sq ⟨I, h0, ht, hd⟩ => q J H1 F1 ds L1 e1 S1 sq ⟨I, h0, fun i d acc L' D hdi h F σ H v Nx en S r k1 k2 => lcTI_use hj ht i d acc L' D hdi h F σ H v Nx en S r k1 k2, hd⟩
  · rw [← g.set] at k1
    exact q.nx _ H1 F1 _ L1 e1 ⟨S1, (S.env.mono e1).set r1 jy⟩ k1
end
end L3

namespace L3
open PySem PySem.Spec PyProof.Rows L2

/-- a list that may be read: frozen, handed in, or a cell -/
def IsL (d : Dt) (L : Cells) (ds : List Dt) : Prop := d = .lst ds ∨ d = .rdl ds ∨ ∃ a, d = .ref a ∧ (a, OC.lst ds) ∈ L
theorem IsL.at {K : PySem.W.Frag} {F H : Hp} {L : Cells} {d : Dt} {v : V} {ds : List Dt} (h : IsL d L ds) (S : Sat K F L H) (r : Rep K F d v) : ∃ a vs, v = .ref a ∧ SqL K H a vs ∧ Reps K F ds vs := by
  rcases h with rfl | rfl | ⟨a, rfl, hc⟩
  · obtain ⟨a, vs, rfl, h1, rv⟩ := r.lst
    exact ⟨a, vs, rfl, SqL.of (S.sub _ _ h1), rv⟩
  · obtain ⟨a, vs, rfl, h1, rv⟩ := r.rdl
    exact ⟨a, vs, rfl, same_l S.sub h1, rv⟩
  · obtain ⟨o, ho, vs, rfl, rv⟩ := S.own _ hc
    exact ⟨a, vs, r.ref, SqL.of ho, rv⟩
abbrev CRD := List Dt → Cells → KD → Prop
/-- a call of a builtin, told over data -/
def CaD (X : Cx) (f : Value) (R : CRD) : Prop := ∃ r, CallR X f r ∧ ∀ (F H : Hp) (L : Cells) (ds : List Dt) (vs : List V) (K : KD) (Q : VK), Sat X.K F L H → Reps X.K F ds vs → R ds L K →
  (∀ v' H' F' d L', Same F F' → Sat X.K F' L' H' → Rep X.K F' d v' → K d L' → Q v' H') → r vs H Q
theorem CaD.or {X : Cx} {f : Value} {R R' : CRD} (h : CaD X f R) (h' : CaD X f R') : CaD X f (fun ds L K => R ds L K ∨ R' ds L K) := by
  obtain ⟨r, h1, h2⟩ := h
  obtain ⟨r', h1', h2'⟩ := h'
  refine ⟨_, h1.or h1', fun F H L ds vs K Q S rs q k => ?_⟩
  rcases q with q | q
  · exact .inl (h2 F H L ds vs K Q S rs q k)
  · exact .inr (h2' F H L ds vs K Q S rs q k)
theorem reps1 {K : PySem.W.Frag} {F : Hp} {x : Dt} {vs : List V} (r : Reps K F [x] vs) : ∃ v, vs = [v] ∧ Rep K F x v := by
  obtain ⟨v, r', rfl, h1, h2⟩ := r.cons_inv
  cases h2.nil_inv
  exact ⟨v, rfl, h1⟩
theorem reps2 {K : PySem.W.Frag} {F : Hp} {x y : Dt} {vs : List V} (r : Reps K F [x, y] vs) : ∃ v w, vs = [v, w] ∧ Rep K F x v ∧ Rep K F y w := by
  obtain ⟨v, r', rfl, h1, h2⟩ := r.cons_inv
  obtain ⟨w, rfl, h3⟩ := reps1 h2
  exact ⟨v, w, rfl, h1, h3⟩
section
variable {X : Cx} {Γ : Gm} {L : Cells} {Ex : XD} {K : KD} {a b e o : Expr} {es : List Expr} {pos p apos cpos : Pos} {x : Str}
theorem we_blt {id : String} {R : CRD} (hc : CaD X (.builtin id) R) (hb : Bn X x) (hv : bootBuiltins x = some (.builtin id)) (k : WA X (e :: es) Γ L Ex fun ds L1 => R ds L1 K) (hn : x ≠ "__name__" := by decide) (hdb : (x == ("__debug__" : Str)) = false := by decide)
    (he : starEach (e :: es) X.env = (false, eval e X.env) :: starEach es X.env := by rfl) (hpl : (backTo pos (starEach es X.env)).any (·.1) = false := by rfl) : WE X (.Call (.Name x p) (e :: es) [] pos) Γ L Ex K := fun F0 F σ H Q xo s0 S q => by
  obtain ⟨r, h1, h2⟩ := hc
  refine cE.of (pe_callB h1 hb.1 hb.2 hv pA hn hdb he hpl) ?_
  refine k F0 F σ H _ xo s0 S fun vs H1 F1 ds L1 e1 S1 r1 k1 => ?_
  exact h2 F1 H1 L1 ds vs K Q S1 r1 k1 fun v' H' F' d L' e3 => q v' H' F' d L' (e1.trans e3)
theorem we_bty {T : String} {R : CRD} (hc : CaD X (.type T) R) (hb : Bn X x) (hv : bootBuiltins x = some (.type T)) (k : WA X (e :: es) Γ L Ex fun ds L1 => R ds L1 K) (hn : x ≠ "__name__" := by decide) (hdb : (x == ("__debug__" : Str)) = false := by decide)
    (he : starEach (e :: es) X.env = (false, eval e X.env) :: starEach es X.env := by rfl) (hpl : (backTo pos (starEach es X.env)).any (·.1) = false := by rfl) : WE X (.Call (.Name x p) (e :: es) [] pos) Γ L Ex K := fun F0 F σ H Q xo s0 S q => by
  obtain ⟨r, h1, h2⟩ := hc
  refine cE.of (pe_callTy h1 hb.1 hb.2 hv pA hn hdb he hpl) ?_
  refine k F0 F σ H _ xo s0 S fun vs H1 F1 ds L1 e1 S1 r1 k1 => ?_
  exact h2 F1 H1 L1 ds vs K Q S1 r1 k1 fun v' H' F' d L' e3 => q v' H' F' d L' (e1.trans e3)
/-- a builtin class as a value -/
theorem we_btn {T : String} (hb : Bn X x) (hv : bootBuiltins x = some (.type T)) (k : K (.ty T) L) (hn : x ≠ "__name__" := by decide) (hdb : (x == ("__debug__" : Str)) = false := by decide) : WE X (.Name x p) Γ L Ex K := fun F0 F σ H Q xo s0 S q =>
  cE.of (pe_bltn (v := .ty T) hb.1 hb.2 hv rfl hn hdb) (q _ H F _ L (Same.refl F) S.sat (Rep.mkTy T) k)
/-- a class (or def) of the module as a value -/
theorem we_glo {C : Addr} (hg : Gl X x) (hm : X.mg x = some (.ref C)) (k : K (.ref C) L) (hdb : (x == ("__debug__" : Str)) = false := by decide) : WE X (.Name x p) Γ L Ex K := fun F0 F σ H Q xo s0 S q =>
  cE.of (pe_glob (v := .ref C) hg hm rfl hdb) (q _ H F _ L (Same.refl F) S.sat (Rep.mkRef C) k)
/-! ### the builtins -/
def rLen : CRD := fun ds L K => ∃ d, ds = [d] ∧ ((∃ xs, IsL d L xs ∧ K (.int xs.length) L) ∨ (∃ xs, d = .tup xs ∧ K (.int xs.length) L) ∨ ∃ z, d = .str z ∧ z.length ≤ 1000000 ∧ K (.int z.length) L)
theorem b_len : CaD X (.builtin "len") rLen := ⟨_, call_len, fun F H L ds vs K Q S rs ⟨d, e, h⟩ k => by
  subst e
  obtain ⟨v, rfl, r⟩ := reps1 rs
  rcases h with ⟨xs, hl, hk⟩ | ⟨xs, rfl, hk⟩ | ⟨z, rfl, hz, hk⟩
  · obtain ⟨a, ws, rfl, hq, rw'⟩ := hl.at S r
    exact ⟨_, xs.length, rfl, .inl ⟨ws, hq, rw'.length⟩, k _ H F _ L (Same.refl F) S (Rep.mkInt _) hk⟩
  · obtain ⟨a, ws, rfl, hq, rw'⟩ := r.tup
    exact ⟨_, xs.length, rfl, .inr ⟨ws, same_t S.sub hq, rw'.length⟩, k _ H F _ L (Same.refl F) S (Rep.mkInt _) hk⟩
  · cases r.str
    exact ⟨_, z.length, rfl, ⟨line_of hz, rfl⟩, k _ H F _ L (Same.refl F) S (Rep.mkInt _) hk⟩⟩
theorem len_l {d : Dt} {xs : List Dt} (h : IsL d L xs) (k : K (.int xs.length) L) : rLen [d] L K := ⟨d, rfl, .inl ⟨xs, h, k⟩⟩
theorem len_lst {xs : List Dt} (k : K (.int xs.length) L) : rLen [.lst xs] L K := len_l (.inl rfl) k
theorem len_rdl {xs : List Dt} (k : K (.int xs.length) L) : rLen [.rdl xs] L K := len_l (.inr (.inl rfl)) k
theorem len_own {a : Addr} {xs : List Dt} {f : OC → Cells} (h : Has L a (.lst xs) f) (k : K (.int xs.length) L) : rLen [.ref a] L K := len_l (.inr (.inr ⟨a, rfl, h.mem⟩)) k
theorem len_tup {xs : List Dt} (k : K (.int xs.length) L) : rLen [.tup xs] L K := ⟨_, rfl, .inr (.inl ⟨xs, rfl, k⟩)⟩
theorem len_str {z : Str} (h : z.length ≤ 1000000) (k : K (.int z.length) L) : rLen [.str z] L K := ⟨_, rfl, .inr (.inr ⟨z, rfl, h, k⟩)⟩
def rIntC : CRD := fun ds L K => (∃ i, ds = [.int i] ∧ K (.int i) L) ∨ ∃ t, ds = [.bl t] ∧ K (.int (if t then 1 else 0)) L
theorem b_int : CaD X (.type "int") rIntC := ⟨_, call_int1, fun F H L ds vs K Q S rs h k => by
  rcases h with ⟨i, rfl, hk⟩ | ⟨i, rfl, hk⟩
  · obtain ⟨v, rfl, r⟩ := reps1 rs
    cases r.int
    exact .inl ⟨i, rfl, k _ H F _ L (Same.refl F) S (Rep.mkInt _) hk⟩
  · obtain ⟨v, rfl, r⟩ := reps1 rs
    cases r.bl
    exact .inr ⟨i, rfl, k _ H F _ L (Same.refl F) S (Rep.mkInt _) hk⟩⟩
theorem int_int {i : Int} (k : K (.int i) L) : rIntC [.int i] L K := .inl ⟨i, rfl, k⟩
theorem int_bl {t : Bool} (k : K (.int (if t then 1 else 0)) L) : rIntC [.bl t] L K := .inr ⟨t, rfl, k⟩
def rI1 (C : Int → Prop) (g : Int → Dt) : CRD := fun ds L K => ∃ i, ds = [.int i] ∧ C i ∧ K (g i) L
def rI2 (C : Int → Int → Prop) (g : Int → Int → Dt) : CRD := fun ds L K => ∃ i j, ds = [.int i, .int j] ∧ C i j ∧ K (g i j) L
theorem i1 {C : Int → Prop} {g : Int → Dt} {i : Int} (c : C i) (k : K (g i) L) : rI1 C g [.int i] L K := ⟨i, rfl, c, k⟩
theorem i2 {C : Int → Int → Prop} {g : Int → Int → Dt} {i j : Int} (c : C i j) (k : K (g i j) L) : rI2 C g [.int i, .int j] L K := ⟨i, j, rfl, c, k⟩
abbrev T1 : Int → Prop := fun _ => True
theorem b_abs : CaD X (.builtin "abs") (rI1 T1 fun i => .int (if i < 0 then -i else i)) := ⟨_, call_abs, fun F H L ds vs K Q S rs ⟨i, e, _, hk⟩ k => by
  subst e
  obtain ⟨v, rfl, r⟩ := reps1 rs
  cases r.int
  exact ⟨i, rfl, k _ H F _ L (Same.refl F) S (Rep.mkInt _) hk⟩⟩
theorem b_str : CaD X (.type "str") (rI1 (fun i => i.natAbs.log2 < 1920) fun i => .str (toString i)) := ⟨_, call_str_int, fun F H L ds vs K Q S rs ⟨i, e, c, hk⟩ k => by
  subst e
  obtain ⟨v, rfl, r⟩ := reps1 rs
  cases r.int
  exact ⟨i, rfl, c, k _ H F _ L (Same.refl F) S (Rep.mkStr _) hk⟩⟩
theorem b_max2 (hc : X.calm = true) : CaD X (.builtin "max") (rI2 T0 fun i j => .int (if j > i then j else i)) := ⟨_, call_max2 hc, fun F H L ds vs K Q S rs ⟨i, j, e, _, hk⟩ k => by
  subst e
  obtain ⟨v, w, rfl, r, r'⟩ := reps2 rs
  cases r.int
  cases r'.int
  exact ⟨i, j, rfl, k _ H F _ L (Same.refl F) S (Rep.mkInt _) hk⟩⟩
theorem b_min2 (hc : X.calm = true) : CaD X (.builtin "min") (rI2 T0 fun i j => .int (if j < i then j else i)) := ⟨_, call_min2 hc, fun F H L ds vs K Q S rs ⟨i, j, e, _, hk⟩ k => by
  subst e
  obtain ⟨v, w, rfl, r, r'⟩ := reps2 rs
  cases r.int
  cases r'.int
  exact ⟨i, j, rfl, k _ H F _ L (Same.refl F) S (Rep.mkInt _) hk⟩⟩
theorem b_divmod : CaD X (.builtin "divmod") (rI2 CDiv fun i j => .tup [.int (i / j), .int (i % j)]) := ⟨_, call_divmod, fun F H L ds vs K Q S rs ⟨i, j, e, c, hk⟩ k => by
  subst e
  obtain ⟨v, w, rfl, r, r'⟩ := reps2 rs
  cases r.int
  cases r'.int
  refine ⟨i, j, rfl, c, fun p hp => ?_⟩
  exact k _ _ _ _ L (same_new (none_back S.sub hp)) (S.newF hp) (Rep.mkTup (SqT.of upd_same) (.cons (Rep.mkInt _) (.cons (Rep.mkInt _) .nil))) hk⟩
def rListC : CRD := fun ds L K => ∃ d xs, ds = [d] ∧ (IsL d L xs ∨ d = .tup xs) ∧ K (.lst xs) L
theorem b_list : CaD X (.type "list") rListC := ⟨_, call_list_of, fun F H L ds vs K Q S rs ⟨d, xs, e, h, hk⟩ k => by
  subst e
  obtain ⟨v, rfl, r⟩ := reps1 rs
  have fin : ∀ ws, Reps X.K F xs ws → ∀ p, H p = none → Q (.ref p) (upd H p (.lst ws)) := fun ws rw' p hp => by
    have hF := none_back S.sub hp
    exact k _ _ _ _ L (same_new hF) (S.newF hp) (Rep.mkLst upd_same (rw'.mono (same_new hF))) hk
  rcases h with h | rfl
  · obtain ⟨a, ws, rfl, hq, rw'⟩ := h.at S r
    exact ⟨a, ws, rfl, .inl hq, fin ws rw'⟩
  · obtain ⟨a, ws, rfl, hq, rw'⟩ := r.tup
    exact ⟨a, ws, rfl, .inr (same_t S.sub hq), fin ws rw'⟩⟩
theorem list_l {d : Dt} {xs : List Dt} (h : IsL d L xs) (k : K (.lst xs) L) : rListC [d] L K := ⟨d, xs, rfl, .inl h, k⟩
theorem list_lst {xs : List Dt} (k : K (.lst xs) L) : rListC [.lst xs] L K := ⟨_, xs, rfl, .inl (.inl rfl), k⟩
theorem list_tup {xs : List Dt} (k : K (.lst xs) L) : rListC [.tup xs] L K := ⟨_, xs, rfl, .inr rfl, k⟩
/-- list(..), to be changed by the def itself -/
def rListO : CRD := fun ds L K => ∃ d xs, ds = [d] ∧ (IsL d L xs ∨ d = .tup xs) ∧ ∀ a, K (.ref a) ((a, .lst xs) :: L)
theorem b_listO : CaD X (.type "list") rListO := ⟨_, call_list_of, fun F H L ds vs K Q S rs ⟨d, xs, e, h, hk⟩ k => by
  subst e
  obtain ⟨v, rfl, r⟩ := reps1 rs
  have fin : ∀ ws, Reps X.K F xs ws → ∀ p, H p = none → Q (.ref p) (upd H p (.lst ws)) := fun ws rw' p hp => k _ _ _ _ _ (Same.refl F) (S.new (oc := .lst xs) hp ⟨ws, rfl, rw'⟩) (Rep.mkRef p) (hk p)
  rcases h with h | rfl
  · obtain ⟨a, ws, rfl, hq, rw'⟩ := h.at S r
    exact ⟨a, ws, rfl, .inl hq, fin ws rw'⟩
  · obtain ⟨a, ws, rfl, hq, rw'⟩ := r.tup
    exact ⟨a, ws, rfl, .inr (same_t S.sub hq), fin ws rw'⟩⟩
def rTupC : CRD := fun ds L K => ∃ d xs, ds = [d] ∧ (IsL d L xs ∨ d = .tup xs) ∧ K (.tup xs) L
theorem b_tuple : CaD X (.type "tuple") rTupC := ⟨_, call_tuple_of, fun F H L ds vs K Q S rs ⟨d, xs, e, h, hk⟩ k => by
  subst e
  obtain ⟨v, rfl, r⟩ := reps1 rs
  rcases h with h | rfl
  · obtain ⟨a, ws, rfl, hq, rw'⟩ := h.at S r
    refine ⟨a, ws, rfl, .inl ⟨hq, fun p hp => ?_⟩⟩
    have hF := none_back S.sub hp
    exact k _ _ _ _ L (same_new hF) (S.newF hp) (Rep.mkTup (SqT.of upd_same) (rw'.mono (same_new hF))) hk
  · obtain ⟨a, ws, rfl, hq, rw'⟩ := r.tup
    exact ⟨a, ws, rfl, .inr ⟨same_t S.sub hq, k _ H F _ L (Same.refl F) S r hk⟩⟩⟩
theorem tuple_lst {xs : List Dt} (k : K (.tup xs) L) : rTupC [.lst xs] L K := ⟨_, xs, rfl, .inl (.inl rfl), k⟩
theorem tuple_tup {xs : List Dt} (k : K (.tup xs) L) : rTupC [.tup xs] L K := ⟨_, xs, rfl, .inr rfl, k⟩
end
end L3

namespace L3
open PySem PySem.Spec PyProof.Rows L2

section
variable {X : Cx} {L : Cells} {K : KD}
/-! ### sums, least and greatest, all and any -/
theorem cr_sumT (hc : X.calm = true) : CallR X (.builtin "sum") (fun vs H Q => ∃ (a : Addr) (ns : List Int), vs = [V.ref a] ∧ SqT X.K H a (ns.map V.int) ∧ Q (.int ns.sum) H) := by
  intro pins s σ H vs us Q I r h
  obtain ⟨a, ns, rfl, hs, q⟩ := h
  obtain ⟨its, rv, ⟨o, ho, hcl, n, hd⟩, _⟩ := I.tuple hs
  obtain ⟨u, rfl, ru⟩ := vals1 r
  cases ru
  obtain ⟨xs, e⟩ := rv.ints.allInts.items
  have hn : numsOf (intItems xs).toList = ns := by rw [← e]; exact rv.ints.numsOf
  rw [nums_intItems] at hn
  have ht : s.heap.IsTuple a (intItems xs) := by rw [← e]; exact ⟨o, ho, hcl, n, hd⟩
  refine PySem.W.ktm_sumG (I.ok.hd hc) ht fun h' tk t' hk => ?_
  have e2 : preSum (numAt xs) xs.size = ns.sum := by rw [preSum_eq, List.take_of_length_le (by simp), hn]
  rw [e2]
  exact ⟨.int _, H, I.kept hk, ⟨_, rfl⟩, q⟩
def rSumD : CRD := fun ds L K => ∃ d, ∃ ns : List Int, ds = [d] ∧ (IsL d L (ns.map Dt.int) ∨ d = .tup (ns.map Dt.int)) ∧ K (.int ns.sum) L
theorem b_sum (hc : X.calm = true) : CaD X (.builtin "sum") rSumD := ⟨_, (cr_sum hc).or (cr_sumT hc), fun F H L ds vs K Q S rs ⟨d, ns, e, h, hk⟩ k => by
  subst e
  obtain ⟨v, rfl, r⟩ := reps1 rs
  have fin := k (.int ns.sum) H F (.int ns.sum) L (Same.refl F) S (Rep.mkInt _) hk
  rcases h with h | rfl
  · obtain ⟨a, ws, rfl, hq, rw'⟩ := h.at S r
    cases rw'.ints
    exact .inl ⟨a, ns, rfl, hq, fin⟩
  · obtain ⟨a, ws, rfl, hq, rw'⟩ := r.tup
    cases rw'.ints
    exact .inr ⟨a, ns, rfl, same_t S.sub hq, fin⟩⟩
theorem sum_lst {ns : List Int} (k : K (.int ns.sum) L) : rSumD [.lst (ns.map Dt.int)] L K := ⟨_, ns, rfl, .inl (.inl rfl), k⟩
theorem sum_rdl {ns : List Int} (k : K (.int ns.sum) L) : rSumD [.rdl (ns.map Dt.int)] L K := ⟨_, ns, rfl, .inl (.inr (.inl rfl)), k⟩
theorem sum_tup {ns : List Int} (k : K (.int ns.sum) L) : rSumD [.tup (ns.map Dt.int)] L K := ⟨_, ns, rfl, .inr rfl, k⟩
def rLeastD (gt : Int → Int → Prop) : CRD := fun ds L K => ∃ d, ∃ ns : List Int, ds = [d] ∧ IsL d L (ns.map Dt.int) ∧ 0 < ns.length ∧ ∀ m, m ∈ ns → (∀ y, y ∈ ns → gt m y) → K (.int m) L
theorem b_min (hc : X.calm = true) : CaD X (.builtin "min") (rLeastD fun m y => m ≤ y) := ⟨_, cr_min hc, fun F H L ds vs K Q S rs ⟨d, ns, e, h, hl, hk⟩ k => by
  subst e
  obtain ⟨v, rfl, r⟩ := reps1 rs
  obtain ⟨a, ws, rfl, hq, rw'⟩ := h.at S r
  cases rw'.ints
  exact ⟨a, ns, rfl, hq, hl, fun m h1 h2 => k _ H F _ L (Same.refl F) S (Rep.mkInt _) (hk m h1 h2)⟩⟩
theorem b_max (hc : X.calm = true) : CaD X (.builtin "max") (rLeastD fun m y => y ≤ m) := ⟨_, cr_max hc, fun F H L ds vs K Q S rs ⟨d, ns, e, h, hl, hk⟩ k => by
  subst e
  obtain ⟨v, rfl, r⟩ := reps1 rs
  obtain ⟨a, ws, rfl, hq, rw'⟩ := h.at S r
  cases rw'.ints
  exact ⟨a, ns, rfl, hq, hl, fun m h1 h2 => k _ H F _ L (Same.refl F) S (Rep.mkInt _) (hk m h1 h2)⟩⟩
def rAllD (f : List Bool → Bool) : CRD := fun ds L K => ∃ d, ∃ bs : List Bool, ds = [d] ∧ IsL d L (bs.map Dt.bl) ∧ K (.bl (f bs)) L
theorem b_all (hc : X.calm = true) : CaD X (.builtin "all") (rAllD fun bs => bs.all id) := ⟨_, cr_all hc, fun F H L ds vs K Q S rs ⟨d, bs, e, h, hk⟩ k => by
  subst e
  obtain ⟨v, rfl, r⟩ := reps1 rs
  obtain ⟨a, ws, rfl, hq, rw'⟩ := h.at S r
  cases rw'.bls
  exact ⟨a, bs, rfl, hq, k _ H F _ L (Same.refl F) S (Rep.mkBl _) hk⟩⟩
theorem b_any (hc : X.calm = true) : CaD X (.builtin "any") (rAllD fun bs => bs.any id) := ⟨_, cr_any hc, fun F H L ds vs K Q S rs ⟨d, bs, e, h, hk⟩ k => by
  subst e
  obtain ⟨v, rfl, r⟩ := reps1 rs
  obtain ⟨a, ws, rfl, hq, rw'⟩ := h.at S r
  cases rw'.bls
  exact ⟨a, bs, rfl, hq, k _ H F _ L (Same.refl F) S (Rep.mkBl _) hk⟩⟩
theorem all_lst {f : List Bool → Bool} {bs : List Bool} (k : K (.bl (f bs)) L) : rAllD f [.lst (bs.map Dt.bl)] L K := ⟨_, bs, rfl, .inl rfl, k⟩

/-! ### repr -/
theorem cr_repr (hg : X.A.guards = some []) (hu : X.A.units + 65 < cLine) : CallR X (.builtin "repr") (fun vs H Q => ∃ v d, vs = [v] ∧ Dp X.K H v d ∧ (∃ a, v = V.ref a) ∧ d.showable = true ∧ d.hasDict = false ∧ d.depth ≤ 63 ∧ d.shown.length ≤ sizeLine ∧ Q (.str d.shown) H) := by
  intro pins s σ H vs us Q I r h
  obtain ⟨v, d, rfl, hp, ⟨a, rfl⟩, h1, h2, h3, h4, q⟩ := h
  obtain ⟨u, rfl, ru⟩ := vals1 r
  obtain ⟨as, hr⟩ := Dp.reads I d _ u hp ru
  cases ru
  refine repr_of_reads' hr h1 (fun z => by rw [h2] at z; cases z) hg (by omega) (fun _ _ e => e) (fun h' u tk hk => ?_) h4
  exact ⟨.str _, H, I.kept hk, ⟨_, rfl⟩, q⟩
def rReprD : CRD := fun ds L K => ∃ d p, ds = [d] ∧ d.py = some p ∧ (∀ K' F v, Rep K' F d v → ∃ a, v = V.ref a) ∧ p.showable = true ∧ p.hasDict = false ∧ p.depth ≤ 63 ∧ p.shown.length ≤ 16000000 ∧ K (.str p.shown) L
theorem b_repr (hg : X.A.guards = some []) (hu : X.A.units + 65 < cLine) : CaD X (.builtin "repr") rReprD := ⟨_, cr_repr hg hu, fun F H L ds vs K Q S rs ⟨d, p, e, hp, ha, h1, h2, h3, h4, hk⟩ k => by
  subst e
  obtain ⟨v, rfl, r⟩ := reps1 rs
  exact ⟨v, p, rfl, Dp.same S.sub p (r.dp d hp), ha _ _ _ r, h1, h2, h3, Nat.le_trans h4 (by rw [sizeLine_eq]; decide), k _ H F _ L (Same.refl F) S (Rep.mkStr _) hk⟩⟩

/-! ### isinstance -/
/-- what of the text makes instances of C to be looked at -/
structure InsTy (K : PySem.W.Frag) (C : Addr) : Prop where
  cl : Cls K C
  ha : PySem.W.findIn K (.ref C) "__class__" = some (some (.builtin "object.__class__"))
  hn : PySem.W.specialIn K (.builtin "object.__class__") "__get__" = some (some (.builtin "getset_descriptor.__get__"))
  htk : PySem.W.takesIn K (.builtin "object.__class__") = some true
  hm : PySem.W.mroIn K C (.type "object") = some true
inductive TyD (K : PySem.W.Frag) (L : Cells) : Dt → Value → Prop where
  | non : TyD K L .non (.type "NoneType")
  | bl (b : Bool) : TyD K L (.bl b) (.type "bool")
  | int (i : Int) : TyD K L (.int i) (.type "int")
  | str (x : Str) : TyD K L (.str x) (.type "str")
  | lst {d : Dt} {xs : List Dt} (h : IsL d L xs) : TyD K L d (.type "list")
  | tup (xs : List Dt) : TyD K L (.tup xs) (.type "tuple")
  | ins {C : Addr} {fs : List Str} {xs : List Dt} (h : InsTy K C) : TyD K L (.ins C fs xs) (.ref C)
  | cell {a C : Addr} {fs : List Str} {xs : List Dt} (hc : (a, OC.ins C fs xs) ∈ L) (h : InsTy K C) : TyD K L (.ref a) (.ref C)
theorem tyx_l {K : PySem.W.Frag} {H : Hp} {a : Addr} {vs : List V} (h : SqL K H a vs) : TyX K H (.ref a) (.type "list") := by
  rcases h with (h | ⟨o, h⟩) | ⟨o, its, n, h1, h2, _⟩
  · exact .base (.lst h)
  · exact .base (.frz h)
  · exact .kList h1 h2
theorem tyx_t {K : PySem.W.Frag} {H : Hp} {a : Addr} {vs : List V} (h : SqT K H a vs) : TyX K H (.ref a) (.type "tuple") := by
  rcases h with (h | ⟨o, h⟩) | ⟨o, its, n, h1, h2, _⟩
  · exact .base (.tup h)
  · exact .fTuple h
  · exact .kTuple h1 h2
theorem TyD.tyx {K : PySem.W.Frag} {F H : Hp} {L : Cells} {d : Dt} {t : Value} {v : V} (h : TyD K L d t) (S : Sat K F L H) (r : Rep K F d v) : TyX K H v t := by
  cases h with
  | non => rw [r.non]; exact .base .non
  | bl b => rw [r.bl]; exact .base (.bl b)
  | int i => rw [r.int]; exact .base (.int i)
  | str x => rw [r.str]; exact .base (.str x)
  | lst h =>
    obtain ⟨a, ws, rfl, hq, _⟩ := h.at S r
    exact tyx_l hq
  | tup xs =>
    obtain ⟨a, ws, rfl, hq, _⟩ := r.tup
    exact tyx_t (same_t S.sub hq)
  | ins h =>
    obtain ⟨a, dx, fv, rfl, hF, _⟩ := r.ins
    exact .base (.ins (S.sub _ _ hF) h.cl h.ha h.hn h.htk h.hm)
  | cell hc h =>
    obtain ⟨o, ho, dx, fv, rfl, _⟩ := S.own _ hc
    rw [r.ref]
    exact .base (.ins ho h.cl h.ha h.hn h.htk h.hm)
inductive ClsD : Dt → Value → Prop where
  | ty (n : String) : ClsD (.ty n) (.type n)
  | own (C : Addr) : ClsD (.ref C) (.ref C)
def rIsiD (K : PySem.W.Frag) : CRD := fun ds L Kk => ∃ x c t u b, ds = [x, c] ∧ ClsD c u ∧ TyD K L x t ∧ PySem.W.kitOne K t u = some b ∧ Kk (.bl b) L
theorem b_isi : CaD X (.builtin "isinstance") (rIsiD X.K) := ⟨_, call_isi, fun F H L ds vs K Q S rs ⟨x, c, t, u, b, e, hc, ht, hk, kk⟩ k => by
  subst e
  obtain ⟨v, w, rfl, r1, r2⟩ := reps2 rs
  refine ⟨v, w, t, u, b, rfl, ?_, ht.tyx S r1, hk, k _ H F _ L (Same.refl F) S (Rep.mkBl _) kk⟩
  cases hc with
  | ty n => rw [r2.ty]; exact .ty n
  | own C => rw [r2.ref]; exact .own C⟩

/-! ### subscripts -/
def IxD (X : Cx) (R : R2D) : Prop := ∃ r : R2, IxR X r ∧ ∀ (F H : Hp) (L : Cells) (x y : Dt) (v w : V) (K : KD) (Q : VK), Sat X.K F L H → Rep X.K F x v → Rep X.K F y w → R x y L K →
  (∀ v' H' F' d L', Same F F' → Sat X.K F' L' H' → Rep X.K F' d v' → K d L' → Q v' H') → r v w H Q
theorem atI_reps {K : PySem.W.Frag} {F : Hp} {ds : List Dt} {vs : List V} {i : Int} {d : Dt} (r : Reps K F ds vs) (h : atI ds i = some d) : ∃ v, atI vs i = some v ∧ Rep K F d v := by
  unfold atI at h ⊢
  rw [← r.length]
  cases e : ixN ds.length i with
  | none => rw [e] at h; cases h
  | some j =>
    rw [e] at h
    exact r.get h
def rIxD : R2D := fun x y L K => (∃ xs i d, (IsL x L xs ∨ x = .tup xs) ∧ y = .int i ∧ atI xs i = some d ∧ K d L) ∨ ∃ z i c, x = .str z ∧ y = .int i ∧ z.length ≤ 1000000 ∧ atI z.cps.toList i = some c ∧ K (.str ⟨#[c]⟩) L
theorem ix_d : IxD X rIxD := ⟨_, ix_seq, fun F H L x y v w K Q S rx ry h k => by
  rcases h with ⟨xs, i, d, hx, rfl, hd, hk⟩ | ⟨z, i, c, rfl, rfl, hz, hc, hk⟩
  · cases ry.int
    rcases hx with h | rfl
    · obtain ⟨a, ws, rfl, hq, rw'⟩ := h.at S rx
      obtain ⟨u, hu, ru⟩ := atI_reps rw' hd
      exact .inl ⟨a, ws, i, u, rfl, rfl, hq, hu, k _ H F _ L (Same.refl F) S ru hk⟩
    · obtain ⟨a, ws, rfl, hq, rw'⟩ := rx.tup
      obtain ⟨u, hu, ru⟩ := atI_reps rw' hd
      exact .inr (.inl ⟨a, ws, i, u, rfl, rfl, same_t S.sub hq, hu, k _ H F _ L (Same.refl F) S ru hk⟩)
  · cases rx.str
    cases ry.int
    exact .inr (.inr ⟨z, i, c, rfl, rfl, line_of hz, hc, k _ H F _ L (Same.refl F) S (Rep.mkStr _) hk⟩)⟩
end
section
variable {X : Cx} {Γ : Gm} {L : Cells} {Ex : XD} {K : KD} {a b e o : Expr} {es : List Expr} {pos p p2 apos cpos : Pos} {x : Str} {lo hi : Option Expr}
theorem we_ix {R : R2D} (ho : IxD X R) (k : WE X a Γ L Ex fun x L1 => WE X b Γ L1 Ex fun y L2 => R x y L2 K) (hs : PlainIx b := by exact fun _ _ => rfl) : WE X (.Subscript a b p) Γ L Ex K := fun F0 F σ H Q xo s0 S q => by
  obtain ⟨r, h1, h2⟩ := ho
  refine cE.of (pe_ix h1 pE pE hs) ?_
  refine k F0 F σ H _ xo s0 S fun v H1 F1 x L1 e1 S1 r1 k1 => ?_
  refine k1 F0 F1 σ H1 _ xo (s0.trans e1) ⟨S1, S.env.mono e1⟩ fun w H2 F2 y L2 e2 S2 r2 k2 => ?_
  exact h2 F2 H2 L2 x y v w K Q S2 (r1.mono e2) r2 k2 fun v' H' F' d L' e3 => q v' H' F' d L' ((e1.trans e2).trans e3)
theorem ixd_lst {xs : List Dt} {i : Int} {d : Dt} (h : atI xs i = some d) (k : K d L) : rIxD (.lst xs) (.int i) L K := .inl ⟨xs, i, d, .inl (.inl rfl), rfl, h, k⟩
theorem ixd_rdl {xs : List Dt} {i : Int} {d : Dt} (h : atI xs i = some d) (k : K d L) : rIxD (.rdl xs) (.int i) L K := .inl ⟨xs, i, d, .inl (.inr (.inl rfl)), rfl, h, k⟩
theorem ixd_tup {xs : List Dt} {i : Int} {d : Dt} (h : atI xs i = some d) (k : K d L) : rIxD (.tup xs) (.int i) L K := .inl ⟨xs, i, d, .inr rfl, rfl, h, k⟩
theorem ixd_own {c : Addr} {xs : List Dt} {f : OC → Cells} {i : Int} {d : Dt} (hh : Has L c (.lst xs) f) (h : atI xs i = some d) (k : K d L) : rIxD (.ref c) (.int i) L K := .inl ⟨xs, i, d, .inl (.inr (.inr ⟨c, rfl, hh.mem⟩)), rfl, h, k⟩
theorem ixd_str {z : Str} {i : Int} {c : Nat} (hz : z.length ≤ 1000000) (h : atI z.cps.toList i = some c) (k : K (.str ⟨#[c]⟩) L) : rIxD (.str z) (.int i) L K := .inr ⟨z, i, c, rfl, rfl, hz, h, k⟩
/-! ### slices -/
def cO (X : Cx) (e : Option Expr) : TO := fun σ H Q => ∀ pins s, Inv X pins σ H s → wpAny (model X.prog X.w) X.A (evalPart e X.env) (fun u s' => ∃ o H', Inv X pins σ H' s' ∧ IsPart u o ∧ Q o H') X.xe s
theorem pO {e : Option Expr} : PO X e (cO X e) := ⟨fun pins s _ _ _ I h => h pins s I⟩
theorem cO.of {e : Option Expr} {t : TO} {σ : L2.St} {H : Hp} {Q : Option Int → Hp → Prop} (h : PO X e t) (q : t σ H Q) : cO X e σ H Q := fun pins s I => h.run pins s σ H Q I q
def WO (X : Cx) (e : Option Expr) (Γ : Gm) (L : Cells) (Ex : XD) (Ko : Option Int → Cells → Prop) : Prop :=
  ∀ (F0 F : Hp) (σ : L2.St) (H : Hp) (Q : Option Int → Hp → Prop), Xok X F0 Ex → Same F0 F → Stt X.K F Γ L σ H → (∀ o H' F' L', Same F F' → Sat X.K F' L' H' → Ko o L' → Q o H') → cO X e σ H Q
theorem wo_none {Ko : Option Int → Cells → Prop} (k : Ko none L) : WO X none Γ L Ex Ko := fun F0 F σ H Q xo s0 S q => cO.of po_none (q none H F L (Same.refl F) S.sat k)
theorem wo_some {Ko : Option Int → Cells → Prop} (k : WE X e Γ L Ex fun d L1 => ∃ i, d = .int i ∧ Ko (some i) L1) : WO X (some e) Γ L Ex Ko := fun F0 F σ H Q xo s0 S q => by
  refine cO.of (po_some pE) ?_
  refine k F0 F σ H _ xo s0 S fun v H1 F1 d L1 e1 S1 r1 ⟨i, ed, k1⟩ => ?_
  subst ed
  exact ⟨i, r1.int, q _ H1 F1 L1 e1 S1 k1⟩
/-- xs[lo:hi] -/
def cutD (xs : List Dt) (lo hi : Option Int) : List Dt := (xs.drop (HT.sIx xs.length 0 lo)).take (HT.sIx xs.length xs.length hi - HT.sIx xs.length 0 lo)
theorem cutD_reps {K : PySem.W.Frag} {F : Hp} {ds : List Dt} {vs : List V} {lo hi : Option Int} (r : Reps K F ds vs) : Reps K F (cutD ds lo hi) (cutV vs lo hi) := by
  unfold cutD cutV
  rw [r.length]
  exact (r.drop _).take _
def rSlD : Dt → Option Int → Option Int → Cells → KD → Prop := fun x lo hi L K => (∃ xs, IsL x L xs ∧ K (.lst (cutD xs lo hi)) L) ∨ (∃ xs, x = .tup xs ∧ K (.tup (cutD xs lo hi)) L) ∨ ∃ z, x = .str z ∧ z.length ≤ 1000000 ∧ K (.str (cutS z lo hi)) L
theorem we_sl (k : WE X e Γ L Ex fun x L1 => WO X lo Γ L1 Ex fun l L2 => WO X hi Γ L2 Ex fun h L3 => rSlD x l h L3 K) : WE X (.Subscript e (.Slice lo hi none p2) p) Γ L Ex K := fun F0 F σ H Q xo s0 S q => by
  refine cE.of (pe_slice ((sl_list (X := X)).or (sl_tupA.or sl_str)) pE pO pO) ?_
  refine k F0 F σ H _ xo s0 S fun v H1 F1 x L1 e1 S1 r1 k1 => ?_
  refine k1 F0 F1 σ H1 _ xo (s0.trans e1) ⟨S1, S.env.mono e1⟩ fun l H2 F2 L2 e2 S2 k2 => ?_
  refine k2 F0 F2 σ H2 _ xo ((s0.trans e1).trans e2) ⟨S2, S.env.mono (e1.trans e2)⟩ fun h H3 F3 L3 e3 S3 k3 => ?_
  have r3 := r1.mono (e2.trans e3)
  have e13 := (e1.trans e2).trans e3
  rcases k3 with ⟨xs, hx, hk⟩ | ⟨xs, rfl, hk⟩ | ⟨z, rfl, hz, hk⟩
  · obtain ⟨a, ws, rfl, hq, rw'⟩ := hx.at S3 r3
    refine .inl ⟨a, ws, rfl, hq, fun p hp => ?_⟩
    have hF := none_back S3.sub hp
    exact q _ _ _ _ L3 (e13.trans (same_new hF)) (S3.newF hp) (Rep.mkLst upd_same ((cutD_reps rw').mono (same_new hF))) hk
  · obtain ⟨a, ws, rfl, hq, rw'⟩ := r3.tup
    refine .inr (.inl ⟨a, ws, rfl, same_t S3.sub hq, fun hw => ?_, fun _ p hp => ?_⟩)
    · have e : cutD xs l h = xs := by
        unfold cutD
        rw [rw'.length, hw.1, hw.2, List.drop_zero, List.take_of_length_le (by rw [rw'.length]; omega)]
      rw [e] at hk
      exact q _ H3 F3 _ L3 e13 S3 r3 hk
    · have hF := none_back S3.sub hp
      exact q _ _ _ _ L3 (e13.trans (same_new hF)) (S3.newF hp) (Rep.mkTup (SqT.of upd_same) ((cutD_reps rw').mono (same_new hF))) hk
  · cases r3.str
    exact .inr (.inr ⟨z, rfl, line_of hz, q _ H3 F3 _ L3 e13 S3 (Rep.mkStr _) hk⟩)
theorem sl_lst' {xs : List Dt} {l h : Option Int} (k : K (.lst (cutD xs l h)) L) : rSlD (.lst xs) l h L K := .inl ⟨xs, .inl rfl, k⟩
theorem sl_rdl' {xs : List Dt} {l h : Option Int} (k : K (.lst (cutD xs l h)) L) : rSlD (.rdl xs) l h L K := .inl ⟨xs, .inr (.inl rfl), k⟩
theorem sl_tup' {xs : List Dt} {l h : Option Int} (k : K (.tup (cutD xs l h)) L) : rSlD (.tup xs) l h L K := .inr (.inl ⟨xs, rfl, k⟩)
theorem sl_str' {z : Str} {l h : Option Int} (hz : z.length ≤ 1000000) (k : K (.str (cutS z l h)) L) : rSlD (.str z) l h L K := .inr (.inr ⟨z, rfl, hz, k⟩)

/-! ### methods of lists of one's own -/
/-- xs.append(e) -/
theorem we_append (ko : WE X o Γ L Ex fun d L1 => ∃ c xs f, d = .ref c ∧ Has L1 c (.lst xs) f ∧ WE X e Γ L1 Ex fun y L2 => ∃ xs2 f2, Has L2 c (.lst xs2) f2 ∧ xs2.length < 1000000 ∧ K .non (f2 (.lst (xs2 ++ [y]))))
    (hbase : attributeBase o "append" X.env (eval o X.env) = eval o X.env := by rfl)
    (hfew : ((backTo cpos (starEach [e] X.env)).all (fun x => !x.1) && (backToKw cpos (keywordEach [] X.env)).all (fun x => x.1.isSome) && decide ([e].length + ([] : List Keyword).length + (if ([] : List Keyword).isEmpty then 0 else 1) < 30)) = true := by rfl)
    (hline : (apos.endLine == cpos.line) = true := by rfl) (hs : starEach [e] X.env = (false, eval e X.env) :: starEach [] X.env := by rfl) (hplain : (backTo cpos (starEach [] X.env)).any (·.1) = false := by rfl) :
    WE X (.Call (.Attribute o "append" apos) [e] [] cpos) Γ L Ex K := fun F0 F σ H Q xo s0 S q => by
  refine cE.of (pe_bm PySem.F.plainAttrs_list PySem.F.slot_list_append PySem.F.type_list_append mt_append pE (pa_cons pE pa_nil hs) hbase hfew hline hs hplain) ?_
  refine ko F0 F σ H _ xo s0 S fun v H1 F1 d L1 e1 S1 r1 ⟨c, xs, f, ed, hh, k1⟩ => ?_
  subst ed
  cases r1.ref
  obtain ⟨u, hu, vs, rfl, rv⟩ := S1.own _ hh.mem
  refine ⟨.inl ⟨rfl, vs, SqL.of hu⟩, ?_⟩
  refine k1 F0 F1 σ H1 _ xo (s0.trans e1) ⟨S1, S.env.mono e1⟩ fun w H2 F2 y L2 e2 S2 r2 ⟨xs2, f2, hh2, hl, k2⟩ => ?_
  obtain ⟨La, Lb, rfl, ef⟩ := hh2.split
  obtain ⟨u2, hu2, vs2, rfl, rv2⟩ := S2.at
  rw [ef] at k2
  exact ⟨c, vs2, w, rfl, rfl, hu2, line_lt (by rw [← rv2.length]; exact hl), q _ _ F2 _ _ (e1.trans e2) (S2.write (oc' := .lst (xs2 ++ [y])) ⟨_, rfl, rv2.append (.cons r2 .nil)⟩) Rep.mkNon k2⟩
end
end L3

namespace L3
open PySem PySem.Spec PyProof.Rows L2

/-! ### a value seen otherwise -/
def Cv (K : PySem.W.Frag) (d : Dt) (L : Cells) (d' : Dt) (L' : Cells) : Prop := ∀ F H v, Sat K F L H → Rep K F d v → ∃ F', Same F F' ∧ Sat K F' L' H ∧ Rep K F' d' v
theorem Cv.refl {K : PySem.W.Frag} {d : Dt} {L : Cells} : Cv K d L d L := fun F H v S r => ⟨F, Same.refl F, S, r⟩
theorem Cv.trans {K : PySem.W.Frag} {d d1 d2 : Dt} {L L1 L2 : Cells} (a : Cv K d L d1 L1) (b : Cv K d1 L1 d2 L2) : Cv K d L d2 L2 := fun F H v S r => by
  obtain ⟨F1, e1, S1, r1⟩ := a F H v S r
  obtain ⟨F2, e2, S2, r2⟩ := b F1 H v S1 r1
  exact ⟨F2, e1.trans e2, S2, r2⟩
theorem Cv.drop {K : PySem.W.Frag} {d : Dt} {L L0 : Cells} {q : Addr × OC} : Cv K d (L0 ++ q :: L) d (L0 ++ L) := fun F H v S r => ⟨F, Same.refl F, S.less, r⟩
theorem Cv.drop1 {K : PySem.W.Frag} {d : Dt} {L : Cells} {q : Addr × OC} : Cv K d (q :: L) d L := Cv.drop (L0 := [])
theorem Cv.frzL {K : PySem.W.Frag} {a : Addr} {ds : List Dt} {L L0 : Cells} : Cv K (.ref a) (L0 ++ (a, .lst ds) :: L) (.lst ds) (L0 ++ L) := fun F H v S r => by
  obtain ⟨o, ho, vs, e, rv⟩ := S.at
  subst e
  have hF : F a = none := S.fre (a, .lst ds) (by simp)
  cases r.ref
  exact ⟨_, same_new hF, S.freeze ho, Rep.mkLst upd_same (rv.mono (same_new hF))⟩
theorem Cv.frzI {K : PySem.W.Frag} {a C : Addr} {fs : List Str} {xs : List Dt} {L L0 : Cells} : Cv K (.ref a) (L0 ++ (a, .ins C fs xs) :: L) (.ins C fs xs) (L0 ++ L) := fun F H v S r => by
  obtain ⟨o, ho, dx, fv, e, e2, rv⟩ := S.at
  subst e
  have hF : F a = none := S.fre (a, .ins C fs xs) (by simp)
  cases r.ref
  refine ⟨_, same_new hF, S.freeze ho, ?_⟩
  simp only [Rep]
  exact ⟨a, dx, fv, rfl, upd_same, e2, rv.mono (same_new hF)⟩
section
variable {X : Cx} {Γ : Gm} {L : Cells} {Ex : XD} {K K' : KD} {a b e o : Expr} {es : List Expr} {pos p apos : Pos} {x f m : Str} {C g : Addr} {k j : Nat} {sp : TSp} {En : En}
theorem we_conv (h : WE X e Γ L Ex K') (c : ∀ d L1, K' d L1 → ∃ d' L2, Cv X.K d L1 d' L2 ∧ K d' L2) : WE X e Γ L Ex K := fun F0 F σ H Q xo s0 S q =>
  h F0 F σ H Q xo s0 S fun v H1 F1 d L1 e1 S1 r1 k1 => by
    obtain ⟨d', L2, cv, k2⟩ := c d L1 k1
    obtain ⟨F2, e2, S2, r2⟩ := cv F1 H1 v S1 r1
    exact q v H1 F2 d' L2 (e1.trans e2) S2 r2 k2
theorem we_imp (h : WE X e Γ L Ex K') (c : ∀ d L1, K' d L1 → K d L1) : WE X e Γ L Ex K := fun F0 F σ H Q xo s0 S q => h F0 F σ H Q xo s0 S fun v H1 F1 d L1 e1 S1 r1 k1 => q v H1 F1 d L1 e1 S1 r1 (c d L1 k1)

/-! ### attributes -/
/-- the field f at place i -/
def FldD (d : Dt) (L : Cells) (C : Addr) (f : Str) (v : Dt) : Prop := (∃ (fs : List Str) (xs : List Dt) (i : Nat), d = .ins C fs xs ∧ fs.Nodup ∧ fs[i]? = some f ∧ xs[i]? = some v) ∨ ∃ (a : Addr) (fs : List Str) (xs : List Dt) (i : Nat), d = .ref a ∧ (a, OC.ins C fs xs) ∈ L ∧ fs.Nodup ∧ fs[i]? = some f ∧ xs[i]? = some v
end
theorem lookup_nth {f : Str} : ∀ {fv : List (Str × V)} {i : Nat} {v : V}, (fv.map (·.1)).Nodup → (fv.map (·.1))[i]? = some f → (fv.map (·.2))[i]? = some v → fv.lookup f = some v
  | [], _, _, _, h, _ => by simp at h
  | (g, u) :: r, 0, v, nd, h1, h2 => by
    simp at h1 h2
    subst h1 h2
    rw [List.lookup_cons]
    simp
  | (g, u) :: r, i + 1, v, nd, h1, h2 => by
    have nd2 : g ∉ r.map (·.1) ∧ (r.map (·.1)).Nodup := List.nodup_cons.mp nd
    have h1' : (r.map (·.1))[i]? = some f := by simpa using h1
    have h2' : (r.map (·.2))[i]? = some v := by simpa using h2
    rw [List.lookup_cons]
    have ne : (f == g) = false := beq_eq_false_iff_ne.mpr fun e => nd2.1 (by rw [← e]; exact List.mem_of_getElem? h1')
    rw [ne]
    exact lookup_nth nd2.2 h1' h2'
theorem putF_nth {f : Str} {v : V} : ∀ {fv : List (Str × V)} {i : Nat}, (fv.map (·.1)).Nodup → (fv.map (·.1))[i]? = some f → (putF f v fv).map (·.1) = fv.map (·.1) ∧ (putF f v fv).map (·.2) = (fv.map (·.2)).set i v
  | [], _, _, h => by simp at h
  | (g, u) :: r, 0, nd, h1 => by
    simp at h1
    subst h1
    simp [putF]
  | (g, u) :: r, i + 1, nd, h1 => by
    have nd2 : g ∉ r.map (·.1) ∧ (r.map (·.1)).Nodup := List.nodup_cons.mp nd
    have h1' : (r.map (·.1))[i]? = some f := by simpa using h1
    have ne : ¬ g = f := fun e => nd2.1 (by rw [e]; exact List.mem_of_getElem? h1')
    obtain ⟨e1, e2⟩ := putF_nth (v := v) nd2.2 h1'
    simp only [putF, if_neg ne, List.map_cons, List.set_cons_succ]
    exact ⟨by rw [e1], by rw [e2]⟩
theorem putF_end {f : Str} {v : V} : ∀ {fv : List (Str × V)}, f ∉ fv.map (·.1) → putF f v fv = fv ++ [(f, v)]
  | [], _ => rfl
  | (g, u) :: r, h => by
    have ne : ¬ g = f := fun e => h (by rw [e]; simp)
    simp only [putF, if_neg ne]
    rw [putF_end fun z => h (List.mem_cons_of_mem _ z)]
    rfl
section
variable {X : Cx} {Γ : Gm} {L : Cells} {Ex : XD} {K K' : KD} {a b e o : Expr} {es : List Expr} {pos p apos : Pos} {x f m : Str} {C g : Addr} {k j : Nat} {sp : TSp} {En : En}
theorem FldD.at {K : PySem.W.Frag} {F H : Hp} {d w : Dt} {v : V} (h : FldD d L C f w) (S : Sat K F L H) (r : Rep K F d v) : ∃ a dx fv u, v = .ref a ∧ H a = some (.ins C dx fv) ∧ fv.lookup f = some u ∧ Rep K F w u := by
  rcases h with ⟨fs, xs, i, rfl, nd, h1, h2⟩ | ⟨a, fs, xs, i, rfl, hc, nd, h1, h2⟩
  · obtain ⟨a, dx, fv, rfl, hF, e, rs⟩ := r.ins
    obtain ⟨u, hu, ru⟩ := rs.get h2
    subst e
    exact ⟨a, dx, fv, u, rfl, S.sub _ _ hF, lookup_nth nd h1 hu, ru⟩
  · obtain ⟨_, ho, dx, fv, rfl, e, rs⟩ := S.own _ hc
    obtain ⟨u, hu, ru⟩ := rs.get h2
    subst e
    exact ⟨a, dx, fv, u, r.ref, ho, lookup_nth nd h1 hu, ru⟩
/-- o.f -/
theorem we_fld (c : Cls X.K C) (n : NoAttr X.K C f) (ko : WE X o Γ L Ex fun d L1 => ∃ v, FldD d L1 C f v ∧ K v L1) (hb : attributeBase o f X.env (eval o X.env) = eval o X.env := by rfl) : WE X (.Attribute o f p) Γ L Ex K := fun F0 F σ H Q xo s0 S q => by
  refine cE.of (pe_fld pE hb) ?_
  refine ko F0 F σ H _ xo s0 S fun v H1 F1 d L1 e1 S1 r1 ⟨w, hf, k1⟩ => ?_
  obtain ⟨a, dx, fv, u, ev, ea, el, ru⟩ := hf.at S1 r1
  exact ⟨a, C, dx, fv, u, ev, ea, c, n, el, q u H1 F1 w L1 e1 S1 ru k1⟩
/-- o.f = e -/
theorem ws_fld {p' : Pos} (c : Cls X.K C) (n : NoAttr X.K C f) (ke : WE X e Γ L Ex fun y L1 => WE X o Γ L1 Ex fun x L2 => ∃ a fs xs g, x = .ref a ∧ Has L2 a (.ins C fs xs) g ∧ fs.length < 1000 ∧
      ((∃ i : Nat, fs.Nodup ∧ fs[i]? = some f ∧ En.nx Γ (g (.ins C fs (xs.set i y)))) ∨ (f ∉ fs ∧ En.nx Γ (g (.ins C (fs ++ [f]) (xs ++ [y]))))))
    (hs : swapsWith e (some (.Attribute o f p')) pos.line X.env = pure false := by rfl) : WS X (.Assign [.Attribute o f p'] e pos) Γ L Ex En := fun F0 F σ H D xo s0 S q => by
  refine cS.of (ps_fld pE pE hs) ?_
  refine ke F0 F σ H _ xo s0 S fun v H1 F1 y L1 e1 S1 r1 k1 => ?_
  refine k1 F0 F1 σ H1 _ xo (s0.trans e1) ⟨S1, S.env.mono e1⟩ fun w H2 F2 x L2 e2 S2 r2 ⟨a, fs, xs, g, ex, hh, hl, k2⟩ => ?_
  subst ex
  obtain ⟨La, Lb, rfl, eg⟩ := hh.split
  obtain ⟨_, hu, dx, fv, rfl, ef, rv⟩ := S2.at
  have ll : fv.length = fs.length := by rw [← ef, List.length_map]
  refine ⟨a, C, dx, fv, r2.ref, hu, c, n, by rw [ll]; exact hl, ?_⟩
  rcases k2 with ⟨i, nd, hi, k3⟩ | ⟨hn, k3⟩
  · rw [eg] at k3
    subst ef
    obtain ⟨q1, q2⟩ := putF_nth (v := v) nd hi
    exact q.nx σ _ F2 Γ _ (e1.trans e2) ⟨S2.write (oc' := .ins C _ (xs.set i y)) ⟨dx, _, rfl, q1, by rw [q2]; exact rv.set i (r1.mono e2)⟩, S.env.mono (e1.trans e2)⟩ k3
  · rw [eg] at k3
    subst ef
    have q1 := putF_end (v := v) hn
    refine q.nx σ _ F2 Γ _ (e1.trans e2) ⟨S2.write (oc' := .ins C _ (xs ++ [y])) ⟨dx, _, rfl, ?_, ?_⟩, S.env.mono (e1.trans e2)⟩ k3
    · rw [q1, List.map_append]; rfl
    · rw [q1, List.map_append]; exact rv.append (.cons (r1.mono e2) .nil)
/-- C.f, a constant of the class -/
theorem we_cval {mc : Value} {v : Dt} (ko : WE X o Γ L Ex fun d L1 => d = .ref C ∧ K v L1) (rd : ClX.CRead X.K C mc) (cv : ∃ w u, ClX.CVal X.K C mc f w u ∧ ∀ F, Rep X.K F v w) (hb : attributeBase o f X.env (eval o X.env) = eval o X.env := by rfl) : WE X (.Attribute o f p) Γ L Ex K := fun F0 F σ H Q xo s0 S q => by
  obtain ⟨w, u, hc, hr⟩ := cv
  refine cE.of (ClX.pe_cval pE hb) ?_
  refine ko F0 F σ H _ xo s0 S fun v1 H1 F1 d L1 e1 S1 r1 ⟨ed, k1⟩ => ?_
  subst ed
  exact ⟨C, mc, w, u, r1.ref, rd, hc, q w H1 F1 v L1 e1 S1 (hr F1) k1⟩

/-! ### making -/
structure Mkr (P : Program) (w : World) (K : PySem.W.Frag) (mg : Str → Option Value) (base : Heap) (k : Nat) (x : Str) (C : Addr) (sp : TSp) : Prop where
  ex : ∃ f : Addr, L2.Mk K C f ∧ FnG P w K mg base k f sp
  mg : mg x = some (.ref C)
  hd : (x == ("__debug__" : Str)) = false
theorem run_make {pins : List (Addr × Obj)} {σ : L2.St} {H F0 F : Hp} {s : Shared} {Q : VK} {us : List Value} {vs : List V} {ds : List Dt} {f : Addr} (M : L2.Mk X.K C f) (Fn : FnG X.prog X.w X.K X.mg X.base k f sp) (rm : Rm (k + 1) X.A) (xo : Xok X F0 Ex) (s0 : Same F0 F) (I : Inv X pins σ H s) (r : Vals vs us)
    (S : Sat X.K F L H) (rs : Reps X.K F ds vs) (h : ∀ x, sp (.ref x :: ds) ((x, .ins C [] []) :: L) Ex fun v L2 => v = .non ∧ K (.ref x) L2) (q : ∀ v H' F' d L', Same F F' → Sat X.K F' L' H' → Rep X.K F' d v → K d L' → Q v H') :
    wpAny (model X.prog X.w) X.A (call (.ref C) us) (EP X pins σ Q) X.xe s := by
  have I2 := Inv.made (C := C) I
  have hx := I.hok.fresh (Nat.le_succ s.heap.objs.size)
  have hd := I.hok.fresh (Nat.le_refl s.heap.objs.size)
  have S1 : Sat X.K F L (upd H s.heap.objs.size (.own (s.heap.objs.size + 1))) := S.newN hd
  have hx2 : (upd H s.heap.objs.size (.own (s.heap.objs.size + 1))) (s.heap.objs.size + 1) = none := by
    rw [upd_ne (Nat.succ_ne_self _)]; exact hx
  have S2 := S1.new (oc := .ins C [] []) hx2 ⟨s.heap.objs.size, [], rfl, rfl, .nil⟩
  refine wpAny_call (make_map (f := f) I.kIn M.makes M.init (beq_iff_eq.mp M.fn) (codeAny_mono (Fn _ X.stack _ _ (Value.ref (s.heap.objs.size + 1) :: us) (V.ref (s.heap.objs.size + 1) :: vs) (fun v H2 => v = .non ∧ Q (.ref (s.heap.objs.size + 1)) H2) (wishX X.K F0 Ex)
    ⟨rm.room.make C us [], rm.gd⟩ (I2.env0.make C us []) (.cons rfl r) ⟨F, _, .ref (s.heap.objs.size + 1) :: ds, Ex, _, S2, .cons (Rep.mkRef _) rs, h _, fun v H' F' d L' e1 S3 r3 ⟨ed, kk⟩ => ?_, fun cls dd H' ⟨F', L', n, a, b, c, d⟩ => ⟨F', L', n, s0.trans a, b, c, d⟩⟩) fun res s' hq => ?_))
  · subst ed
    exact ⟨r3.non, q _ H' F' (.ref _) L' e1 S3 (Rep.mkRef _) kk⟩
  · cases res with
    | error e => exact passes_call xo (fun _ _ _ _ z => z) pins σ _ _ e s' I2 hq
    | ok fl =>
      cases fl with
      | ret u =>
        obtain ⟨v, H', I3, rv, ev, q3⟩ := I2.after hq
        subst ev
        exact ⟨rv, ⟨V.ref (s.heap.objs.size + 1), H', I3, rfl, q3⟩⟩
      | next => exact False.elim hq
      | brk => exact False.elim hq
      | cont => exact False.elim hq
/-- C(e, ..) -/
theorem we_make (c : Mkr X.prog X.w X.K X.mg X.base k x C sp) (rm : Rm j X.A) (hk : k + 1 ≤ j) (hg : Gl X x) (ka : WA X (e :: es) Γ L Ex fun ds L1 => ∀ a, sp (.ref a :: ds) ((a, .ins C [] []) :: L1) Ex fun v L2 => v = .non ∧ K (.ref a) L2)
    (he : starEach (e :: es) X.env = (false, eval e X.env) :: starEach es X.env := by rfl) (hpl : (backTo pos (starEach es X.env)).any (·.1) = false := by rfl) : WE X (.Call (.Name x p) (e :: es) [] pos) Γ L Ex K := fun F0 F σ H Q xo s0 S q pins s I => by
  obtain ⟨f, M, Fn⟩ := c.ex
  refine wpAny_Call_Name_kw (ld_glob I hg c.mg ?_ c.hd)
  have z : cA X (e :: es) σ H fun vs H1 => ∃ F1 ds L1, Same F F1 ∧ Sat X.K F1 L1 H1 ∧ Reps X.K F1 ds vs ∧ ∀ a, sp (.ref a :: ds) ((a, .ins C [] []) :: L1) Ex fun v L2 => v = .non ∧ K (.ref a) L2 := ka F0 F σ H _ xo s0 S fun vs H1 F1 ds L1 e1 S1 r1 k1 => ⟨F1, ds, L1, e1, S1, r1, k1⟩
  refine PySem.W.callWith_K (h₀ := X.base) I.ok.mod.kin M.kp (thn (z pos pins s I) fun us s1 ⟨vs, H1, I1, rv, F1, ds, L1, e1, S1, r1, k1⟩ => ⟨I1.kIn, ?_⟩) he hpl
  exact run_make M Fn (rm.mono hk) xo (s0.trans e1) I1 rv S1 r1 k1 fun v H' F' d L' e2 => q v H' F' d L' (e1.trans e2)
theorem we_make0 (c : Mkr X.prog X.w X.K X.mg X.base k x C sp) (rm : Rm j X.A) (hk : k + 1 ≤ j) (hg : Gl X x) (ka : ∀ a, sp [.ref a] ((a, .ins C [] []) :: L) Ex fun v L2 => v = .non ∧ K (.ref a) L2) : WE X (.Call (.Name x p) [] [] pos) Γ L Ex K := fun F0 F σ H Q xo s0 S q pins s I => by
  obtain ⟨f, M, Fn⟩ := c.ex
  refine wpAny_Call_Name_kw (ld_glob I hg c.mg ?_ c.hd)
  exact PySem.W.callWith_K0 I.kIn M.kp (run_make (vs := []) (us := []) (ds := []) M Fn (rm.mono hk) xo s0 I .nil S.sat .nil ka q)
/-- C( *e) -/
theorem we_makeS {ps : Pos} (c : Mkr X.prog X.w X.K X.mg X.base k x C sp) (rm : Rm j X.A) (hk : k + 1 ≤ j) (hg : Gl X x) (ka : WE X e Γ L Ex fun d L1 => ∃ xs, (d = .lst xs ∨ d = .tup xs) ∧ ∀ a, sp (.ref a :: xs) ((a, .ins C [] []) :: L1) Ex fun v L2 => v = .non ∧ K (.ref a) L2)
    (hst : starEach [.Starred e ps] X.env = [(true, eval e X.env)] := by rfl) : WE X (.Call (.Name x p) [.Starred e ps] [] pos) Γ L Ex K := fun F0 F σ H Q xo s0 S q pins s I => by
  obtain ⟨f, M, Fn⟩ := c.ex
  refine wpAny_Call_Name_kw (ld_glob I hg c.mg ?_ c.hd)
  have z : cE X e σ H fun v H1 => ∃ F1 d L1, Same F F1 ∧ Sat X.K F1 L1 H1 ∧ Rep X.K F1 d v ∧ ∃ xs, (d = .lst xs ∨ d = .tup xs) ∧ ∀ a, sp (.ref a :: xs) ((a, .ins C [] []) :: L1) Ex fun v L2 => v = .non ∧ K (.ref a) L2 := ka F0 F σ H _ xo s0 S fun v H1 F1 d L1 e1 S1 r1 k1 => ⟨F1, d, L1, e1, S1, r1, k1⟩
  refine PySem.W.callWith_S (h₀ := X.base) I.ok.mod.kin M.kp (thn (z pins s I) fun u s1 ⟨v, H1, I1, ru, F1, d, L1, e1, S1, r1, xs, hx, k1⟩ => ?_) hst
  have fin : ∀ (a : Addr) vs, v = .ref a → (SqT X.K H1 a vs ∨ SqL X.K H1 a vs) → Reps X.K F1 xs vs → PySem.W.StarOf (model X.prog X.w) X.A X.xe u (fun vs s2 => X.K.In s2.heap ∧ wpAny (model X.prog X.w) X.A (call (.ref C) ([] ++ vs)) (EP X pins σ Q) X.xe s2) s1 := fun a vs ev hv rv => by
    subst ev
    obtain rfl : u = Value.ref a := ru
    exact StX.star_any I1 hv fun us s2 I2 r2 => ⟨I2.kIn, run_make M Fn (rm.mono hk) xo (s0.trans e1) I2 r2 S1 rv k1 fun v H' F' d L' e2 => q v H' F' d L' (e1.trans e2)⟩
  rcases hx with rfl | rfl
  · obtain ⟨a, vs, ev, h1, rv⟩ := r1.lst
    exact fin a vs ev (.inr (SqL.of (S1.sub _ _ h1))) rv
  · obtain ⟨a, vs, ev, h1, rv⟩ := r1.tup
    exact fin a vs ev (.inl (same_t S1.sub h1)) rv

/-! ### properties, static methods -/
structure Pr (P : Program) (w : World) (K : PySem.W.Frag) (mg : Str → Option Value) (base : Heap) (k : Nat) (C : Addr) (f : Str) (sp : TSp) : Prop where
  cl : Cls K C
  ex : ∃ p g : Addr, PropOf K C f p g ∧ FnG P w K mg base k g sp
/-- an instance -/
def InsC (d : Dt) (L : Cells) (C : Addr) : Prop := (∃ fs xs, d = .ins C fs xs) ∨ ∃ a fs xs, d = .ref a ∧ (a, OC.ins C fs xs) ∈ L
theorem InsC.at {K : PySem.W.Frag} {F H : Hp} {d : Dt} {v : V} (h : InsC d L C) (S : Sat K F L H) (r : Rep K F d v) : ∃ a dx fs, v = .ref a ∧ H a = some (.ins C dx fs) := by
  rcases h with ⟨fs, xs, rfl⟩ | ⟨a, fs, xs, rfl, hc⟩
  · obtain ⟨a, dx, fv, rfl, hF, _⟩ := r.ins
    exact ⟨a, dx, fv, rfl, S.sub _ _ hF⟩
  · obtain ⟨_, ho, dx, fv, rfl, _⟩ := S.own _ hc
    exact ⟨a, dx, fv, r.ref, ho⟩
/-- o.f, a property -/
theorem we_prop (c : Pr X.prog X.w X.K X.mg X.base k C f sp) (rm : Rm j X.A) (hk : k + 1 ≤ j) (ko : WE X o Γ L Ex fun d L1 => InsC d L1 C ∧ sp [d] L1 noX K) (hb : attributeBase o f X.env (eval o X.env) = eval o X.env := by rfl) : WE X (.Attribute o f p) Γ L Ex K := fun F0 F σ H Q xo s0 S q pins s I => by
  obtain ⟨pp, g, hp, Fn⟩ := c.ex
  have z : cE X o σ H fun v H1 => ∃ F1 d L1, Same F F1 ∧ Sat X.K F1 L1 H1 ∧ Rep X.K F1 d v ∧ InsC d L1 C ∧ sp [d] L1 noX K := ko F0 F σ H _ xo s0 S fun v H1 F1 d L1 e1 S1 r1 k1 => ⟨F1, d, L1, e1, S1, r1, k1⟩
  refine attr_of hb (thn (z pins s I) fun u s1 ⟨v, H1, I1, ru, F1, d, L1, e1, S1, r1, hi, k1⟩ => ?_)
  obtain ⟨a, dx, fs, ev, ea⟩ := hi.at S1 r1
  subst ev
  obtain rfl : u = Value.ref a := ru
  obtain ⟨mA, O, _, _, _, _⟩ := ins_get I1.hok ea
  obtain ⟨od, J, _⟩ := O.look
  obtain ⟨rest, hrec⟩ := hp.rec_
  have I2 := I1.tok (s1.toks + 1)
  have hc : (PySem.W.clsIn X.K C).isSome = true := by
    obtain ⟨cd, hc, _⟩ := PySem.W.any_some c.cl.hd
    rw [hc]; rfl
  refine PySem.W.get_bind I1.kIn J (PySem.W.plainGet_of (c.cl.get f)).1 (PySem.W.findObj_data hc hp.at_ hp.get hp.tak) (PySem.W.plainGet_of (c.cl.get f)).2 (wpAny_call (PySem.W.prop_get (s := { s1 with toks := s1.toks + 1 }) I1.kIn hrec ?_))
  have rm2 : Rm k X.A.in1 := ⟨(rm.mono hk).room.in1, (rm.mono hk).gd⟩
  refine codeAny_mono (Fn X.A.in1 X.stack { s1 with toks := s1.toks + 1 } H1 [.ref a] [.ref a] Q (fun _ _ _ => False) rm2 I2.env0.in1 (.cons rfl .nil)
    ⟨F1, L1, [d], noX, K, S1, .cons r1 .nil, k1, fun v H' F' d L' e2 => q v H' F' d L' (e1.trans e2), fun cls dd H' ⟨F', L', n, a, b, c, d⟩ => d⟩) fun res s' hq => ?_
  cases res with
  | error er =>
    obtain ⟨_, _, _, _, _, _, _, _, _, _, _, _, z⟩ := hq
    exact z.elim
  | ok fl =>
    cases fl with
    | ret u =>
      obtain ⟨v, H', I3, rv, q3⟩ := I2.after hq
      show wpAny _ _ (handedOut u) _ _ _
      rw [PySem.W.handedOut_of (handed_of rv)]
      exact wpAny_pure ⟨v, H', I3, rv, q3⟩
    | next => exact False.elim hq
    | brk => exact False.elim hq
    | cont => exact False.elim hq
structure Smt (P : Program) (w : World) (K : PySem.W.Frag) (mg : Str → Option Value) (base : Heap) (k : Nat) (C : Addr) (m : Str) (sp : TSp) : Prop where
  ex : ∃ (mc : Value) (p g : Addr), ClX.CRead K C mc ∧ PySem.W.findCls K (.ref C) mc m = some (.get (.builtin "staticmethod.__get__") (.ref p) .none (.ref C)) ∧ (∃ rest, PySem.W.recIn K p "staticmethod" = some (.ref g :: rest)) ∧ PySem.W.keepIn K (.ref g) = true ∧ FnG P w K mg base k g sp
/-- C.m(e, ..), a static method -/
theorem we_static {pl : Sem Bool} (c : Smt X.prog X.w X.K X.mg X.base k C m sp) (rm : Rm j X.A) (hk : k ≤ j) (ko : WE X o Γ L Ex fun d L1 => d = .ref C ∧ WA X (e :: es) Γ L1 Ex fun ds L2 => sp ds L2 Ex K)
    (hst : starEach (e :: es) X.env = (false, eval e X.env) :: starEach es X.env := by rfl) (hpl : (backTo pos (starEach es X.env)).any (·.1) = false := by rfl)
    (ht : eval (.Call (.Attribute o m apos) (e :: es) [] pos) X.env = (do let ov ← eval o X.env; standAt apos.atName; let (f, first) ← holding [ov] (getMethod ov m pl); callWith pos f first (backTo pos (starEach (e :: es) X.env)) (backToKw pos (keywordEach [] X.env))) := by rfl) :
    WE X (.Call (.Attribute o m apos) (e :: es) [] pos) Γ L Ex K := fun F0 F σ H Q xo s0 S q pins s I => by
  obtain ⟨mc, pp, g, rd, at_, ⟨rest, hrec⟩, kp, Fn⟩ := c.ex
  have z : cE X o σ H fun v H1 => ∃ F1 d L1, Same F F1 ∧ Sat X.K F1 L1 H1 ∧ Rep X.K F1 d v ∧ d = .ref C ∧ WA X (e :: es) Γ L1 Ex fun ds L2 => sp ds L2 Ex K := ko F0 F σ H _ xo s0 S fun v H1 F1 d L1 e1 S1 r1 k1 => ⟨F1, d, L1, e1, S1, r1, k1⟩
  refine PySem.W.methodCall_KW (pl := pl) (thn (z pins s I) fun u s1 ⟨v, H1, I1, ru, F1, d, L1, e1, S1, r1, ed, ka⟩ => ?_) ht
  subst ed
  cases r1.ref
  obtain rfl : u = Value.ref C := ru
  refine PySem.W.method_cls I1.kIn rd.ga (PySem.W.cls_bind I1.kIn rd.rd at_ ?_)
  refine wpAny_call (PySem.W.sm_get (s := { s1 with toks := s1.toks + 1 }) I1.kIn hrec (PySem.W.handed_on rfl ?_))
  have I2 := I1.tok (s1.toks + 1)
  have z2 : cA X (e :: es) σ H1 fun vs H2 => ∃ F2 ds L2, Same F1 F2 ∧ Sat X.K F2 L2 H2 ∧ Reps X.K F2 ds vs ∧ sp ds L2 Ex K := ka F0 F1 σ H1 _ xo (s0.trans e1) ⟨S1, S.env.mono e1⟩ fun vs H2 F2 ds L2 e2 S2 r2 k2 => ⟨F2, ds, L2, e2, S2, r2, k2⟩
  refine PySem.W.callWith_K (h₀ := X.base) I.ok.mod.kin kp (thn (z2 pos pins _ I2) fun us s2 ⟨vs, H2, I3, rv, F2, ds, L2, e2, S2, r2, k2⟩ => ⟨I3.kIn, ?_⟩) hst hpl
  exact wpAny_call (run_G Fn (rm.mono hk) xo ((s0.trans e1).trans e2) I3 rv S2 r2 k2 fun v H' F' d L' e3 => q v H' F' d L' ((e1.trans e2).trans e3))
end
end L3

namespace L3
open PySem PySem.Spec PyProof.Rows L2

section
variable {X : Cx} {L : Cells} {K : KD}
/-! ### great ints -/
theorem d_mulW : OpD X (binaryOp .Mult) (rII (fun i j => .int (i * j)) CMulW) := opD_I op_mulW fun _ _ _ => Rep.mkInt _
theorem d_fdivW : OpD X (binaryOp .FloorDiv) (rII (fun i j => .int (i / j)) CDivW) := opD_I op_fdivW fun _ _ _ => Rep.mkInt _
end

/-! ### operators of one's own -/
/-- a method as the operators find it -/
structure Spc (P : Program) (w : World) (K : PySem.W.Frag) (mg : Str → Option Value) (base : Heap) (k : Nat) (C : Addr) (m : Str) (sp : TSp) : Prop where
  ex : ∃ f : Addr, PySem.W.findIn K (.ref C) m = some (some (.ref f)) ∧ PySem.W.isFn K (.ref f) = true ∧ FnG P w K mg base k f sp
section
variable {X : Cx} {Γ : Gm} {L : Cells} {Ex : XD} {K : KD} {a b e o : Expr} {es : List Expr} {pos p apos : Pos} {x f m : Str} {C g : Addr} {k j : Nat} {sp : TSp} {En : En}
/-- a call that lets nothing out -/
theorem run_Gn {A : Around} {pins : List (Addr × Obj)} {σ : L2.St} {H : Hp} {s : Shared} {Q : VK} {us : List Value} {vs : List V} {f : Addr} (Fn : FnG X.prog X.w X.K X.mg X.base k f sp) (rm : Rm k A) (e0 : Env0 X.prog X.w X.K X.mg X.base A X.stack s H) (I : Inv X pins σ H s) (r : Vals vs us)
    (h : lift X.K sp vs H Q (fun _ _ _ => False)) : wpAny (model X.prog X.w) A (call (.ref f) us) (EP X pins σ Q) X.xe s := by
  refine wpAny_call (codeAny_mono (Fn A X.stack s H us vs Q (fun _ _ _ => False) rm e0 r h) fun res s' hq => ?_)
  cases res with
  | error er =>
    obtain ⟨_, _, _, _, _, _, _, _, _, _, _, _, z⟩ := hq
    exact z.elim
  | ok fl =>
    cases fl with
    | ret u => exact I.after hq
    | next => exact False.elim hq
    | brk => exact False.elim hq
    | cont => exact False.elim hq
theorem lift_of {F H : Hp} {ds : List Dt} {vs : List V} {Q : VK} (S : Sat X.K F L H) (rs : Reps X.K F ds vs) (h : sp ds L noX K) (q : ∀ v H' F' d L', Same F F' → Sat X.K F' L' H' → Rep X.K F' d v → K d L' → Q v H') : lift X.K sp vs H Q (fun _ _ _ => False) :=
  ⟨F, L, ds, noX, K, S, rs, h, q, fun cls dd H' ⟨F', L', n, a, b, c, d⟩ => d⟩
/-- x == y by an own __eq__ (and the other comparisons) -/
def rOwnD (K : PySem.W.Frag) (C : Addr) (sp : TSp) : R2D := fun x y L Kk => ∃ C', InsC x L C ∧ InsC y L C' ∧ PySem.W.notFirst K C (.ref C') = true ∧ sp [x, y] L noX Kk
theorem d_own {op : CmpOp} (c : Spc X.prog X.w X.K X.mg X.base k C (cmpInfo op).2.1 sp) (rm : Rm j X.A) (hk : k ≤ j) (hop : ∀ a b, compareOp op a b = richCompare op a b := by intro _ _; rfl) : OpD X (compareOp op) (rOwnD X.K C sp) := by
  obtain ⟨f, hs, hf, Fn⟩ := c.ex
  refine ⟨fun x y H Q => ∃ a dx fs b C' dy fs', x = .ref a ∧ y = .ref b ∧ H a = some (.ins C dx fs) ∧ H b = some (.ins C' dy fs') ∧ PySem.W.notFirst X.K C (.ref C') = true ∧ lift X.K sp [x, y] H Q (fun _ _ _ => False), ?_, ?_⟩
  · intro pins s σ H x y v u Q I rx ry h
    obtain ⟨a, dx, fs, b, C', dy, fs', rfl, rfl, ha, hb, hn, q⟩ := h
    cases (show v = Value.ref a from rx)
    cases (show u = Value.ref b from ry)
    obtain ⟨mA, O, _, _, _, _⟩ := ins_get I.hok ha
    obtain ⟨od, J, _⟩ := O.look
    obtain ⟨mB, O2, _, _, _, _⟩ := ins_get I.hok hb
    obtain ⟨od2, J2, _⟩ := O2.look
    obtain ⟨m, hF⟩ := I.fr
    rw [hop]
    refine PySem.W.cmp_K (op := op) (tb := .ref C') (rm.mono hk).room.units0 hF I.ok.mod.kin J J2.type hn hs hf ?_
    refine wpAny_mono (run_Gn (us := [.ref a, .ref b]) (vs := [.ref a, .ref b]) Fn (rm.mono hk) I.env0 I (.cons rfl (.cons rfl .nil)) q) (fun w s' z => ?_) fun _ _ x => x
    obtain ⟨z', H', I', rz, qz⟩ := z
    exact SlX.cmpback rz ⟨z', H', I', rz, qz⟩
  · intro F H L x y v w K Q S rx ry ⟨C', hx, hy, hn, h⟩ q
    obtain ⟨a, dx, fs, ev, ha⟩ := hx.at S rx
    obtain ⟨b, dy, fs', ew, hb⟩ := hy.at S ry
    exact ⟨a, dx, fs, b, C', dy, fs', ev, ew, ha, hb, hn, lift_of S (.cons rx (.cons ry .nil)) h q⟩
/-- a call as it stands -/
theorem run_L {F0 : Hp} {pins : List (Addr × Obj)} {σ : L2.St} {H : Hp} {s : Shared} {Q : VK} {us : List Value} {vs : List V} {f : Addr} (Fn : FnG X.prog X.w X.K X.mg X.base k f sp) (rm : Rm k X.A) (xo : Xok X F0 Ex) (I : Inv X pins σ H s) (r : Vals vs us)
    (h : lift X.K sp vs H Q (wishX X.K F0 Ex)) : wpAny (model X.prog X.w) X.A (call (.ref f) us) (EP X pins σ Q) X.xe s := by
  refine wpAny_call (codeAny_mono (Fn X.A X.stack s H us vs Q (wishX X.K F0 Ex) rm I.env0 r h) fun res s' hq => ?_)
  cases res with
  | error e => exact passes_call xo (fun _ _ _ _ z => z) pins σ H s e s' I hq
  | ok fl =>
    cases fl with
    | ret u => exact I.after hq
    | next => exact False.elim hq
    | brk => exact False.elim hq
    | cont => exact False.elim hq
theorem lift_x {F0 F H : Hp} {ds : List Dt} {vs : List V} {Q : VK} (s0 : Same F0 F) (S : Sat X.K F L H) (rs : Reps X.K F ds vs) (h : sp ds L Ex K) (q : ∀ v H' F' d L', Same F F' → Sat X.K F' L' H' → Rep X.K F' d v → K d L' → Q v H') : lift X.K sp vs H Q (wishX X.K F0 Ex) :=
  ⟨F, L, ds, Ex, K, S, rs, h, q, fun cls dd H' ⟨F', L', n, a, b, c, d⟩ => ⟨F', L', n, s0.trans a, b, c, d⟩⟩
/-- x + y by an own def; it may raise -/
theorem we_own {op : Operator} (c : Spc X.prog X.w X.K X.mg X.base k C (PySem.dunder op.info.2) sp) (rm : Rm j X.A) (hk : k ≤ j) (hc : PySem.W.selfFirst X.K C = true)
    (ka : WE X a Γ L Ex fun x L1 => WE X b Γ L1 Ex fun y L2 => InsC x L2 C ∧ InsC y L2 C ∧ sp [x, y] L2 Ex K) : WE X (.BinOp a op b p) Γ L Ex K := fun F0 F σ H Q xo s0 S q => by
  obtain ⟨f, hs, hf, Fn⟩ := c.ex
  have ho : OpR X (binaryOp op) (fun x y H Q => ∃ a dx fs b dy fs', x = .ref a ∧ y = .ref b ∧ H a = some (.ins C dx fs) ∧ H b = some (.ins C dy fs') ∧ lift X.K sp [x, y] H Q (wishX X.K F0 Ex)) := by
    intro pins s σ H x y v u Q I rx ry h
    obtain ⟨a, dx, fs, b, dy, fs', rfl, rfl, ha, hb, q⟩ := h
    cases (show v = Value.ref a from rx)
    cases (show u = Value.ref b from ry)
    obtain ⟨mA, O, _, _, _, _⟩ := ins_get I.hok ha
    obtain ⟨od, J, _⟩ := O.look
    obtain ⟨mB, O2, _, _, _, _⟩ := ins_get I.hok hb
    obtain ⟨od2, J2, _⟩ := O2.look
    obtain ⟨m, hF⟩ := I.fr
    refine PySem.W.binop_K (op := op) hF I.ok.mod.kin J J2.type hc hs hf ?_
    refine wpAny_mono (run_L (us := [.ref a, .ref b]) (vs := [.ref a, .ref b]) Fn (rm.mono hk) xo I (.cons rfl (.cons rfl .nil)) q) (fun w s' z => ?_) fun _ _ x => x
    obtain ⟨z', H', I', rz, qz⟩ := z
    exact SlX.cmpback rz ⟨z', H', I', rz, qz⟩
  refine cE.of (pe_op ho pE pE) ?_
  refine ka F0 F σ H _ xo s0 S fun v H1 F1 x L1 e1 S1 r1 k1 => ?_
  refine k1 F0 F1 σ H1 _ xo (s0.trans e1) ⟨S1, S.env.mono e1⟩ fun w H2 F2 y L2 e2 S2 r2 ⟨hx, hy, h⟩ => ?_
  obtain ⟨a, dx, fs, ev, ha⟩ := hx.at S2 (r1.mono e2)
  obtain ⟨b, dy, fs', ew, hb⟩ := hy.at S2 r2
  exact ⟨a, dx, fs, b, dy, fs', ev, ew, ha, hb, lift_x ((s0.trans e1).trans e2) S2 (.cons (r1.mono e2) (.cons r2 .nil)) h fun v' H' F' d L' e3 => q v' H' F' d L' ((e1.trans e2).trans e3)⟩
/-- len(x) by an own __len__ -/
def rLenO (C : Addr) (sp : TSp) : CRD := fun ds L Kk => ∃ d, ds = [d] ∧ InsC d L C ∧ sp [d] L noX (fun v L' => ∃ n : Nat, v = .int n ∧ n < 2 ^ 63 ∧ Kk (.int n) L')
theorem b_lenO (c : Spc X.prog X.w X.K X.mg X.base k C "__len__" sp) (rm : Rm j X.A) (hk : k + 1 ≤ j) : CaD X (.builtin "len") (rLenO C sp) := by
  obtain ⟨f, hs, hf, Fn⟩ := c.ex
  refine ⟨fun vs H Q => ∃ a dx fs, vs = [V.ref a] ∧ H a = some (.ins C dx fs) ∧ lift X.K sp [.ref a] H (fun v H' => ∃ n : Nat, v = .int n ∧ n < 2 ^ 63 ∧ Q (.int n) H') (fun _ _ _ => False), ?_, ?_⟩
  · intro pins s σ H vs us Q I r h
    obtain ⟨a, dx, fs, rfl, ha, q⟩ := h
    obtain ⟨u, rfl, ru⟩ := vals1 r
    cases (show u = Value.ref a from ru)
    obtain ⟨mA, O, _, _, _, _⟩ := ins_get I.hok ha
    obtain ⟨od, J, _⟩ := O.look
    obtain ⟨m, hF⟩ := I.fr
    have rm2 : Rm k X.A.in1 := ⟨(rm.mono hk).room.in1, (rm.mono hk).gd⟩
    refine PySem.W.len_K hF I.ok.mod.kin J hs hf (wpAny_mono (run_Gn (us := [.ref a]) (vs := [.ref a]) Fn rm2 I.env0.in1 I (.cons rfl .nil) q) (fun w s' z => ?_) fun _ _ x => x)
    obtain ⟨z', H', I', rz, n, ez, hn, qz⟩ := z
    subst ez
    obtain ⟨t, rfl⟩ := (show ∃ t, w = Value.int n t from rz)
    exact ⟨⟨by omega, by omega⟩, .int n, H', I'.tok _, ⟨_, rfl⟩, qz⟩
  · intro F H L ds vs K Q S rs ⟨d, e, hx, h⟩ k
    subst e
    obtain ⟨v, rfl, r⟩ := reps1 rs
    obtain ⟨a, dx, fs, rfl, ha⟩ := hx.at S r
    refine ⟨a, dx, fs, rfl, ha, lift_of S rs h fun v H' F' d' L' e1 S1 r1 ⟨n, ed, hn, hk⟩ => ?_⟩
    subst ed
    exact ⟨n, r1.int, hn, k _ H' F' _ L' e1 S1 (Rep.mkInt _) hk⟩
/-- x in o by an own __contains__ -/
def rInO (neg : Bool) (C : Addr) (sp : TSp) : R2D := fun x y L Kk => InsC y L C ∧ sp [y, x] L noX (fun v L' => ∃ t, v = .bl t ∧ Kk (.bl (if neg then !t else t)) L')
theorem d_inO (c : Spc X.prog X.w X.K X.mg X.base k C "__contains__" sp) (rm : Rm j X.A) (hk : k ≤ j) : OpD X (compareOp .In) (rInO false C sp) := by
  obtain ⟨f, hs, hf, Fn⟩ := c.ex
  refine ⟨fun x y H Q => ∃ a dx fs, y = .ref a ∧ H a = some (.ins C dx fs) ∧ lift X.K sp [y, x] H (fun v H' => ∃ t, v = .bl t ∧ Q (.bl t) H') (fun _ _ _ => False), ?_, ?_⟩
  · intro pins s σ H x y v u Q I rx ry h
    obtain ⟨a, dx, fs, rfl, ha, q⟩ := h
    cases (show u = Value.ref a from ry)
    obtain ⟨mA, O, _, _, _, _⟩ := ins_get I.hok ha
    obtain ⟨od, J, _⟩ := O.look
    obtain ⟨m, hF⟩ := I.fr
    refine PySem.W.in_K hF I.ok.mod.kin J hs hf (wpAny_mono (run_Gn (us := [.ref a, v]) (vs := [.ref a, x]) Fn (rm.mono hk) I.env0 I (.cons rfl (.cons rx .nil)) q) (fun w s' z => ?_) fun _ _ x => x)
    obtain ⟨z', H', I', rz, t, ez, qz⟩ := z
    subst ez
    cases (show w = Value.bool t from rz)
    exact wpAny_truthy_bool ⟨.bl t, H', I', rfl, qz⟩
  · intro F H L x y v w K Q S rx ry ⟨hy, h⟩ q
    obtain ⟨a, dx, fs, rfl, ha⟩ := hy.at S ry
    refine ⟨a, dx, fs, rfl, ha, lift_of S (.cons ry (.cons rx .nil)) h fun v H' F' d' L' e1 S1 r1 ⟨t, ed, hk⟩ => ?_⟩
    subst ed
    exact ⟨t, r1.bl, q _ H' F' _ L' e1 S1 (Rep.mkBl _) hk⟩
theorem d_ninO (c : Spc X.prog X.w X.K X.mg X.base k C "__contains__" sp) (rm : Rm j X.A) (hk : k ≤ j) : OpD X (compareOp .NotIn) (rInO true C sp) := by
  obtain ⟨f, hs, hf, Fn⟩ := c.ex
  refine ⟨fun x y H Q => ∃ a dx fs, y = .ref a ∧ H a = some (.ins C dx fs) ∧ lift X.K sp [y, x] H (fun v H' => ∃ t, v = .bl t ∧ Q (.bl (!t)) H') (fun _ _ _ => False), ?_, ?_⟩
  · intro pins s σ H x y v u Q I rx ry h
    obtain ⟨a, dx, fs, rfl, ha, q⟩ := h
    cases (show u = Value.ref a from ry)
    obtain ⟨mA, O, _, _, _, _⟩ := ins_get I.hok ha
    obtain ⟨od, J, _⟩ := O.look
    obtain ⟨m, hF⟩ := I.fr
    refine PySem.W.notIn_K hF I.ok.mod.kin J hs hf (wpAny_mono (run_Gn (us := [.ref a, v]) (vs := [.ref a, x]) Fn (rm.mono hk) I.env0 I (.cons rfl (.cons rx .nil)) q) (fun w s' z => ?_) fun _ _ x => x)
    obtain ⟨z', H', I', rz, t, ez, qz⟩ := z
    subst ez
    cases (show w = Value.bool t from rz)
    exact wpAny_truthy_bool ⟨.bl (!t), H', I', rfl, qz⟩
  · intro F H L x y v w K Q S rx ry ⟨hy, h⟩ q
    obtain ⟨a, dx, fs, rfl, ha⟩ := hy.at S ry
    refine ⟨a, dx, fs, rfl, ha, lift_of S (.cons ry (.cons rx .nil)) h fun v H' F' d' L' e1 S1 r1 ⟨t, ed, hk⟩ => ?_⟩
    subst ed
    exact ⟨t, r1.bl, q _ H' F' _ L' e1 S1 (Rep.mkBl _) hk⟩
end

/-! ### def f(a, .., *v) -/
section
variable {P : Program} {w : World} {K : PySem.W.Frag} {mg : Str → Option Value} {base : Heap} {k : Nat} {f : Addr} {name qual : Str} {params : Arguments} {body : List Stmt} {scope : Scope} {dvs : List V} {kws : List (Str × V)} {fd : FuncData} {N ps : List Str} {sp : TSp} {pv : Str}
theorem fn_starD (Fd : FunD K name qual params body scope [] kws f fd) (S : FnScope N (ps ++ [pv]) scope)
    (hb : ∀ (kV doc pm : Value) (an : Option Addr) (cdv ct : Value) (us rest : List Value), us.length = ps.length → bindArgs (PySem.W.fnOf name qual params body scope .none kV doc pm an cdv ct) ⟨us ++ rest, []⟩ = (newTuple rest >>= fun t => pure (ps.zip us ++ [(pv, t)])))
    (hbody : ∀ (cdv : Value) (A : Around) (outer : List Env) (s : Shared) (H : Hp) (E : XK), Rm k (cxD P w K mg base N qual scope f cdv A outer s H E).A → ∀ (ds rest : List Dt) (L : Cells) (Ex : XD) (Kk : KD), ds.length = ps.length → sp (ds ++ rest) L Ex Kk →
      WSs (cxD P w K mg base N qual scope f cdv A outer s H E) body (gIn N (ds ++ [.tup rest])) L Ex { nx := fun _ L' => Kk .non L', rt := Kk }) :
    FnG P w K mg base (k + 1) f (fun ds L Ex Kk => ps.length ≤ ds.length ∧ ds.length ≤ 1000000 ∧ sp ds L Ex Kk) := by
  obtain ⟨oc, od, dV, kV, doc, pm, an, cdv, ct, osl, rfl, lk, hcd, hD, _⟩ := Fd.ex
  obtain rfl : dV = .none := by
    rcases hD with ⟨_, e⟩ | ⟨e, _⟩
    · exact e
    · exact absurd rfl e
  intro A outer s H us vs Q E rm e0 r ⟨F1, L, ds, Ex, Kk, Sa, rs, ⟨hl, hz, q⟩, k1, k2⟩
  have e1 : ds = ds.take ps.length ++ ds.drop ps.length := (List.take_append_drop _ _).symm
  have e2 : vs = vs.take ps.length ++ vs.drop ps.length := (List.take_append_drop _ _).symm
  have lv : vs.length = ds.length := rs.length.symm
  have l1 : (ds.take ps.length).length = ps.length := by rw [List.length_take]; omega
  have l2 : (vs.take ps.length).length = ps.length := by rw [List.length_take]; omega
  rw [e1] at q
  rw [e2] at r
  obtain ⟨u1, u2, rfl, r1, r2⟩ := StX.vals_split r
  have hn : H s.heap.objs.size = Option.none := e0.hok.fresh (Nat.le_refl _)
  have hl1 : u1.length = ps.length := by rw [← r1.length]; exact l2
  have hl2 : u2.length ≤ sizeLine := by rw [← r2.length, List.length_drop, lv]; exact Nat.le_trans (Nat.sub_le _ _) (line_of hz)
  refine StX.run_bnd lk hcd S rm.room e0 (G := fun xs H2 => ∃ p, H p = Option.none ∧ xs = vs.take ps.length ++ [V.ref p] ∧ H2 = upd H p (.tup (vs.drop ps.length))) (fun A' Ex' Q' h => ?_) fun s2 H2 xs ⟨p, hp, ex, eH⟩ hr' => ?_
  · rw [hb kV doc pm an cdv ct u1 u2 hl1]
    refine wpAny_bind (wpAny_newTuple (wpAny_pure ?_) hl2)
    have new : ObjOk P w (upd H s.heap.objs.size (.tup (vs.drop ps.length))) (s.heap.push ({ cls := .type "tuple", data := .seq u2.toArray } : Obj)) s.heap.objs.size (.tup (vs.drop ps.length)) := ⟨by rw [r2.length]; exact hl2, u2, r2, ⟨_, Heap.get?_push_size _ rfl, rfl, _, rfl⟩⟩
    have un := StX.un_laid (fs := frs outer) (s := s) (o := ({ cls := .type "tuple", data := .seq u2.toArray } : Obj)) (u := .tup (vs.drop ps.length)) hn
    have z := h _ _ (vs.take ps.length ++ [V.ref s.heap.objs.size]) (u1 ++ [Value.ref s.heap.objs.size]) (StX.env0_laid e0 new) un rfl (fun e s' => StX.cxUp outer s H _ _ E e s' un (fun b o q => Heap.get?_push_of_some _ q) rfl) (r1.append (.cons rfl .nil))
      (by rw [List.length_append, List.length_append, l2] <;> rfl) ⟨_, hn, rfl, rfl⟩
    rw [List.zip_append hl1.symm] at z
    exact z
  · subst ex eH
    have hF := none_back Sa.sub hp
    have s01 : Same F1 (upd F1 p (.tup (vs.drop ps.length))) := same_new hF
    have rds : Reps K (upd F1 p (.tup (vs.drop ps.length))) (ds.take ps.length ++ [.tup (ds.drop ps.length)]) (vs.take ps.length ++ [V.ref p]) :=
      ((rs.take _).mono s01).append (.cons (Rep.mkTup (SqT.of upd_same) ((rs.drop _).mono s01)) .nil)
    refine ⟨_, pSs, ?_⟩
    refine hbody cdv A outer s2 _ E ⟨hr', rm.gd⟩ _ _ L Ex Kk l1 q F1 _ _ _ _ (xok_def k2) s01 ⟨Sa.newF hp, envR_start rds⟩ ⟨fun σ' H' F' Γ' L' e S' kk => ?_, fun v H' F' d L' e S' r' kk => k1 v H' F' d L' (s01.trans e) S' r' kk, fun _ _ _ _ _ _ _ z => z.elim, fun _ _ _ _ _ _ _ z => z.elim⟩
    exact k1 .non H' F' .non L' (s01.trans e) S'.sat Rep.mkNon kk
end
end L3

namespace L3
open PySem PySem.Spec PyProof.Rows L2

/-! ### branches -/
theorem tf {p : Prop} [Decidable p] {A B : Prop} (h1 : p → A) (h2 : ¬p → B) : if decide p = true then A else B := by
  by_cases h : p
  · rw [if_pos (decide_eq_true h)]; exact h1 h
  · rw [if_neg (by rw [decide_eq_false h]; exact Bool.false_ne_true)]; exact h2 h
theorem tfn {p : Prop} [Decidable p] {A B : Prop} (h1 : ¬p → A) (h2 : p → B) : if (!decide p) = true then A else B := by
  by_cases h : p
  · rw [decide_eq_true h]; exact h2 h
  · rw [decide_eq_false h]; exact h1 h
theorem tb {b : Bool} {A B : Prop} (h1 : b = true → A) (h2 : b = false → B) : if b = true then A else B := by
  cases b with
  | true => exact h1 rfl
  | false => exact h2 rfl
theorem t_t {b : Bool} {A B : Prop} (h : b = true) (a : A) : if b = true then A else B := by rw [if_pos h]; exact a
theorem t_f {b : Bool} {A B : Prop} (h : b = false) (a : B) : if b = true then A else B := by rw [h]; exact a
theorem t_y {p : Prop} [Decidable p] {A B : Prop} (h : p) (a : A) : if decide p = true then A else B := t_t (decide_eq_true h) a
theorem t_n {p : Prop} [Decidable p] {A B : Prop} (h : ¬p) (a : B) : if decide p = true then A else B := t_f (decide_eq_false h) a
theorem t_ny {p : Prop} [Decidable p] {A B : Prop} (h : ¬p) (a : A) : if (!decide p) = true then A else B := t_t (by rw [decide_eq_false h]; rfl) a
theorem t_nn {p : Prop} [Decidable p] {A B : Prop} (h : p) (a : B) : if (!decide p) = true then A else B := t_f (by rw [decide_eq_true h]; rfl) a

/-! ### lists of ints -/
theorem at_map {α : Type} {g : α → Dt} {ns : List α} {i : Nat} {d : Dt} (h : (ns.map g)[i]? = some d) : ∃ hi : i < ns.length, d = g ns[i] := by
  rw [List.getElem?_map] at h
  by_cases hi : i < ns.length
  · rw [List.getElem?_eq_getElem hi] at h
    simp at h
    exact ⟨hi, h.symm⟩
  · rw [List.getElem?_eq_none (by omega)] at h
    simp at h
theorem atI_nat {α : Type} {xs : List α} {i : Int} (h0 : 0 ≤ i) (h1 : i < xs.length) : atI xs i = xs[i.toNat]? := by
  unfold atI ixN
  rw [if_pos h0, if_pos h1]
  rfl
theorem atI_neg {α : Type} {xs : List α} {i : Int} (h0 : i < 0) (h1 : -(xs.length : Int) ≤ i) : atI xs i = xs[(i + xs.length).toNat]? := by
  unfold atI ixN
  rw [if_neg (by omega), if_pos h1]
  rfl
theorem atI_map {α : Type} [Inhabited α] {g : α → Dt} {ns : List α} {i : Int} (h0 : 0 ≤ i) (h1 : i < ns.length) : atI (ns.map g) i = some (g (ns.getD i.toNat default)) := by
  rw [atI_nat h0 (by rw [List.length_map]; exact h1), List.getElem?_map]
  have : i.toNat < ns.length := by omega
  rw [List.getElem?_eq_getElem this, List.getD_eq_getElem?_getD, List.getElem?_eq_getElem this]
  rfl
theorem atI_int {ns : List Int} {i : Int} (h0 : 0 ≤ i) (h1 : i < ns.length) : atI (ns.map Dt.int) i = some (.int (ns.getD i.toNat 0)) := atI_map h0 h1
theorem atI_intN {ns : List Int} {i : Int} (h0 : i < 0) (h1 : -(ns.length : Int) ≤ i) : atI (ns.map Dt.int) i = some (.int (ns.getD (i + ns.length).toNat 0)) := by
  rw [atI_neg h0 (by rw [List.length_map]; exact h1), List.getElem?_map, List.length_map]
  have : (i + ns.length).toNat < ns.length := by omega
  rw [List.getElem?_eq_getElem this, List.getD_eq_getElem?_getD, List.getElem?_eq_getElem this]
  rfl
theorem cutD_map {α : Type} {g : α → Dt} {ns : List α} {lo hi : Option Int} : cutD (ns.map g) lo hi = (((ns.drop (HT.sIx ns.length 0 lo)).take (HT.sIx ns.length ns.length hi - HT.sIx ns.length 0 lo))).map g := by
  unfold cutD
  rw [List.length_map, ← List.map_drop, ← List.map_take]
/-- xs[lo:hi] of any list -/
def cutI {α : Type} (ns : List α) (lo hi : Option Int) : List α := (ns.drop (HT.sIx ns.length 0 lo)).take (HT.sIx ns.length ns.length hi - HT.sIx ns.length 0 lo)
theorem cutD_int {α : Type} {g : α → Dt} {ns : List α} {lo hi : Option Int} : cutD (ns.map g) lo hi = (cutI ns lo hi).map g := cutD_map
theorem cutI_to {α : Type} {ns : List α} {k : Int} (h : 0 ≤ k) : cutI ns none (some k) = ns.take k.toNat := by
  unfold cutI
  have e : HT.sIx ns.length ns.length (some k) = min k.toNat ns.length := by
    show (if k < 0 then _ else _) = _
    rw [if_neg (by omega)]
  rw [e]
  simp [HT.sIx]
theorem cutI_from {α : Type} {ns : List α} {k : Int} (h : 0 ≤ k) : cutI ns (some k) none = ns.drop k.toNat := by
  unfold cutI
  have e : HT.sIx ns.length 0 (some k) = min k.toNat ns.length := by
    show (if k < 0 then _ else _) = _
    rw [if_neg (by omega)]
  rw [e]
  show (ns.drop (min k.toNat ns.length)).take (ns.length - min k.toNat ns.length) = _
  rw [List.take_of_length_le (by rw [List.length_drop]; omega)]
  by_cases hk : k.toNat ≤ ns.length
  · rw [Nat.min_eq_left hk]
  · rw [Nat.min_eq_right (by omega), List.drop_of_length_le (Nat.le_refl _), List.drop_of_length_le (by omega)]
theorem cutI_mid {α : Type} {ns : List α} {j k : Int} (h : 0 ≤ j) (hk : 0 ≤ k) : cutI ns (some j) (some k) = (ns.drop j.toNat).take (k.toNat - j.toNat) := by
  unfold cutI
  have e : HT.sIx ns.length 0 (some j) = min j.toNat ns.length := by
    show (if j < 0 then _ else _) = _
    rw [if_neg (by omega)]
  have e2 : HT.sIx ns.length ns.length (some k) = min k.toNat ns.length := by
    show (if k < 0 then _ else _) = _
    rw [if_neg (by omega)]
  rw [e, e2]
  by_cases hj : j.toNat ≤ ns.length
  · rw [Nat.min_eq_left hj]
    by_cases hk2 : k.toNat ≤ ns.length
    · rw [Nat.min_eq_left hk2]
    · rw [Nat.min_eq_right (by omega), List.take_of_length_le (by rw [List.length_drop]; omega), List.take_of_length_le (by rw [List.length_drop]; omega)]
  · rw [Nat.min_eq_right (a := j.toNat) (by omega), List.drop_of_length_le (Nat.le_refl _), List.drop_of_length_le (by omega)]
    simp
theorem cutI_most {α : Type} {ns : List α} {k : Int} (h : k < 0) : cutI ns none (some k) = ns.take (k + ns.length).toNat := by
  unfold cutI
  have e : HT.sIx ns.length ns.length (some k) = (k + ns.length).toNat := by
    show (if k < 0 then _ else _) = _
    rw [if_pos h]
  rw [e]
  simp [HT.sIx]
section
variable {X : Cx} {Γ : Gm} {L : Cells} {Ex : XD} {K : KD} {a b e o : Expr} {p : Pos}
theorem we_neg (k : WE X a Γ L Ex fun d L1 => ∃ i, d = .int i ∧ K (.int (-i)) L1) : WE X (.UnaryOp .USub a p) Γ L Ex K := fun F0 F σ H Q xo s0 S q => by
  refine cE.of (pe_un un_neg pE) ?_
  refine k F0 F σ H _ xo s0 S fun v H1 F1 x L1 e1 S1 r1 ⟨i, ed, k1⟩ => ?_
  subst ed
  exact ⟨i, r1.int, q _ H1 F1 _ L1 e1 S1 (Rep.mkInt _) k1⟩
theorem ix_iL {ns : List Int} {i : Int} (h0 : 0 ≤ i) (h1 : i < ns.length) (k : K (.int (ns.getD i.toNat 0)) L) : rIxD (.lst (ns.map Dt.int)) (.int i) L K := ixd_lst (atI_int h0 h1) k
theorem ix_iLn {ns : List Int} {i : Int} (h0 : i < 0) (h1 : -(ns.length : Int) ≤ i) (k : K (.int (ns.getD (i + ns.length).toNat 0)) L) : rIxD (.lst (ns.map Dt.int)) (.int i) L K := ixd_lst (atI_intN h0 h1) k
theorem ix_iR {ns : List Int} {i : Int} (h0 : 0 ≤ i) (h1 : i < ns.length) (k : K (.int (ns.getD i.toNat 0)) L) : rIxD (.rdl (ns.map Dt.int)) (.int i) L K := ixd_rdl (atI_int h0 h1) k
theorem ix_iT {ns : List Int} {i : Int} (h0 : 0 ≤ i) (h1 : i < ns.length) (k : K (.int (ns.getD i.toNat 0)) L) : rIxD (.tup (ns.map Dt.int)) (.int i) L K := ixd_tup (atI_int h0 h1) k
theorem ix_iO {c : Addr} {f : OC → Cells} {ns : List Int} {i : Int} (hh : Has L c (.lst (ns.map Dt.int)) f) (h0 : 0 ≤ i) (h1 : i < ns.length) (k : K (.int (ns.getD i.toNat 0)) L) : rIxD (.ref c) (.int i) L K := ixd_own hh (atI_int h0 h1) k
theorem sl_iL {α : Type} {g : α → Dt} {ns : List α} {l h : Option Int} (k : K (.lst ((cutI ns l h).map g)) L) : rSlD (.lst (ns.map g)) l h L K := sl_lst' (by rw [cutD_int]; exact k)
theorem sl_iT {α : Type} {g : α → Dt} {ns : List α} {l h : Option Int} (k : K (.tup ((cutI ns l h).map g)) L) : rSlD (.tup (ns.map g)) l h L K := sl_tup' (by rw [cutD_int]; exact k)
theorem len_iL {α : Type} {g : α → Dt} {ns : List α} (k : K (.int ns.length) L) : rLen [.lst (ns.map g)] L K := len_lst (by rw [List.length_map]; exact k)
theorem len_iR {α : Type} {g : α → Dt} {ns : List α} (k : K (.int ns.length) L) : rLen [.rdl (ns.map g)] L K := len_rdl (by rw [List.length_map]; exact k)
theorem len_iT {α : Type} {g : α → Dt} {ns : List α} (k : K (.int ns.length) L) : rLen [.tup (ns.map g)] L K := len_tup (by rw [List.length_map]; exact k)
theorem len_iO {α : Type} {g : α → Dt} {c : Addr} {f : OC → Cells} {ns : List α} (hh : Has L c (.lst (ns.map g)) f) (k : K (.int ns.length) L) : rLen [.ref c] L K := len_own hh (by rw [List.length_map]; exact k)
theorem plus_iL {α : Type} {g : α → Dt} {i j : List α} (h : i.length + j.length ≤ 1000000) (k : K (.lst ((i ++ j).map g)) L) : rPlus (.lst (i.map g)) (.lst (j.map g)) L K := plus_lst (by rw [List.length_map, List.length_map]; exact h) (by rw [← List.map_append]; exact k)
theorem plus_iT {α : Type} {g : α → Dt} {i j : List α} (h : i.length + j.length ≤ 1000000) (k : K (.tup ((i ++ j).map g)) L) : rPlus (.tup (i.map g)) (.tup (j.map g)) L K := plus_tup (by rw [List.length_map, List.length_map]; exact h) (by rw [← List.map_append]; exact k)
/-! ### == and != of all data -/
def rEqA (neg : Bool) : R2D := fun x y L K => rEqF neg x y L K ∨ rEqs neg x y L K
theorem d_eqA (hu : X.A.units + 64 < cLine) : OpD X (compareOp .Eq) (rEqA false) := d_eq.or (d_eqD hu)
theorem d_neA (hu : X.A.units + 64 < cLine) : OpD X (compareOp .NotEq) (rEqA true) := d_ne.or (d_neD hu)
theorem Rm.eqU {k : Nat} {A : Around} (r : Rm k A) : A.units + 64 < cLine := by have := r.room.un; omega
theorem Rm.repU {k : Nat} {A : Around} (r : Rm k A) : A.units + 65 < cLine := by have := r.room.un; omega
theorem eqA_int {i j : Int} (k : K (.bl (decide (i = j))) L) : rEqA false (.int i) (.int j) L K := .inl (eq_int k)
theorem eqA_str {i j : Str} (k : K (.bl (decide (i = j))) L) : rEqA false (.str i) (.str j) L K := .inl (eq_str k)
theorem eqA_bl {i j : Bool} (k : K (.bl (decide (i = j))) L) : rEqA false (.bl i) (.bl j) L K := .inl (eq_bl k)
theorem neA_int {i j : Int} (k : K (.bl (!decide (i = j))) L) : rEqA true (.int i) (.int j) L K := .inl (ne_int k)
theorem neA_str {i j : Str} (k : K (.bl (!decide (i = j))) L) : rEqA true (.str i) (.str j) L K := .inl (ne_str k)
theorem neA_bl {i j : Bool} (k : K (.bl (!decide (i = j))) L) : rEqA true (.bl i) (.bl j) L K := .inl (ne_bl k)
end
/-- == of lists of scalars -/
structure Scl (α : Type) [DecidableEq α] (g : α → Dt) where
  h : α → PyData
  py : ∀ x, (g x).py = some (h x)
  eqv : ∀ x y, PyData.eqv (h x) (h y) = decide (x = y)
  ok : ∀ x, (h x).canLay0 = true
  dp : ∀ x, (h x).depth = 0
def sclI : Scl Int Dt.int := ⟨.int, fun _ => by simp only [Dt.py], fun x y => by simp only [PyData.eqv]; rfl, fun _ => by simp only [PyData.canLay0], fun _ => by simp only [PyData.depth]⟩
def sclB : Scl Bool Dt.bl := ⟨.bool, fun _ => by simp only [Dt.py], fun x y => by simp only [PyData.eqv]; cases x <;> cases y <;> rfl, fun _ => by simp only [PyData.canLay0], fun _ => by simp only [PyData.depth]⟩
section
variable {α : Type} [DecidableEq α] {g : α → Dt} (c : Scl α g)
theorem Scl.pys : ∀ ns : List α, Dt.pys (ns.map g) = some (ns.map c.h)
  | [] => by simp only [List.map_nil, Dt.pys]
  | n :: ns => by simp only [List.map_cons, Dt.pys, c.py, Scl.pys ns]
theorem Scl.eqvAll : ∀ ns ms : List α, PyData.eqvAll (ns.map c.h) (ms.map c.h) = decide (ns = ms)
  | [], [] => by simp only [List.map_nil, PyData.eqvAll]; rfl
  | [], m :: ms => by simp only [List.map_nil, List.map_cons, PyData.eqvAll]; simp
  | n :: ns, [] => by simp only [List.map_nil, List.map_cons, PyData.eqvAll]; simp
  | n :: ns, m :: ms => by
    simp only [List.map_cons, PyData.eqvAll, c.eqv, Scl.eqvAll ns ms]
    by_cases h1 : n = m <;> by_cases h2 : ns = ms <;> simp [h1, h2]
theorem Scl.lay : ∀ ns : List α, PyData.canLayAll0 (ns.map c.h) = true
  | [] => by simp only [List.map_nil, PyData.canLayAll0]
  | n :: ns => by simp only [List.map_cons, PyData.canLayAll0, c.ok, Scl.lay ns, Bool.and_self]
theorem Scl.depth : ∀ ns : List α, PyData.depthAll (ns.map c.h) = 0
  | [] => by simp only [List.map_nil, PyData.depthAll]
  | n :: ns => by simp only [List.map_cons, PyData.depthAll, c.dp, Scl.depth ns, Nat.max_self]
theorem Scl.shL (ns : List α) : SeqAt.shaped (.list (ns.map c.h)) = true := by
  unfold SeqAt.shaped
  simp only [PyData.canLay0, PyData.depth, c.lay, c.depth]
  decide
theorem Scl.shT (ns : List α) : SeqAt.shaped (.tuple (ns.map c.h)) = true := by
  unfold SeqAt.shaped
  simp only [PyData.canLay0, PyData.depth, c.lay, c.depth]
  decide
include c
theorem eqs_l {L : Cells} {K : KD} {ns ms : List α} {neg : Bool} (k : K (.bl (if neg then !decide (ns = ms) else decide (ns = ms))) L) : rEqs neg (.lst (ns.map g)) (.lst (ms.map g)) L K := by
  refine ⟨.list (ns.map c.h), .list (ms.map c.h), ?_, ?_, c.shL ns, c.shL ms, ?_⟩
  · simp only [Dt.py, c.pys, Option.map_some]
  · simp only [Dt.py, c.pys, Option.map_some]
  · simp only [PyData.eqv, c.eqvAll]
    exact k
theorem eqs_t {L : Cells} {K : KD} {ns ms : List α} {neg : Bool} (k : K (.bl (if neg then !decide (ns = ms) else decide (ns = ms))) L) : rEqs neg (.tup (ns.map g)) (.tup (ms.map g)) L K := by
  refine ⟨.tuple (ns.map c.h), .tuple (ms.map c.h), ?_, ?_, c.shT ns, c.shT ms, ?_⟩
  · simp only [Dt.py, c.pys, Option.map_some]
  · simp only [Dt.py, c.pys, Option.map_some]
  · simp only [PyData.eqv, c.eqvAll]
    exact k
end
section
variable {L : Cells} {K : KD}
theorem eqA_iL {ns ms : List Int} (k : K (.bl (decide (ns = ms))) L) : rEqA false (.lst (ns.map Dt.int)) (.lst (ms.map Dt.int)) L K := .inr (eqs_l sclI k)
theorem neA_iL {ns ms : List Int} (k : K (.bl (!decide (ns = ms))) L) : rEqA true (.lst (ns.map Dt.int)) (.lst (ms.map Dt.int)) L K := .inr (eqs_l sclI k)
theorem eqA_bL {ns ms : List Bool} (k : K (.bl (decide (ns = ms))) L) : rEqA false (.lst (ns.map Dt.bl)) (.lst (ms.map Dt.bl)) L K := .inr (eqs_l sclB k)
theorem neA_bL {ns ms : List Bool} (k : K (.bl (!decide (ns = ms))) L) : rEqA true (.lst (ns.map Dt.bl)) (.lst (ms.map Dt.bl)) L K := .inr (eqs_l sclB k)
theorem eqA_iT {ns ms : List Int} (k : K (.bl (decide (ns = ms))) L) : rEqA false (.tup (ns.map Dt.int)) (.tup (ms.map Dt.int)) L K := .inr (eqs_t sclI k)
theorem neA_iT {ns ms : List Int} (k : K (.bl (!decide (ns = ms))) L) : rEqA true (.tup (ns.map Dt.int)) (.tup (ms.map Dt.int)) L K := .inr (eqs_t sclI k)
end

/-! ### a new thing frozen at once -/
section
variable {X : Cx} {Γ : Gm} {L : Cells} {Ex : XD} {K : KD} {a b e o : Expr} {p : Pos} {sts : List Stmt} {En : En}
/-- what was made is frozen -/
theorem we_frzI (k : WE X e Γ L Ex fun d L1 => ∃ a C fs xs L2, d = .ref a ∧ L1 = (a, .ins C fs xs) :: L2 ∧ K (.ins C fs xs) L2) : WE X e Γ L Ex K := we_conv k fun d L1 ⟨a, C, fs, xs, L2, e1, e2, k1⟩ => by
  subst e1 e2
  exact ⟨_, _, Cv.frzI (L0 := []), k1⟩
theorem we_frzL (k : WE X e Γ L Ex fun d L1 => ∃ a xs L2, d = .ref a ∧ L1 = (a, .lst xs) :: L2 ∧ K (.lst xs) L2) : WE X e Γ L Ex K := we_conv k fun d L1 ⟨a, xs, L2, e1, e2, k1⟩ => by
  subst e1 e2
  exact ⟨_, _, Cv.frzL (L0 := []), k1⟩
/-- a list in a slot is frozen -/
theorem wss_frzL {i : Nat} {c : Addr} {ds : List Dt} {Γ' : Gm} {L0 L1 : Cells} (g : Ga Γ i (.ref c)) (s : Sa Γ i (.lst ds) Γ') (hL : L = L0 ++ (c, .lst ds) :: L1) (k : WSs X sts Γ' (L0 ++ L1) Ex En) : WSs X sts Γ L Ex En := by
  refine wss_conv (fun F σ H S => ?_) k
  subst hL
  obtain ⟨o, ho, vs, e, rv⟩ := S.sat.at
  subst e
  have hF : F c = none := S.sat.fre (c, .lst ds) (by simp)
  refine ⟨_, same_new hF, S.sat.freeze ho, ?_⟩
  obtain ⟨v, hv, rr⟩ := S.env.2 i _ g.get
  cases rr.ref
  have e2 := (S.env.mono (same_new (o := .lst vs) hF)).set (Rep.mkLst (F := upd F c (.lst vs)) upd_same (rv.mono (same_new hF))) i
  rw [s.set] at e2
  have e3 : σ.set i (some (V.ref c)) = σ := by
    apply List.ext_getElem?
    intro j
    by_cases hj : i = j
    · subst hj
      have hl : i < σ.length := by
        rcases Nat.lt_or_ge i σ.length with h | h
        · exact h
        · rw [List.getElem?_eq_none h] at hv; cases hv
      rw [List.getElem?_set_self hl, hv]
    · rw [List.getElem?_set_ne hj]
  rw [e3] at e2
  exact e2
/-- a cell is forgotten -/
theorem wss_drop {q : Addr × OC} {L0 L1 : Cells} (hL : L = L0 ++ q :: L1) (k : WSs X sts Γ (L0 ++ L1) Ex En) : WSs X sts Γ L Ex En := wss_conv (fun F σ H S => by subst hL; exact ⟨F, Same.refl F, S.sat.less, S.env⟩) k
end
end L3

namespace L3
open PySem PySem.Spec PyProof.Rows L2

section
variable {X : Cx} {Γ Γ' : Gm} {L : Cells} {Ex : XD} {K : KD} {e a b c tg it elt : Expr} {scope : Scope} {j : Nat}
/-- a comprehension without tests whose cells stay: the items' results are known -/
theorem lc_rs {ds rs : List Dt} {Γw : Gm} (hl : rs.length = ds.length) (hm : ds.length ≤ 1000000)
    (h : ∀ (i : Nat) d acc (D : Addr), ds[i]? = some d → ∃ Γ2, Sa Γw j d Γ2 ∧ WEB X scope elt Γ2 ((D, .lst acc) :: L) fun y L4 => rs[i]? = some y ∧ L4 = (D, .lst acc) :: L)
    {Kk : List Dt → Cells → Prop} (k : Kk rs L) : ∃ I : Nat → List Dt → Cells → Prop, I 0 [] L ∧ LcT X scope elt Γw j ds I ∧ ∀ acc L', I ds.length acc L' → Kk acc L' := by
  refine ⟨fun i acc L' => acc = rs.take i ∧ L' = L, ⟨by simp, rfl⟩, ?_, ?_⟩
  · rintro i d acc L' D hd ⟨e1, e2⟩
    subst e2
    obtain ⟨Γ2, g, w⟩ := h i d acc D hd
    refine ⟨Γ2, g, fun s H C cl fp => ?_⟩
    refine we_imp (w s H C cl fp) fun y L4 ⟨q1, q2⟩ => ⟨_, q2, ?_, ?_, rfl⟩
    · have hi : i < ds.length := by
        rcases Nat.lt_or_ge i ds.length with h | h
        · exact h
        · rw [List.getElem?_eq_none h] at hd; cases hd
      rw [e1, List.length_take]
      omega
    · rw [e1]
      have hi : i < rs.length := by
        rcases Nat.lt_or_ge i rs.length with h | h
        · exact h
        · rw [List.getElem?_eq_none h] at q1; cases q1
      rw [List.take_succ, q1]
      rfl
  · rintro acc L' ⟨e1, e2⟩
    subst e2
    rw [e1, ← hl, List.take_length]
    exact k
/-- with one test: the result so far -/
theorem lcI_rs {ds : List Dt} {rs : Nat → List Dt} {Γw : Gm} (h0 : rs 0 = []) (hm : ∀ i, i < ds.length → (rs i).length < 1000000)
    (h : ∀ (i : Nat) d (D : Addr), ds[i]? = some d → ∃ Γ2, Sa Γw j d Γ2 ∧ WTB X scope c Γ2 ((D, .lst (rs i)) :: L) fun t L5 => L5 = (D, .lst (rs i)) :: L ∧
      if t = true then WEB X scope elt Γ2 ((D, .lst (rs i)) :: L) (fun y L4 => rs (i + 1) = rs i ++ [y] ∧ L4 = (D, .lst (rs i)) :: L) else rs (i + 1) = rs i)
    {Kk : List Dt → Cells → Prop} (k : Kk (rs ds.length) L) : ∃ I : Nat → List Dt → Cells → Prop, I 0 [] L ∧ LcTI X scope elt c Γw j ds I ∧ ∀ acc L', I ds.length acc L' → Kk acc L' := by
  refine ⟨fun i acc L' => acc = rs i ∧ L' = L, ⟨h0.symm, rfl⟩, ?_, ?_⟩
  · rintro i d acc L' D hd ⟨e1, e2⟩
    subst e1 e2
    have hi : i < ds.length := by
      rcases Nat.lt_or_ge i ds.length with h | h
      · exact h
      · rw [List.getElem?_eq_none h] at hd; cases hd
    obtain ⟨Γ2, g, w⟩ := h i d D hd
    refine ⟨Γ2, g, fun s H C cl fp F0 F σ H Q xo s0 S q => ?_⟩
    refine w s _ C cl fp F0 F σ H Q xo s0 S fun b H' F' L5 e1 S1 k1 => ?_
    obtain ⟨e2, k2⟩ := k1
    subst e2
    refine q b H' F' _ e1 S1 ?_
    cases b with
    | true =>
      rw [if_pos rfl] at k2 ⊢
      intro s H C cl fp
      refine we_imp (k2 s H C cl fp) fun y L4 ⟨q1, q2⟩ => ⟨_, q2, hm i hi, q1.symm, rfl⟩
    | false =>
      rw [if_neg Bool.false_ne_true] at k2 ⊢
      exact ⟨_, rfl, k2.symm, rfl⟩
  · rintro acc L' ⟨e1, e2⟩
    subst e1 e2
    exact k
end
end L3

namespace L3
open PySem PySem.Spec PyProof.Rows L2

/-! ### the head: facts as Bools over the fragment, defs by any address -/
abbrev Fb := PySem.W.Frag → Bool
abbrev FOb := Option (Str × Str × Arguments × FuncBody × Scope × Addr × List (Str × Addr) × Addr)
structure Fdt where
  ad : PySem.W.Frag → Addr
  name : Str
  qual : Str
  params : Arguments
  body : List Stmt
  scope : Scope
  dfl : List He.Dv := []
  kwd : List (Str × He.Dv) := []
def theFn (K : PySem.W.Frag) (a : Addr) : Option FuncData := (K.lookup a).bind fun o => match o.data with
  | .func d => some d
  | _ => none
theorem theFn_at {K : PySem.W.Frag} {a : Addr} {d : FuncData} (e : theFn K a = some d) : ∃ c m sl, K.lookup a = some ⟨c, m, .func d, sl⟩ := by
  obtain ⟨⟨c, m, dt, sl⟩, h1, h2⟩ := Option.bind_eq_some_iff.mp e
  cases dt with
  | func z =>
    cases (show some z = some d from h2)
    exact ⟨c, m, sl, h1⟩
  | _ => cases h2
def Fdt.seen (K : PySem.W.Frag) (t : Fdt) : FOb := (theFn K (t.ad K)).map fun d => (d.name, d.qualname, d.params, d.body, d.scope, d.globals, d.closure, d.builtins)
def Fdt.due (t : Fdt) : FOb := some (t.name, t.qual, t.params, .stmts t.body, t.scope, mainGlobals, [], builtinsNs)
def Fdt.vs (K : PySem.W.Frag) (t : Fdt) : List V := t.dfl.map (He.Dv.v K)
def Fdt.ks (K : PySem.W.Frag) (t : Fdt) : List (Str × V) := t.kwd.map fun q => (q.1, q.2.v K)
def Fdt.fine (t : Fdt) : Fb := fun K => PySem.W.keepIn K (.ref (t.ad K)) && (theFn K (t.ad K)).any fun d => PySem.W.codeIn K d.code t.qual && (He.dflB K d.defaults (t.vs K) && He.kwdB K d.kwdefaults (t.ks K))
theorem Fdt.funD {K : PySem.W.Frag} {t : Fdt} (e : t.seen K = t.due) (c : t.fine K = true) : ∃ fd, FunD K t.name t.qual t.params t.body t.scope (t.vs K) (t.ks K) (t.ad K) fd := by
  obtain ⟨kp, c2⟩ := Bool.and_eq_true_iff.mp c
  obtain ⟨d, hd, c3⟩ := PySem.W.any_some c2
  obtain ⟨oc, m, sl, hk⟩ := theFn_at hd
  unfold Fdt.seen at e
  rw [hd] at e
  obtain ⟨x1, x2⟩ := Bool.and_eq_true_iff.mp c3
  obtain ⟨x3, x4⟩ := Bool.and_eq_true_iff.mp x2
  cases d
  simp only [Option.map_some, Fdt.due, Option.some.injEq, Prod.mk.injEq] at e
  obtain ⟨y1, y2, y3, y4, y5, y6, y7, y8⟩ := e
  subst y1 y2 y3 y4 y5 y6 y7 y8
  exact ⟨_, ⟨oc, m, _, _, _, _, _, _, _, sl, rfl, hk, x1, He.dflB_ok x3, He.kwdB_ok x4⟩, kp⟩
abbrev ObM := Bool × List FOb
def obM (fa : List Fb) (fn : List Fdt) (K : PySem.W.Frag) : ObM := ((fa.all fun f => f K) && fn.all fun t => t.fine K, fn.map fun t => t.seen K)
def SaysM (fa : List Fb) (fn : List Fdt) (K : PySem.W.Frag) : Prop := obM fa fn K = (true, fn.map Fdt.due)
def obG (n : Nat) (fa : List Fb) (fn : List Fdt) (g : Addr → Option Obj) : ObM := obM fa fn (He.frG g (PySem.cStatics :: He.asD g n))
def hookM (n : Nat) (fa : List Fb) (fn : List Fdt) : PySem.W.Hook where
  α := ObM
  obs := fun s => obG n fa fn s.heap.get?
  val := fun _ => (true, fn.map Fdt.due)
  says := fun _ h => ∃ K : PySem.W.Frag, K.In h ∧ SaysM fa fn K
  of := fun _ _ e => ⟨_, He.frG_in, e⟩
  keeps := fun _ _ _ ⟨K, z, c⟩ k => ⟨K, PySem.W.Frag.In.keeps z k, c⟩
theorem obG_eq {n : Nat} {fa : List Fb} {fn : List Fdt} {g : Addr → Option Obj} {s : Shared} (h : ∀ a, g a = s.heap.get? a) : obG n fa fn g = (hookM n fa fn).obs s := by
  obtain rfl : g = s.heap.get? := funext h
  rfl
section
variable {fa : List Fb} {fn : List Fdt} {K : PySem.W.Frag}
theorem SaysM.fact (c : SaysM fa fn K) (i : Nat) {f : Fb} (h : fa[i]? = some f := by rfl) : f K = true := by
  have z : ((fa.all fun f => f K) && fn.all fun t => t.fine K) = true := congrArg Prod.fst c
  exact List.all_eq_true.mp (Bool.and_eq_true_iff.mp z).1 f (List.mem_of_getElem? h)
theorem SaysM.dfn (c : SaysM fa fn K) (i : Nat) {t : Fdt} (h : fn[i]? = some t := by rfl) : ∃ fd, FunD K t.name t.qual t.params t.body t.scope (t.vs K) (t.ks K) (t.ad K) fd := by
  have z : ((fa.all fun f => f K) && fn.all fun t => t.fine K) = true := congrArg Prod.fst c
  have y : fn.map (fun t => t.seen K) = fn.map Fdt.due := congrArg Prod.snd c
  have x := congrArg (fun l => l[i]?) y
  simp only [List.getElem?_map, h, Option.map_some, Option.some.injEq] at x
  exact Fdt.funD x (List.all_eq_true.mp (Bool.and_eq_true_iff.mp z).2 t (List.mem_of_getElem? h))
end
/-! ### the addresses -/
abbrev aG (x : Str) : PySem.W.Frag → Addr := fun K => He.ga K x
abbrev aM (x m : Str) : PySem.W.Frag → Addr := fun K => He.ma K (He.ga K x) m
def aP (x m : Str) : PySem.W.Frag → Addr := fun K => match PySem.W.recIn K (aM x m K) "property" with
  | some (.ref g :: _) => g
  | _ => 0
def aS (x m : Str) : PySem.W.Frag → Addr := fun K => match PySem.W.recIn K (aM x m K) "staticmethod" with
  | some (.ref g :: _) => g
  | _ => 0
/-! ### the facts -/
def fa_ (f : He.Fa) : Fb := fun K => f.ok K
def fProp (x m : Str) : Fb := fun K => He.eqO (PySem.W.findIn K (.ref (He.ga K x)) m) (some (some (.ref (aM x m K)))) && (He.eqO (PySem.W.specialIn K (.ref (aM x m K)) "__get__") (some (some (.builtin "property.__get__"))) &&
  (decide (PySem.W.takesIn K (.ref (aM x m K)) = some true) && (match PySem.W.recIn K (aM x m K) "property" with
    | some (.ref _ :: _) => true
    | _ => false)))
def fRead (x : Str) : Fb := fun K => PySem.W.readsIn K (He.ga K x) (.type "type") && He.eqO (PySem.W.specialIn K (.ref (He.ga K x)) "__getattribute__") (some (some (.builtin "type.__getattribute__")))
def fStat (x m : Str) : Fb := fun K => PySem.W.keepIn K (.ref (aS x m K)) && ((match PySem.W.findCls K (.ref (He.ga K x)) (.type "type") m with
  | some (.get (.builtin i) (.ref p) .none (.ref C)) => decide (i = "staticmethod.__get__") && (decide (p = aM x m K) && decide (C = He.ga K x))
  | _ => false) && (match PySem.W.recIn K (aM x m K) "staticmethod" with
    | some (.ref _ :: _) => true
    | _ => false))
def fCint (x f : Str) (i : Int) : Fb := fun K => match PySem.W.findCls K (.ref (He.ga K x)) (.type "type") f with
  | some (.val (.int j _)) => decide (j = i)
  | _ => false
def fIns (x : Str) : Fb := fun K => He.eqO (PySem.W.findIn K (.ref (He.ga K x)) "__class__") (some (some (.builtin "object.__class__"))) && (He.eqO (PySem.W.specialIn K (.builtin "object.__class__") "__get__") (some (some (.builtin "getset_descriptor.__get__"))) &&
  (decide (PySem.W.takesIn K (.builtin "object.__class__") = some true) && decide (PySem.W.mroIn K (He.ga K x) (.type "object") = some true)))
def fKit (t u : PySem.W.Frag → Value) (b : Bool) : Fb := fun K => decide (PySem.W.kitOne K (t K) (u K) = some b)
section
variable {K : PySem.W.Frag} {x m f : Str}
theorem fProp_ok (h : fProp x m K = true) : PropOf K (He.ga K x) m (aM x m K) (aP x m K) := by
  obtain ⟨h1, h⟩ := Bool.and_eq_true_iff.mp h
  obtain ⟨h2, h⟩ := Bool.and_eq_true_iff.mp h
  obtain ⟨h3, h4⟩ := Bool.and_eq_true_iff.mp h
  refine ⟨He.eqO_ok h1, He.eqO_ok h2, of_decide_eq_true h3, ?_⟩
  unfold aP
  split at h4
  · rename_i g r e
    rw [e]
    exact ⟨r, rfl⟩
  · cases h4
theorem fRead_ok (h : fRead x K = true) : ClX.CRead K (He.ga K x) (.type "type") := by
  obtain ⟨h1, h2⟩ := Bool.and_eq_true_iff.mp h
  exact ⟨h1, He.eqO_ok h2⟩
theorem fStat_ok (r : fRead x K = true) (h : fStat x m K = true) {P : Program} {w : World} {mg : Str → Option Value} {base : Heap} {k : Nat} {sp : TSp} (Fn : FnG P w K mg base k (aS x m K) sp) : Smt P w K mg base k (He.ga K x) m sp := by
  obtain ⟨h1, h⟩ := Bool.and_eq_true_iff.mp h
  obtain ⟨h2, h3⟩ := Bool.and_eq_true_iff.mp h
  refine ⟨.type "type", aM x m K, aS x m K, fRead_ok r, ?_, ?_, h1, Fn⟩
  · split at h2
    · rename_i i p C e
      obtain ⟨y1, y⟩ := Bool.and_eq_true_iff.mp h2
      obtain ⟨y2, y3⟩ := Bool.and_eq_true_iff.mp y
      rw [e, of_decide_eq_true y1, of_decide_eq_true y2, of_decide_eq_true y3]
    · cases h2
  · unfold aS
    split at h3
    · rename_i g q e
      rw [e]
      exact ⟨q, rfl⟩
    · cases h3
theorem fCint_ok {i : Int} (h : fCint x f i K = true) : ∃ w u, ClX.CVal K (He.ga K x) (.type "type") f w u ∧ ∀ F, Rep K F (.int i) w := by
  unfold fCint at h
  split at h
  · rename_i j t e
    exact ⟨.int i, .int j t, ⟨e, ⟨t, by rw [of_decide_eq_true h]⟩⟩, fun F => Rep.mkInt i⟩
  · cases h
theorem fIns_ok (c : (He.Fa.cls x).ok K = true) (h : fIns x K = true) : InsTy K (He.ga K x) := by
  obtain ⟨h1, h⟩ := Bool.and_eq_true_iff.mp h
  obtain ⟨h2, h⟩ := Bool.and_eq_true_iff.mp h
  obtain ⟨h3, h4⟩ := Bool.and_eq_true_iff.mp h
  exact ⟨He.cls_ok c, He.eqO_ok h1, He.eqO_ok h2, of_decide_eq_true h3, of_decide_eq_true h4⟩
theorem fKit_ok {t u : PySem.W.Frag → Value} {b : Bool} (h : fKit t u b K = true) : PySem.W.kitOne K (t K) (u K) = some b := of_decide_eq_true h
end
end L3

namespace L3
open PySem PySem.Spec PyProof.Rows L2

section
variable {X : Cx} {Γ Γ' : Gm} {L : Cells} {Ex : XD} {K : KD} {Kb : KB} {e a b c : Expr} {es : List Expr} {p : Pos} {t u : Bool}
theorem wt_imp {Kb' : KB} (h : WT X e Γ L Ex Kb') (c : ∀ t L1, Kb' t L1 → Kb t L1) : WT X e Γ L Ex Kb := fun F0 F σ H Q xo s0 S q => h F0 F σ H Q xo s0 S fun b H1 F1 L1 e1 S1 k1 => q b H1 F1 L1 e1 S1 (c b L1 k1)
theorem ww_imp {Kb' : KB} (h : WW X e Γ L Ex Kb') (c : ∀ t L1, Kb' t L1 → Kb t L1) : WW X e Γ L Ex Kb := fun F0 F σ H Q xo s0 S q => h F0 F σ H Q xo s0 S fun b H1 F1 L1 e1 S1 k1 => q b H1 F1 L1 e1 S1 (c b L1 k1)
/-- and, or of tests that leave the cells as they are -/
theorem ww_andP (ka : WT X a Γ L Ex fun t' L1 => t' = t ∧ L1 = L) (kb : t = true → WW X (.BoolOp .And (b :: es) p) Γ L Ex fun u' L1 => u' = u ∧ L1 = L) (k : Kb (t && u) L) : WW X (.BoolOp .And (a :: b :: es) p) Γ L Ex Kb := by
  refine ww_and (wt_imp ka ?_)
  rintro t' L1 ⟨rfl, rfl⟩
  cases t' with
  | true => exact t_t rfl (ww_imp (kb rfl) fun u' L2 ⟨e1, e2⟩ => by subst e1 e2; exact k)
  | false => exact t_f rfl k
theorem ww_orP (ka : WT X a Γ L Ex fun t' L1 => t' = t ∧ L1 = L) (kb : t = false → WW X (.BoolOp .Or (b :: es) p) Γ L Ex fun u' L1 => u' = u ∧ L1 = L) (k : Kb (t || u) L) : WW X (.BoolOp .Or (a :: b :: es) p) Γ L Ex Kb := by
  refine ww_or (wt_imp ka ?_)
  rintro t' L1 ⟨rfl, rfl⟩
  cases t' with
  | true => exact t_t rfl k
  | false => exact t_f rfl (ww_imp (kb rfl) fun u' L2 ⟨e1, e2⟩ => by subst e1 e2; exact k)
theorem we_andP (ka : WE X a Γ L Ex fun d L1 => d = .bl t ∧ L1 = L) (kb : t = true → WE X (.BoolOp .And (b :: es) p) Γ L Ex fun d L1 => d = .bl u ∧ L1 = L) (k : K (.bl (t && u)) L) : WE X (.BoolOp .And (a :: b :: es) p) Γ L Ex K := by
  refine we_and (we_imp ka ?_)
  rintro d L1 ⟨rfl, rfl⟩
  refine ⟨t, rfl, ?_⟩
  cases t with
  | true => exact t_t rfl (we_imp (kb rfl) fun u' L2 ⟨e1, e2⟩ => by subst e1 e2; exact k)
  | false => exact t_f rfl k
theorem we_orP (ka : WE X a Γ L Ex fun d L1 => d = .bl t ∧ L1 = L) (kb : t = false → WE X (.BoolOp .Or (b :: es) p) Γ L Ex fun d L1 => d = .bl u ∧ L1 = L) (k : K (.bl (t || u)) L) : WE X (.BoolOp .Or (a :: b :: es) p) Γ L Ex K := by
  refine we_or (we_imp ka ?_)
  rintro d L1 ⟨rfl, rfl⟩
  refine ⟨t, rfl, ?_⟩
  cases t with
  | true => exact t_t rfl k
  | false => exact t_f rfl (we_imp (kb rfl) fun u' L2 ⟨e1, e2⟩ => by subst e1 e2; exact k)
/-- a < b < c of values that leave the cells as they are -/
theorem pow_lit {i j r : Int} (h : CPow i j) (e : i ^ j.toNat = r) (k : K (.int r) L) : rII (fun i j => .int (i ^ j.toNat)) CPow (.int i) (.int j) L K := rIIc h (by rw [e]; exact k)
end
theorem cdw {i j : Int} (h : 0 < j) (h2 : j ≤ 10 ^ 200) : CDivW i j := ⟨h, by
  have h3 : j.natAbs < 2 ^ 1000 := by
    have : (10 : Nat) ^ 200 < 2 ^ 1000 := by decide
    omega
  have : j.natAbs ≠ 0 := by omega
  have := (Nat.log2_lt this).mpr h3
  omega⟩
theorem log_of {j : Int} (h : 0 ≤ j) (h2 : j ≤ 10 ^ 200) : j.natAbs.log2 < 1920 := by
  by_cases h0 : j = 0
  · subst h0; decide
  · have := (cdw (i := 0) (j := j) (by omega) h2).2
    have h3 : j.natAbs < 2 ^ 1000 := by
      have : (10 : Nat) ^ 200 < 2 ^ 1000 := by decide
      omega
    have := (Nat.log2_lt (by omega)).mpr h3
    omega
theorem cmw {i j : Int} (h : -(10 ^ 200) ≤ i ∧ i ≤ 10 ^ 200) (h2 : -(10 ^ 200) ≤ j ∧ j ≤ 10 ^ 200) : CMulW i j := by
  have : (10 : Nat) ^ 200 < 2 ^ 1000 := by decide
  have b : ∀ i : Int, -(10 ^ 200) ≤ i ∧ i ≤ 10 ^ 200 → i.natAbs.log2 < 1000 := fun i h => by
    by_cases h0 : i.natAbs = 0
    · rw [h0]; decide
    · exact (Nat.log2_lt h0).mpr (by omega)
  have := b i h
  have := b j h2
  unfold CMulW
  omega
end L3
namespace L3
open PySem PySem.Spec PyProof.Rows L2
theorem passOwn {P : Program} {w : World} {K : PySem.W.Frag} {mg : Str → Option Value} {base : Heap} {N : List Str} {qual : Str} {scope : Scope} {f : Addr} {cdv : Value} {A : Around} {outer : List Env} {s : Shared} {H : Hp} {E : XK} :
    PassesOwn (model (cxD P w K mg base N qual scope f cdv A outer s H E).prog (cxD P w K mg base N qual scope f cdv A outer s H E).w) (cxD P w K mg base N qual scope f cdv A outer s H E).A (cxD P w K mg base N qual scope f cdv A outer s H E).env (cxD P w K mg base N qual scope f cdv A outer s H E).xe := passes_of rfl
end L3

namespace L3
open PySem PySem.Spec PyProof.Rows L2

/-- the cell from which the law draws -/
abbrev Bag (x c s : Int) : OC := .lst [.int x, .int c, .int s]
theorem Has.self {L : Cells} {a : Addr} {c : OC} {f : OC → Cells} (h : Has L a c f) : L = f c := by
  obtain ⟨L0, L1, rfl, rfl⟩ := h
  rfl
theorem tsl {n : Int} (h : 0 ≤ n) (h2 : n ≤ 10 ^ 200) : (Str.ofString (toString n)).length ≤ 1921 := PyProof.Rows.int_text_len_1921 (log_of h h2)
theorem snoc_int {ns : List Int} {r : Int} : OC.lst (ns.map Dt.int ++ [.int r]) = .lst ((ns ++ [r]).map Dt.int) := by rw [List.map_append]; rfl
theorem set_int {ns : List Int} {i : Nat} {r : Int} : OC.lst ((ns.map Dt.int).set i (.int r)) = .lst ((ns.set i r).map Dt.int) := by rw [List.map_set]
section
variable {L : Cells} {K : KD}
theorem plus_iL1 {i : List Int} {e : Int} (h : i.length + 1 ≤ 1000000) (k : K (.lst ((i ++ [e]).map Dt.int)) L) : rPlus (.lst (i.map Dt.int)) (.lst [.int e]) L K := plus_iL (j := [e]) h k
theorem all_of {bs : List Bool} {b : Bool} (h : bs.all id = b) (k : K (.bl b) L) : rAllD (fun bs => bs.all id) [.lst (bs.map Dt.bl)] L K := all_lst (by rw [h]; exact k)
end
theorem rl {ns : List Int} {k : Nat} (h : ns.length = k) : ns.map Dt.int = (List.range k).map fun i => Dt.int (ns.getD i 0) := by
  apply List.ext_getElem?
  intro i
  rw [List.getElem?_map, List.getElem?_map]
  by_cases hi : i < k
  · rw [List.getElem?_range hi, List.getElem?_eq_getElem (by omega), Option.map_some, Option.map_some, List.getD_eq_getElem?_getD, List.getElem?_eq_getElem (by omega)]
    rfl
  · rw [List.getElem?_eq_none (by omega), List.getElem?_eq_none (by rw [List.length_range]; omega)]
    rfl
theorem wgt_ints : ∀ {ns : List Int}, (∀ x ∈ ns, x.natAbs < 10 ^ 60) → PyData.weightAll (ns.map PyData.int) ≤ 202 * ns.length ∧ PyData.leavesShortAll 61 (ns.map PyData.int) = true ∧ PyData.showableAll (ns.map PyData.int) = true ∧ PyData.hasDictAll (ns.map PyData.int) = false
  | [], _ => by simp [PyData.weightAll, PyData.leavesShortAll, PyData.showableAll, PyData.hasDictAll]
  | n :: ns, h => by
    obtain ⟨h1, h2, h3, h4⟩ := wgt_ints (ns := ns) fun x hx => h x (List.mem_cons_of_mem _ hx)
    have hn := h n (List.mem_cons_self ..)
    have hl : n.natAbs.log2 < 200 := by
      by_cases h0 : n.natAbs = 0
      · rw [h0]; decide
      · have e : (10 : Nat) ^ 60 < 2 ^ 200 := by decide
        exact (Nat.log2_lt h0).mpr (by omega)
    have hw : PyData.weight (.int n) ≤ 201 := by
      unfold PyData.weight
      split <;> omega
    simp only [List.map_cons, PyData.weightAll, PyData.leavesShortAll, PyData.showableAll, PyData.hasDictAll, List.length_cons, PyData.showable, PyData.leavesShort, PyData.hasDict, h2, h3, h4, Bool.and_true, Bool.false_or, decide_eq_true_eq, and_true]
    refine ⟨by omega, ?_, by omega⟩
    have e := PySem.int_text_length_le10 (k := 60) (by decide) hn
    show (Str.ofString (toString n)).length ≤ 61
    rw [PySem.ofString_length]
    exact e
theorem repr_iL {L : Cells} {K : KD} {ns : List Int} (h : ∀ x ∈ ns, x.natAbs < 10 ^ 60) (hl : ns.length ≤ 1000) (k : K (.str (PyData.list (ns.map PyData.int)).shown) L) : rReprD [.lst (ns.map Dt.int)] L K := by
  obtain ⟨h1, h2, h3, h4⟩ := wgt_ints h
  refine ⟨_, .list (ns.map PyData.int), rfl, ?_, fun K' F v r => ?_, ?_, ?_, ?_, ?_, k⟩
  · simp only [Dt.py, sclI.pys, Option.map_some]
    rfl
  · obtain ⟨a, _, e, _⟩ := r.lst
    exact ⟨a, e⟩
  · simp only [PyData.showable, h3]
  · simp only [PyData.hasDict, h4]
  · have := sclI.depth ns
    simp only [PyData.depth]
    rw [show ns.map PyData.int = ns.map sclI.h from rfl, this]
    decide
  · have := PySem.PyData.shown_le 61 (by decide) (.list (ns.map PyData.int)) (by simp only [PyData.leavesShort, h2])
    simp only [PyData.weight] at this
    have e : (61 + 2) * PyData.weightAll (ns.map PyData.int) ≤ 63 * (202 * 1000) := Nat.mul_le_mul (by decide) (by omega)
    omega
end L3

namespace L3
open PySem PySem.Spec PyProof.Rows L2

/-! ### a law's end: the caller shows nothing -/
theorem rm_caller {k : Nat} (h : k ≤ 200) : Rm k callerA := ⟨⟨rfl, by
  have e : callerA.depth = 1 + claimMargin := rfl
  have e2 : claimMargin + 3 * 200 + 6 < recursionLimit := by decide
  omega, by
  have e : callerA.units = 4 := rfl
  have e2 : 4 + 16 * 200 + 200 < cLine := by decide
  omega⟩, rfl⟩
/-- what stands behind the top, with the script's list at a -/
structure Top (K : PySem.W.Frag) (mg : Str → Option Value) (t : Shared) (a : Addr) (us : List Value) (ns : List Int) : Prop where
  kin : K.In t.heap
  glo : t.heap.Ns mainGlobals mg
  blt : ∃ mb, t.heap.Ns builtinsNs mb ∧ ∀ x : Str, x ≠ "__name__" → mb x = bootBuiltins x
  lim : t.heap.NoLimit
  gen : t.gens = #[]
  at_ : t.heap.get? a = some { cls := .type "list", data := .seq us.toArray }
  its : IntsAre us ns
/-- the script's list may be tracked, nothing else -/
structure Trk (K : PySem.W.Frag) (H : Hp) (a : Addr) (us : List Value) (ns : List Int) : Prop where
  one : ∀ b u, H b = some u → b = a ∧ K.lookup a = none ∧ u = .frz { cls := .type "list", data := .seq us.toArray } (.lst (ns.map V.int))
section
variable {P : Program} {w : World} {K : PySem.W.Frag} {mg : Str → Option Value} {t : Shared} {a : Addr} {us : List Value} {ns : List Int} {H : Hp}
theorem Trk.off (T : Trk K H a us ns) {b : Addr} (h : b ≠ a) : H b = none := by
  cases e : H b with
  | none => rfl
  | some u => exact absurd (T.one b u e).1 h
theorem Top.dict (Z : Top K mg t a us ns) (T : Trk K H a us ns) {b : Addr} {m : Str → Option Value} (h : t.heap.Ns b m) : (hidT t.heap H).Ns b m := by
  obtain ⟨o, es, ep, e, d, r⟩ := h
  refine ⟨o, es, ep, hidT_get e (T.off fun q => ?_), d, r⟩
  rw [q, Z.at_] at e
  cases e
  cases (show Data.seq us.toArray _ = .dict es ep from d)
theorem Top.kin2 (Z : Top K mg t a us ns) (T : Trk K H a us ns) : K.In (hidT t.heap H) := fun b o e => by
  refine hidT_get (Z.kin b o e) ?_
  cases q : H b with
  | none => rfl
  | some u =>
    obtain ⟨rfl, n, _⟩ := T.one b u q
    rw [n] at e
    cases e
theorem Top.env (Z : Top K mg t a us ns) (T : Trk K H a us ns) (ok : HOk P w H t.heap) : Env0 P w K mg (hidT t.heap H) callerA [] t H where
  frames := rfl
  mod := ⟨Z.kin2 T, Z.dict T Z.glo, by obtain ⟨m, x, y⟩ := Z.blt; exact ⟨m, Z.dict T x, y⟩, by obtain ⟨m, x, y⟩ := Z.lim; exact ⟨m, Z.dict T x, y⟩⟩
  bs := fun _ _ => of_hidT
  bsz := Nat.le_of_eq (hidT_size ..)
  funs := trivial
  frf := fun b hb => by cases (show b ∈ ([] : List Addr) from hb)
  hok := ok
  bare := .of_eq Z.gen
/-- the call of the law -/
theorem Top.run (Z : Top K mg t a us ns) (T : Trk K H a us ns) (ok : HOk P w H t.heap) (hS : SqL K H a (ns.map V.int)) {k : Nat} {f : Addr} {fd : FuncData} {x : Str} {sp : TSp} (hk : k ≤ 200) (F : FnB P w K mg (hidT t.heap H) k f fd [x] sp) (hb : BindsTo t fd ⟨[.ref a], []⟩ [(x, .ref a)])
    (hsp : sp [.rdl (ns.map Dt.int)] [] noX fun d _ => d = .bl true) :
    codeAny (model P w) callerA (.call (.ref f) ⟨[.ref a], []⟩) (fun r s' => r = .ok (.ret (.bool true)) ∧ OldK t.heap s'.heap ∧ s'.os = t.os ∧ AllBare s'.gens) t := by
  have Sa : Sat K H [] H := ⟨fun _ _ e => e, fun _ hc => (nomatch hc), fun _ hc => (nomatch hc), List.nodup_nil⟩
  have rs : Reps K H [.rdl (ns.map Dt.int)] [.ref a] := .cons (Rep.mkRdl hS (Reps.ints' ns)) .nil
  refine codeAny_mono (F callerA [] t H ⟨[.ref a], []⟩ [.ref a] [.ref a] (fun v _ => v = .bl true) (fun _ _ _ => False) (rm_caller hk) (Z.env T ok) hb (.cons rfl .nil) rfl
    ⟨H, [], _, noX, _, Sa, rs, hsp, fun v H' F' d L' _ _ r e => by subst e; exact r.bl, fun _ _ _ ⟨_, _, _, _, _, _, z⟩ => z⟩) fun r s' h => ?_
  cases r with
  | error e =>
    obtain ⟨_, _, _, _, _, _, _, _, _, _, _, _, z⟩ := h
    exact z.elim
  | ok fl =>
    cases fl with
    | ret u =>
      obtain ⟨v, H2, os, bare, un, ok2, rv, ev⟩ := h
      subst ev
      cases (show u = Value.bool true from rv)
      refine ⟨rfl, OldK.of_keep fun b o e => ?_, os, bare⟩
      cases q : H b with
      | none => exact un.keep b o e q (fun z => by cases z) (fun z => by cases z)
      | some y =>
        obtain ⟨rfl, _, rfl⟩ := T.one b y q
        have e1 := (ok b _ q).1
        have e2 := (ok2 b _ (un.frzs b _ _ q)).1
        rw [e] at e1
        cases e1
        exact e2
    | next => exact False.elim h
    | brk => exact False.elim h
    | cont => exact False.elim h
end
/-- THE END -/
theorem walk_G {l : PySem.W.OpenLaw} {n k : Nat} {q : Program} {loose : List Str} {XP : (Str → Option Value) → Heap → Prop} {d : DefRec} {x : Str} {m : Nat} {fa : List Fb} {fn : List Fdt}
    (hn : l.most = some n) (hn2 : n ≤ 1000000) (hdf : d.params.defaults = []) (hk : k ≤ 200)
    (F : ∀ (w : World) (K : PySem.W.Frag) (mg : Str → Option Value) (f : Addr) (h : Heap), SaysM fa fn K → K.In h → h.Ns mainGlobals mg → mg d.name = some (.ref f) →
      ∃ (fd : FuncData) (sp : TSp), (∀ (s : Shared) (u : Value), BindsTo s fd ⟨[u], []⟩ [(x, u)]) ∧ (∀ ns : List Int, ns.length ≤ n → sp [.rdl (ns.map Dt.int)] [] noX fun d _ => d = .bl true) ∧ ∀ base : Heap, FnB l.prog w K mg base k f fd [x] sp) :
    PySem.W.WalkO q loose XP (hookM m fa fn).says l.row.toRowW d [] (fun f vs => PySem.call f vs) := by
  refine Att.attach_call hn hdf fun w s0 t mg mb f o pm cd doc a us ns G ⟨K, KX, c⟩ ho hd hcd hmg hobj hints hlen hg => ?_
  obtain ⟨fd, sp, hb, hsp, hF⟩ := F w K mg f t.heap c KX G.T.g hmg
  have Z : Top K mg t a us ns := ⟨KX, G.T.g, ⟨mb, G.T.b, G.T.builtins⟩, G.T.nolimit, hg, hobj, hints⟩
  have lv := hints.length
  have rv : Vals (ns.map V.int) us := vals_ints hints
  have small : us.length ≤ sizeLine := by rw [lv]; exact line_of (Nat.le_trans hlen hn2)
  cases hl : K.lookup a with
  | none =>
    have one : ∀ b u, (fun b => if b = a then some (HO.frz { cls := .type "list", data := .seq us.toArray } (.lst (ns.map V.int))) else none) b = some u → b = a ∧ u = .frz { cls := .type "list", data := .seq us.toArray } (.lst (ns.map V.int)) := fun b u e => by
      by_cases hb : b = a
      · subst hb
        have e2 : some (HO.frz { cls := .type "list", data := .seq us.toArray } (.lst (ns.map V.int))) = some u := by simpa using e
        cases e2
        exact ⟨rfl, rfl⟩
      · have e2 : (none : Option HO) = some u := by simpa [hb] using e
        cases e2
    refine Z.run ⟨fun b u e => ⟨(one b u e).1, hl, (one b u e).2⟩⟩ (fun b u e => ?_) (.inl (.inr ⟨_, if_pos rfl⟩)) hk (hF _) (hb t _) (hsp ns hlen)
    obtain ⟨rfl, rfl⟩ := one b u e
    exact ⟨hobj, by rw [List.length_map, ← lv]; exact small, us, _, rv, hobj⟩
  | some o2 =>
    have e := KX a o2 hl
    rw [hobj] at e
    cases e
    exact Z.run (H := fun _ => none) ⟨fun b u e => by cases e⟩ (fun b u e => by cases e) (.inr ⟨_, us.toArray, _, hl, rfl, rfl, rfl, by simpa using small, by simpa using rv⟩) hk (hF _) (hb t _) (hsp ns hlen)
end L3

namespace K00
open PySem PySem.Spec PyProof.Rows L2 L3
def top (i : Nat) : Stmt := PySem.Challenge.pw_carrylog_k00_round_sums.main.body.getD i (.Pass ⟨0, 0, 0, 0⟩)
def inn (s : Stmt) (i : Nat) : Stmt := match s with
  | .ClassDef _ _ _ b _ _ _ _ _ _ _ => b.getD i (.Pass ⟨0, 0, 0, 0⟩)
  | _ => .Pass ⟨0, 0, 0, 0⟩
abbrev s_at_least : Stmt := top 5
abbrev s_whole_number : Stmt := top 6
abbrev s_Round_Dinit : Stmt := inn (top 8) 1
abbrev s_Round_constant : Stmt := inn (top 8) 2
abbrev s_Round_budgets : Stmt := inn (top 8) 3
abbrev s_Round_Dlen : Stmt := inn (top 8) 4
abbrev s_Round_Deq : Stmt := inn (top 8) 5
abbrev s_Round_Dadd : Stmt := inn (top 8) 6
abbrev s_Round_at : Stmt := inn (top 8) 7
abbrev s_Round_shifted : Stmt := inn (top 8) 8
abbrev s_Round_window : Stmt := inn (top 8) 13
abbrev s_Round_total : Stmt := inn (top 8) 9
abbrev s_l_is_number : Stmt := top 10
abbrev s_l_bag : Stmt := top 11
abbrev s_l_take : Stmt := top 12
abbrev s_l_number : Stmt := top 13
abbrev s_l_row : Stmt := top 14
abbrev s_l_round : Stmt := top 15
abbrev s_l_sum : Stmt := top 16
abbrev s_l_moved : Stmt := top 17
abbrev s_l_has : Stmt := top 18
abbrev s_l_count : Stmt := top 19
abbrev s_l_answers : Stmt := top 20
abbrev s_l_shifts : Stmt := top 21
abbrev s_l_near : Stmt := top 22
abbrev s_l_equal : Stmt := top 23
abbrev s_l_added : Stmt := top 24
abbrev s_l_case : Stmt := top 25
abbrev s_law : Stmt := top 26
def f_at_least : Fdt := ⟨aG "at_least", "at_least", "at_least", defArgs s_at_least, defBody s_at_least, defScope s_at_least, [], []⟩
def f_whole_number : Fdt := ⟨aG "whole_number", "whole_number", "whole_number", defArgs s_whole_number, defBody s_whole_number, defScope s_whole_number, [], []⟩
def f_Round_Dinit : Fdt := ⟨aM "Round" "__init__", "__init__", "Round.__init__", defArgs s_Round_Dinit, defBody s_Round_Dinit, defScope s_Round_Dinit, [], []⟩
def f_Round_constant : Fdt := ⟨aS "Round" "constant", "constant", "Round.constant", defArgs s_Round_constant, defBody s_Round_constant, defScope s_Round_constant, [], []⟩
def f_Round_budgets : Fdt := ⟨aP "Round" "budgets", "budgets", "Round.budgets", defArgs s_Round_budgets, defBody s_Round_budgets, defScope s_Round_budgets, [], []⟩
def f_Round_Dlen : Fdt := ⟨aM "Round" "__len__", "__len__", "Round.__len__", defArgs s_Round_Dlen, defBody s_Round_Dlen, defScope s_Round_Dlen, [], []⟩
def f_Round_Deq : Fdt := ⟨aM "Round" "__eq__", "__eq__", "Round.__eq__", defArgs s_Round_Deq, defBody s_Round_Deq, defScope s_Round_Deq, [], []⟩
def f_Round_Dadd : Fdt := ⟨aM "Round" "__add__", "__add__", "Round.__add__", defArgs s_Round_Dadd, defBody s_Round_Dadd, defScope s_Round_Dadd, [], []⟩
def f_Round_at : Fdt := ⟨aM "Round" "at", "at", "Round.at", defArgs s_Round_at, defBody s_Round_at, defScope s_Round_at, [], []⟩
def f_Round_shifted : Fdt := ⟨aM "Round" "shifted", "shifted", "Round.shifted", defArgs s_Round_shifted, defBody s_Round_shifted, defScope s_Round_shifted, [], []⟩
def f_Round_window : Fdt := ⟨aM "Round" "_window", "_window", "Round._window", defArgs s_Round_window, defBody s_Round_window, defScope s_Round_window, [], []⟩
def f_Round_total : Fdt := ⟨aM "Round" "total", "total", "Round.total", defArgs s_Round_total, defBody s_Round_total, defScope s_Round_total, [], []⟩
def f_l_is_number : Fdt := ⟨aG "_law_is_number", "_law_is_number", "_law_is_number", defArgs s_l_is_number, defBody s_l_is_number, defScope s_l_is_number, [], []⟩
def f_l_bag : Fdt := ⟨aG "_law_bag", "_law_bag", "_law_bag", defArgs s_l_bag, defBody s_l_bag, defScope s_l_bag, [], []⟩
def f_l_take : Fdt := ⟨aG "_law_take", "_law_take", "_law_take", defArgs s_l_take, defBody s_l_take, defScope s_l_take, [], []⟩
def f_l_number : Fdt := ⟨aG "_law_number", "_law_number", "_law_number", defArgs s_l_number, defBody s_l_number, defScope s_l_number, [], []⟩
def f_l_row : Fdt := ⟨aG "_law_row", "_law_row", "_law_row", defArgs s_l_row, defBody s_l_row, defScope s_l_row, [], []⟩
def f_l_round : Fdt := ⟨aG "_law_round", "_law_round", "_law_round", defArgs s_l_round, defBody s_l_round, defScope s_l_round, [], []⟩
def f_l_sum : Fdt := ⟨aG "_law_sum", "_law_sum", "_law_sum", defArgs s_l_sum, defBody s_l_sum, defScope s_l_sum, [], []⟩
def f_l_moved : Fdt := ⟨aG "_law_moved", "_law_moved", "_law_moved", defArgs s_l_moved, defBody s_l_moved, defScope s_l_moved, [], []⟩
def f_l_has : Fdt := ⟨aG "_law_has", "_law_has", "_law_has", defArgs s_l_has, defBody s_l_has, defScope s_l_has, [], []⟩
def f_l_count : Fdt := ⟨aG "_law_count", "_law_count", "_law_count", defArgs s_l_count, defBody s_l_count, defScope s_l_count, [], []⟩
def f_l_answers : Fdt := ⟨aG "_law_answers", "_law_answers", "_law_answers", defArgs s_l_answers, defBody s_l_answers, defScope s_l_answers, [], []⟩
def f_l_shifts : Fdt := ⟨aG "_law_shifts", "_law_shifts", "_law_shifts", defArgs s_l_shifts, defBody s_l_shifts, defScope s_l_shifts, [], []⟩
def f_l_near : Fdt := ⟨aG "_law_near", "_law_near", "_law_near", defArgs s_l_near, defBody s_l_near, defScope s_l_near, [], []⟩
def f_l_equal : Fdt := ⟨aG "_law_equal", "_law_equal", "_law_equal", defArgs s_l_equal, defBody s_l_equal, defScope s_l_equal, [], []⟩
def f_l_added : Fdt := ⟨aG "_law_added", "_law_added", "_law_added", defArgs s_l_added, defBody s_l_added, defScope s_l_added, [], []⟩
def f_l_case : Fdt := ⟨aG "_law_case", "_law_case", "_law_case", defArgs s_l_case, defBody s_l_case, defScope s_l_case, [], []⟩
def f_law : Fdt := ⟨aG "law", "law", "law", defArgs s_law, defBody s_law, defScope s_law, [], []⟩
def fn : List Fdt := [f_at_least, f_whole_number, f_Round_Dinit, f_Round_constant, f_Round_budgets, f_Round_Dlen, f_Round_Deq, f_Round_Dadd, f_Round_at, f_Round_shifted, f_Round_window, f_Round_total, f_l_is_number, f_l_bag, f_l_take, f_l_number, f_l_row, f_l_round, f_l_sum, f_l_moved, f_l_has, f_l_count, f_l_answers, f_l_shifts, f_l_near, f_l_equal, f_l_added, f_l_case, f_law]
def fa : List Fb := [fa_ (.glo "at_least"),
  fa_ (.glo "whole_number"),
  fa_ (.glo "_law_is_number"),
  fa_ (.glo "_law_bag"),
  fa_ (.glo "_law_take"),
  fa_ (.glo "_law_number"),
  fa_ (.glo "_law_row"),
  fa_ (.glo "_law_round"),
  fa_ (.glo "_law_sum"),
  fa_ (.glo "_law_moved"),
  fa_ (.glo "_law_has"),
  fa_ (.glo "_law_count"),
  fa_ (.glo "_law_answers"),
  fa_ (.glo "_law_shifts"),
  fa_ (.glo "_law_near"),
  fa_ (.glo "_law_equal"),
  fa_ (.glo "_law_added"),
  fa_ (.glo "_law_case"),
  fa_ (.glo "law"),
  fa_ (.glo "Round"),
  fa_ (.cls "Round"),
  fa_ (.mkr "Round"),
  fIns "Round",
  fa_ (.noat "Round" "_budgets"),
  fRead "Round",
  fCint "Round" "MOST" 12,
  fa_ (.meth "Round" "__init__"),
  fStat "Round" "constant",
  fProp "Round" "budgets",
  fa_ (.meth "Round" "__len__"),
  fa_ (.meth "Round" "__eq__"),
  fa_ (.meth "Round" "__add__"),
  fa_ (.meth "Round" "at"),
  fa_ (.meth "Round" "shifted"),
  fa_ (.meth "Round" "_window"),
  fa_ (.meth "Round" "total"),
  fa_ (.free "len"),
  fa_ (.free "int"),
  fa_ (.free "isinstance"),
  fa_ (.free "bool"),
  fa_ (.free "tuple"),
  fa_ (.free "list"),
  fa_ (.free "range"),
  fa_ (.free "sum"),
  fa_ (.free "min"),
  fa_ (.free "max"),
  fa_ (.free "abs"),
  fa_ (.free "str"),
  fa_ (.free "all"),
  fa_ (.free "repr"),
  fa_ (.free "divmod"),
  fKit (fun K => .ref (He.ga K "Round")) (fun K => .ref (He.ga K "Round")) true,
  fun K => PySem.W.notFirst K (He.ga K "Round") (.ref (He.ga K "Round")),
  fun K => PySem.W.selfFirst K (He.ga K "Round")]
section
variable {K : PySem.W.Frag} {h : Heap} {mg : Str → Option Value} (c : SaysM fa fn K) (X0 : K.In h) (G0 : h.Ns mainGlobals mg)
include c X0 G0
theorem g_at_least : mg "at_least" = some (.ref (He.ga K "at_least")) := He.glo_ok X0 G0 (x := "at_least") (c.fact 0 rfl)
theorem g_whole_number : mg "whole_number" = some (.ref (He.ga K "whole_number")) := He.glo_ok X0 G0 (x := "whole_number") (c.fact 1 rfl)
theorem g_l_is_number : mg "_law_is_number" = some (.ref (He.ga K "_law_is_number")) := He.glo_ok X0 G0 (x := "_law_is_number") (c.fact 2 rfl)
theorem g_l_bag : mg "_law_bag" = some (.ref (He.ga K "_law_bag")) := He.glo_ok X0 G0 (x := "_law_bag") (c.fact 3 rfl)
theorem g_l_take : mg "_law_take" = some (.ref (He.ga K "_law_take")) := He.glo_ok X0 G0 (x := "_law_take") (c.fact 4 rfl)
theorem g_l_number : mg "_law_number" = some (.ref (He.ga K "_law_number")) := He.glo_ok X0 G0 (x := "_law_number") (c.fact 5 rfl)
theorem g_l_row : mg "_law_row" = some (.ref (He.ga K "_law_row")) := He.glo_ok X0 G0 (x := "_law_row") (c.fact 6 rfl)
theorem g_l_round : mg "_law_round" = some (.ref (He.ga K "_law_round")) := He.glo_ok X0 G0 (x := "_law_round") (c.fact 7 rfl)
theorem g_l_sum : mg "_law_sum" = some (.ref (He.ga K "_law_sum")) := He.glo_ok X0 G0 (x := "_law_sum") (c.fact 8 rfl)
theorem g_l_moved : mg "_law_moved" = some (.ref (He.ga K "_law_moved")) := He.glo_ok X0 G0 (x := "_law_moved") (c.fact 9 rfl)
theorem g_l_has : mg "_law_has" = some (.ref (He.ga K "_law_has")) := He.glo_ok X0 G0 (x := "_law_has") (c.fact 10 rfl)
theorem g_l_count : mg "_law_count" = some (.ref (He.ga K "_law_count")) := He.glo_ok X0 G0 (x := "_law_count") (c.fact 11 rfl)
theorem g_l_answers : mg "_law_answers" = some (.ref (He.ga K "_law_answers")) := He.glo_ok X0 G0 (x := "_law_answers") (c.fact 12 rfl)
theorem g_l_shifts : mg "_law_shifts" = some (.ref (He.ga K "_law_shifts")) := He.glo_ok X0 G0 (x := "_law_shifts") (c.fact 13 rfl)
theorem g_l_near : mg "_law_near" = some (.ref (He.ga K "_law_near")) := He.glo_ok X0 G0 (x := "_law_near") (c.fact 14 rfl)
theorem g_l_equal : mg "_law_equal" = some (.ref (He.ga K "_law_equal")) := He.glo_ok X0 G0 (x := "_law_equal") (c.fact 15 rfl)
theorem g_l_added : mg "_law_added" = some (.ref (He.ga K "_law_added")) := He.glo_ok X0 G0 (x := "_law_added") (c.fact 16 rfl)
theorem g_l_case : mg "_law_case" = some (.ref (He.ga K "_law_case")) := He.glo_ok X0 G0 (x := "_law_case") (c.fact 17 rfl)
theorem g_law : mg "law" = some (.ref (He.ga K "law")) := He.glo_ok X0 G0 (x := "law") (c.fact 18 rfl)
theorem g_Round : mg "Round" = some (.ref (He.ga K "Round")) := He.glo_ok X0 G0 (x := "Round") (c.fact 19 rfl)
include c in
omit X0 G0 in
theorem cls_Round : Cls K (He.ga K "Round") := He.cls_ok (x := "Round") (c.fact 20 rfl)
include c in
omit X0 G0 in
theorem mkk_Round : L2.Mk K (He.ga K "Round") (He.ma K (He.ga K "Round") "__init__") := He.mkr_ok (x := "Round") (c.fact 21 rfl)
include c in
omit X0 G0 in
theorem ins_Round : InsTy K (He.ga K "Round") := fIns_ok (x := "Round") (c.fact 20 rfl) (c.fact 22 rfl)
include c in
omit X0 G0 in
theorem na_Round_budgets : NoAttr K (He.ga K "Round") "_budgets" := He.noat_ok (x := "Round") (f := "_budgets") (c.fact 23 rfl)
include c in
omit X0 G0 in
theorem rd_Round : ClX.CRead K (He.ga K "Round") (.type "type") := fRead_ok (x := "Round") (c.fact 24 rfl)
include c in
omit X0 G0 in
theorem cv_Round_MOST : ∃ w u, ClX.CVal K (He.ga K "Round") (.type "type") "MOST" w u ∧ ∀ F, Rep K F (.int 12) w := fCint_ok (x := "Round") (f := "MOST") (c.fact 25 rfl)
include c in
omit X0 G0 in
theorem me_Round_Dinit : Meth K (He.ga K "Round") "__init__" (aM "Round" "__init__" K) := He.meth_ok (x := "Round") (m := "__init__") (c.fact 26 rfl)
include c in
omit X0 G0 in
theorem so_Round_constant : fStat "Round" "constant" K = true := c.fact 27 rfl
include c in
omit X0 G0 in
theorem po_Round_budgets : PropOf K (He.ga K "Round") "budgets" (aM "Round" "budgets" K) (aP "Round" "budgets" K) := fProp_ok (x := "Round") (m := "budgets") (c.fact 28 rfl)
include c in
omit X0 G0 in
theorem me_Round_Dlen : Meth K (He.ga K "Round") "__len__" (aM "Round" "__len__" K) := He.meth_ok (x := "Round") (m := "__len__") (c.fact 29 rfl)
include c in
omit X0 G0 in
theorem me_Round_Deq : Meth K (He.ga K "Round") "__eq__" (aM "Round" "__eq__" K) := He.meth_ok (x := "Round") (m := "__eq__") (c.fact 30 rfl)
include c in
omit X0 G0 in
theorem me_Round_Dadd : Meth K (He.ga K "Round") "__add__" (aM "Round" "__add__" K) := He.meth_ok (x := "Round") (m := "__add__") (c.fact 31 rfl)
include c in
omit X0 G0 in
theorem me_Round_at : Meth K (He.ga K "Round") "at" (aM "Round" "at" K) := He.meth_ok (x := "Round") (m := "at") (c.fact 32 rfl)
include c in
omit X0 G0 in
theorem me_Round_shifted : Meth K (He.ga K "Round") "shifted" (aM "Round" "shifted" K) := He.meth_ok (x := "Round") (m := "shifted") (c.fact 33 rfl)
include c in
omit X0 G0 in
theorem me_Round_window : Meth K (He.ga K "Round") "_window" (aM "Round" "_window" K) := He.meth_ok (x := "Round") (m := "_window") (c.fact 34 rfl)
include c in
omit X0 G0 in
theorem me_Round_total : Meth K (He.ga K "Round") "total" (aM "Round" "total" K) := He.meth_ok (x := "Round") (m := "total") (c.fact 35 rfl)
theorem u_len : mg "len" = none := He.free_ok X0 G0 (x := "len") (c.fact 36 rfl)
theorem u_int : mg "int" = none := He.free_ok X0 G0 (x := "int") (c.fact 37 rfl)
theorem u_isinstance : mg "isinstance" = none := He.free_ok X0 G0 (x := "isinstance") (c.fact 38 rfl)
theorem u_bool : mg "bool" = none := He.free_ok X0 G0 (x := "bool") (c.fact 39 rfl)
theorem u_tuple : mg "tuple" = none := He.free_ok X0 G0 (x := "tuple") (c.fact 40 rfl)
theorem u_list : mg "list" = none := He.free_ok X0 G0 (x := "list") (c.fact 41 rfl)
theorem u_range : mg "range" = none := He.free_ok X0 G0 (x := "range") (c.fact 42 rfl)
theorem u_sum : mg "sum" = none := He.free_ok X0 G0 (x := "sum") (c.fact 43 rfl)
theorem u_min : mg "min" = none := He.free_ok X0 G0 (x := "min") (c.fact 44 rfl)
theorem u_max : mg "max" = none := He.free_ok X0 G0 (x := "max") (c.fact 45 rfl)
theorem u_abs : mg "abs" = none := He.free_ok X0 G0 (x := "abs") (c.fact 46 rfl)
theorem u_str : mg "str" = none := He.free_ok X0 G0 (x := "str") (c.fact 47 rfl)
theorem u_all : mg "all" = none := He.free_ok X0 G0 (x := "all") (c.fact 48 rfl)
theorem u_repr : mg "repr" = none := He.free_ok X0 G0 (x := "repr") (c.fact 49 rfl)
theorem u_divmod : mg "divmod" = none := He.free_ok X0 G0 (x := "divmod") (c.fact 50 rfl)
include c in
omit X0 G0 in
theorem ki_Round : PySem.W.kitOne K (.ref (He.ga K "Round")) (.ref (He.ga K "Round")) = some true := fKit_ok (t := fun K => .ref (He.ga K "Round")) (u := fun K => .ref (He.ga K "Round")) (c.fact 51 rfl)
include c in
omit X0 G0 in
theorem nf_Round : PySem.W.notFirst K (He.ga K "Round") (.ref (He.ga K "Round")) = true := (c.fact 52 rfl)
include c in
omit X0 G0 in
theorem sf_Round : PySem.W.selfFirst K (He.ga K "Round") = true := (c.fact 53 rfl)
end
/-- a Round, by its budgets -/
abbrev rd (K : PySem.W.Frag) (ns : List Int) : Dt := .ins (He.ga K "Round") ["_budgets"] [.tup (ns.map Dt.int)]
/-- the budget of put t -/
def bud (ns : List Int) (t : Int) : Int := ns.getD (t % ns.length).toNat 0
/-- the sum of a window, as the program takes it -/
def win (ns : List Int) (start count : Int) : Int := count / ns.length * ns.sum + (((ns ++ ns).drop (start % ns.length).toNat).take ((start % ns.length + count % ns.length).toNat - (start % ns.length).toNat)).sum
/-- the round from this position on -/
def rot (ns : List Int) (t : Int) : List Int := ns.drop (t % ns.length).toNat ++ ns.take (t % ns.length).toNat
theorem rd_fld {K : PySem.W.Frag} {L : Cells} {ns : List Int} : FldD (rd K ns) L (He.ga K "Round") "_budgets" (.tup (ns.map Dt.int)) := .inl ⟨_, _, 0, rfl, by decide, rfl, rfl⟩
theorem rd_ins {K : PySem.W.Frag} {L : Cells} {ns : List Int} : InsC (rd K ns) L (He.ga K "Round") := .inl ⟨_, _, rfl⟩
theorem rd_notin {K : PySem.W.Frag} {L : Cells} {ns : List Int} {m : Str} (h : m ∉ (["_budgets"] : List Str)) : InsD (rd K ns) L (He.ga K "Round") m := .inl ⟨_, _, rfl, h⟩
theorem len_pos {ns : List Int} (h : ns ≠ []) : 0 < (ns.length : Int) := by
  have : ns.length ≠ 0 := fun e => h (List.length_eq_zero_iff.mp e)
  omega
theorem bud_of {ns : List Int} {t : Int} : ns.getD (t % ns.length).toNat 0 = bud ns t := rfl
theorem kit_int_bool {K : PySem.W.Frag} : PySem.W.kitOne K (.type "int") (.type "bool") = some false := by rfl
theorem kit_int_int {K : PySem.W.Frag} : PySem.W.kitOne K (.type "int") (.type "int") = some true := by rfl
theorem kit_list {K : PySem.W.Frag} : PySem.W.kitOne K (.type "list") (.type "list") = some true := by rfl
theorem kit_bool {K : PySem.W.Frag} : PySem.W.kitOne K (.type "bool") (.type "bool") = some true := by rfl
theorem rot_len {ns : List Int} {t : Int} (h : ns ≠ []) : (rot ns t).length = ns.length := by
  unfold rot
  have := len_pos h
  have := Int.emod_lt_of_pos t this
  have := Int.emod_nonneg t (Int.ne_of_gt (len_pos h))
  rw [List.length_append, List.length_drop, List.length_take]
  omega
theorem rot_mem {ns : List Int} {t x : Int} (h : x ∈ rot ns t) : x ∈ ns := by
  unfold rot at h
  rcases List.mem_append.mp h with h | h
  · exact List.mem_of_mem_drop h
  · exact List.mem_of_mem_take h
theorem sum_bnd {b : Int} : ∀ {ns : List Int}, (∀ x ∈ ns, 0 ≤ x ∧ x ≤ b) → ∀ {n : Nat}, ns.length ≤ n → 0 ≤ b → 0 ≤ ns.sum ∧ ns.sum ≤ n * b
  | [], _, n, _, hb => by
    refine ⟨by decide, ?_⟩
    show (0 : Int) ≤ _
    exact Int.mul_nonneg (by omega) hb
  | x :: ns, h, n, hl, hb => by
    obtain ⟨a, b1⟩ := sum_bnd (ns := ns) (fun y hy => h y (List.mem_cons_of_mem _ hy)) (n := n - 1) (by rw [List.length_cons] at hl; omega) hb
    have hx := h x (List.mem_cons_self ..)
    rw [List.length_cons] at hl
    rw [List.sum_cons]
    have e : ((n - 1 : Nat) : Int) * b + b = n * b := by
      have : ((n - 1 : Nat) : Int) = n - 1 := by omega
      rw [this, Int.sub_mul, Int.one_mul]; omega
    omega
theorem getD_mem {ns : List Int} {i : Nat} (h : i < ns.length) : ns.getD i 0 ∈ ns := by
  rw [List.getD_eq_getElem?_getD, List.getElem?_eq_getElem h]
  exact List.getElem_mem h
theorem flip_nn {x : Int} (h : 0 ≤ x) : 0 ≤ x + 1 - 2 * (if decide (0 < x) = true then 1 else 0) := by
  by_cases h0 : 0 < x
  · rw [if_pos (decide_eq_true h0)]; omega
  · rw [if_neg (by rw [decide_eq_false h0]; exact Bool.false_ne_true)]; omega
theorem mul_small {a b : Int} (ha : 0 ≤ a) (ha2 : a ≤ 1000) (hb : 0 ≤ b) (hb2 : b ≤ 1000) : a * b ≤ 10 ^ 30 := by
  have := Int.mul_le_mul ha2 hb2 hb (by decide)
  omega
theorem rev_at {ns : List Int} {i : Nat} (h : i < ns.length) : (ns.reverse.map Dt.int)[i]? = some (.int (ns.getD ((ns.length : Int) - 1 - (0 + (i : Int))).toNat 0)) := by
  rw [List.getElem?_map, List.getElem?_reverse h, show ((ns.length : Int) - 1 - (0 + (i : Int))).toNat = ns.length - 1 - i by omega, List.getD_eq_getElem?_getD]
  rw [List.getElem?_eq_getElem (by omega)]
  rfl
/-! ### the plain law -/
/-- the sum of so many budgets from s on -/
def psum (ns : List Int) (s : Int) : Nat → Int
  | 0 => 0
  | i + 1 => psum ns s i + bud ns (s + i)
theorem mod_of {n : Nat} {a r : Int} (h0 : 0 ≤ r) (h1 : r < n) (h : ∃ k : Int, a = r + n * k) : a % n = r := by
  obtain ⟨k, rfl⟩ := h
  rw [Int.add_mul_emod_self_left, Int.emod_eq_of_lt h0 h1]
theorem twice_at {ns : List Int} (hne : ns ≠ []) {s : Int} {i : Nat} (hi : i ≤ ns.length) : (ns ++ ns).getD ((s % ns.length).toNat + i) 0 = bud ns (s + i) ∨ i = ns.length := by
  by_cases e : i = ns.length
  · exact .inr e
  · left
    have hp := len_pos hne
    have h0 := Int.emod_nonneg s (Int.ne_of_gt hp)
    have h1 := Int.emod_lt_of_pos s hp
    have hs := Int.mul_ediv_add_emod s ns.length
    unfold bud
    rw [List.getD_eq_getElem?_getD, List.getD_eq_getElem?_getD]
    by_cases hc : (s % ns.length).toNat + i < ns.length
    · rw [List.getElem?_append_left hc, mod_of (a := s + i) (r := s % ns.length + i) (by omega) (by omega) ⟨s / ns.length, by omega⟩]
      congr 2
      omega
    · rw [List.getElem?_append_right (by omega), mod_of (a := s + i) (r := s % ns.length + i - ns.length) (by omega) (by omega) ⟨s / ns.length + 1, by rw [Int.mul_add]; omega⟩]
      congr 2
      omega
theorem take_sum {l : List Int} {f i : Nat} (h : f + i < l.length) : ((l.drop f).take (i + 1)).sum = ((l.drop f).take i).sum + l.getD (f + i) 0 := by
  rw [List.take_succ, List.getElem?_drop, List.getElem?_eq_getElem h, List.getD_eq_getElem?_getD, List.getElem?_eq_getElem h, List.sum_append]
  simp
theorem psum_eq {ns : List Int} (hne : ns ≠ []) {s : Int} : ∀ {i : Nat}, i ≤ ns.length → (((ns ++ ns).drop (s % ns.length).toNat).take i).sum = psum ns s i
  | 0, _ => rfl
  | i + 1, h => by
    have hp := len_pos hne
    have h0 := Int.emod_nonneg s (Int.ne_of_gt hp)
    have h1 := Int.emod_lt_of_pos s hp
    rw [take_sum (by rw [List.length_append]; omega), psum_eq hne (by omega), psum]
    rcases twice_at hne (s := s) (i := i) (by omega) with e | e
    · rw [e]
    · omega
theorem win_eq {ns : List Int} (hne : ns ≠ []) {s n : Int} (hs : 0 ≤ s) (hn : 0 ≤ n) : win ns s n = n / ns.length * ns.sum + psum ns s (n % ns.length).toNat := by
  have hp := len_pos hne
  have h0 := Int.emod_nonneg n (Int.ne_of_gt hp)
  have h1 := Int.emod_lt_of_pos n hp
  have g0 := Int.emod_nonneg s (Int.ne_of_gt hp)
  unfold win
  rw [show (s % (ns.length : Int) + n % ns.length).toNat - (s % (ns.length : Int)).toNat = (n % (ns.length : Int)).toNat by omega, psum_eq hne (by omega)]
theorem win_0 {ns : List Int} (hne : ns ≠ []) {s : Int} (hs : 0 ≤ s) : win ns s 0 = 0 := by
  rw [win_eq hne hs (by decide)]
  simp [psum]
theorem win_1 {ns : List Int} (hne : ns ≠ []) {s : Int} (hs : 0 ≤ s) : win ns s 1 = bud ns s := by
  rw [win_eq hne hs (by decide)]
  by_cases h1 : ns.length = 1
  · obtain ⟨x, rfl⟩ := List.length_eq_one_iff.mp h1
    have e : s % (1 : Nat) = 0 := by omega
    simp [psum, bud]
  · have hp := len_pos hne
    rw [Int.ediv_eq_zero_of_lt (by decide) (by omega), Int.emod_eq_of_lt (by decide) (by omega)]
    show 0 * _ + (0 + bud ns (s + 0)) = _
    rw [Int.zero_mul, Int.zero_add, Int.zero_add, Int.add_zero]
theorem rot_get {ns : List Int} {t : Int} (h : 0 ≤ t) {i : Nat} (hi : i < ns.length) : (rot ns t)[i]? = some (bud ns (t + i)) := by
  have hne : ns ≠ [] := fun e => by rw [e] at hi; exact absurd hi (Nat.not_lt_zero _)
  have hp := len_pos hne
  have h0 := Int.emod_nonneg t (Int.ne_of_gt hp)
  have h1 := Int.emod_lt_of_pos t hp
  have hs := Int.mul_ediv_add_emod t ns.length
  unfold rot bud
  rw [List.getD_eq_getElem?_getD]
  by_cases hc : (t % ns.length).toNat + i < ns.length
  · rw [List.getElem?_append_left (by rw [List.length_drop]; omega), List.getElem?_drop, mod_of (a := t + i) (r := t % ns.length + i) (by omega) (by omega) ⟨t / ns.length, by omega⟩]
    rw [show (t % (ns.length : Int) + i).toNat = (t % (ns.length : Int)).toNat + i by omega, List.getElem?_eq_getElem hc]
    rfl
  · rw [List.getElem?_append_right (by rw [List.length_drop]; omega), List.length_drop, List.getElem?_take, if_pos (by omega), mod_of (a := t + i) (r := t % ns.length + i - ns.length) (by omega) (by omega) ⟨t / ns.length + 1, by rw [Int.mul_add]; omega⟩]
    rw [show (t % (ns.length : Int) + i - ns.length).toNat = i - (ns.length - (t % (ns.length : Int)).toNat) by omega, List.getElem?_eq_getElem (by omega)]
    rfl
theorem rot_back {ns : List Int} (hne : ns ≠ []) {t : Int} (h : 0 ≤ t) : rot (rot ns t) (ns.length - t % ns.length) = ns := by
  have hp := len_pos hne
  have h0 := Int.emod_nonneg t (Int.ne_of_gt hp)
  have h1 := Int.emod_lt_of_pos t hp
  have hl := rot_len (t := t) hne
  by_cases e0 : t % ns.length = 0
  · rw [e0]
    have e1 : rot ns t = ns := by
      unfold rot
      rw [e0]
      simp
    rw [e1]
    unfold rot
    simp
  · have e2 : ((ns.length : Int) - t % ns.length) % ns.length = ns.length - t % ns.length := Int.emod_eq_of_lt (by omega) (by omega)
    unfold rot at hl ⊢
    rw [hl, e2]
    have e3 : ((ns.length : Int) - t % ns.length).toNat = (ns.drop (t % (ns.length : Int)).toNat).length := by rw [List.length_drop]; omega
    rw [e3, List.drop_left, List.take_left, List.take_append_drop]

/-! ### at_least -/
theorem sc_at_least : FnScope ["value", "least", "field"] ["value", "least", "field"] (defScope s_at_least) := ⟨rfl, rfl, rfl, by decide +kernel, rfl, by decide +kernel, by decide +kernel⟩
abbrev X_at_least (P : Program) (w : World) (K : PySem.W.Frag) (mg : Str → Option Value) (base : Heap) (f : Addr) (cdv : Value) (A : Around) (outer : List Env) (s : Shared) (H : Hp) (E : XK) : Cx := cxD P w K mg base ["value", "least", "field"] "at_least" (defScope s_at_least) f cdv A outer s H E
def sp_at_least (K : PySem.W.Frag) : TSp := fun ds L Ex Kk => ∃ (v l : Int) (d : Dt), ds = [.int v, .int l, d] ∧ l ≤ v ∧ Kk .non L
section
variable {P : Program} {w : World} {K : PySem.W.Frag} {mg : Str → Option Value} {base : Heap} {f : Addr} {cdv : Value} {A : Around} {outer : List Env} {s : Shared} {H : Hp} {E : XK} {h : Heap}
theorem nm_at_least_0 : Nm (X_at_least P w K mg base f cdv A outer s H E) "value" 0 := ⟨rfl, by first | exact .inl rfl | exact .inr (.inl rfl) | exact .inr (.inr rfl), rfl, rfl⟩
theorem nm_at_least_1 : Nm (X_at_least P w K mg base f cdv A outer s H E) "least" 1 := ⟨rfl, by first | exact .inl rfl | exact .inr (.inl rfl) | exact .inr (.inr rfl), rfl, rfl⟩
end
section
variable {P : Program} {w : World} {K : PySem.W.Frag} {mg : Str → Option Value} {base : Heap} {f : Addr} {cdv : Value} {A : Around} {outer : List Env} {s : Shared} {H : Hp} {E : XK} {h : Heap} (c : SaysM fa fn K) (X0 : K.In h) (G0 : h.Ns mainGlobals mg)
include c X0 G0
theorem b_at_least (rm : Rm 1 (X_at_least P w K mg base f cdv A outer s H E).A) {ds : List Dt} {L : Cells} {Ex : XD} {Kk : KD} (h : sp_at_least K ds L Ex Kk) : WSs (X_at_least P w K mg base f cdv A outer s H E) (defBody s_at_least) (gIn ["value", "least", "field"] ds) L Ex { nx := fun _ L' => Kk .non L', rt := Kk } := by
  obtain ⟨v, l, d, rfl, hle, hK⟩ := h
  change WSs _ _ [some _, some _, some _] _ _ _
  refine ws_one ?_
  refine ws_if ?_
  refine wt_cmp d_lt ?_
  refine we_nm nm_at_least_0 .h ?_
  refine we_nm nm_at_least_1 (.t .h) ?_
  refine rII0 ?_
  refine ⟨_, rfl, ?_⟩
  refine t_n (by omega) ?_
  refine ws_nil ?_
  exact hK
theorem fb_at_least : ∃ fd, FnB P w K mg base 2 (f_at_least.ad K) fd ["value", "least", "field"] (sp_at_least K) ∧ FnG P w K mg base 2 (f_at_least.ad K) (fun ds L Ex Kk => ds.length = 3 ∧ sp_at_least K ds L Ex Kk) ∧ PySem.W.keepIn K (.ref (f_at_least.ad K)) = true := by
  obtain ⟨fd, Fd⟩ := c.dfn 0 (t := f_at_least) rfl
  have B := fn_body (P := P) (w := w) (mg := mg) (base := base) (sp := sp_at_least K) (k := 1) Fd sc_at_least (fun cdv A outer s H E rm ds L Ex Kk hl h => b_at_least c X0 G0 rm h)
  have bN : Binds K fd ["value", "least", "field"] [] := FunD.bindsN Fd fun _ _ _ _ _ _ us hl => match us, hl with | [_, _, _], _ => rfl
  exact ⟨fd, B, FnB.pos0 B bN, Fd.kp⟩
theorem fg_at_least : FnG P w K mg base 2 (f_at_least.ad K) (fun ds L Ex Kk => ds.length = 3 ∧ sp_at_least K ds L Ex Kk) := by
  obtain ⟨fd, _, z, _⟩ := fb_at_least c X0 G0
  exact z
theorem cl_at_least : Cl P w K mg base 2 "at_least" (fun ds L Ex Kk => ds.length = 3 ∧ sp_at_least K ds L Ex Kk) := by
  obtain ⟨fd, _, z, kp⟩ := fb_at_least c X0 G0
  exact ⟨⟨_, z, g_at_least c X0 G0, kp⟩, rfl⟩
end
/-! ### whole_number -/
theorem sc_whole_number : FnScope ["value", "field"] ["value", "field"] (defScope s_whole_number) := ⟨rfl, rfl, rfl, by decide +kernel, rfl, by decide +kernel, by decide +kernel⟩
abbrev X_whole_number (P : Program) (w : World) (K : PySem.W.Frag) (mg : Str → Option Value) (base : Heap) (f : Addr) (cdv : Value) (A : Around) (outer : List Env) (s : Shared) (H : Hp) (E : XK) : Cx := cxD P w K mg base ["value", "field"] "whole_number" (defScope s_whole_number) f cdv A outer s H E
def sp_whole_number (K : PySem.W.Frag) : TSp := fun ds L Ex Kk => ∃ (v : Int) (d : Dt), ds = [.int v, d] ∧ Kk .non L
section
variable {P : Program} {w : World} {K : PySem.W.Frag} {mg : Str → Option Value} {base : Heap} {f : Addr} {cdv : Value} {A : Around} {outer : List Env} {s : Shared} {H : Hp} {E : XK} {h : Heap}
theorem nm_whole_number_0 : Nm (X_whole_number P w K mg base f cdv A outer s H E) "value" 0 := ⟨rfl, by first | exact .inl rfl | exact .inr (.inl rfl) | exact .inr (.inr rfl), rfl, rfl⟩
theorem gl_whole_number_bool : Gl (X_whole_number P w K mg base f cdv A outer s H E) "bool" := rfl
theorem gl_whole_number_int : Gl (X_whole_number P w K mg base f cdv A outer s H E) "int" := rfl
theorem gl_whole_number_isinstance : Gl (X_whole_number P w K mg base f cdv A outer s H E) "isinstance" := rfl
end
section
variable {P : Program} {w : World} {K : PySem.W.Frag} {mg : Str → Option Value} {base : Heap} {f : Addr} {cdv : Value} {A : Around} {outer : List Env} {s : Shared} {H : Hp} {E : XK} {h : Heap} (c : SaysM fa fn K) (X0 : K.In h) (G0 : h.Ns mainGlobals mg)
include c X0 G0
theorem b_whole_number (rm : Rm 1 (X_whole_number P w K mg base f cdv A outer s H E).A) {ds : List Dt} {L : Cells} {Ex : XD} {Kk : KD} (h : sp_whole_number K ds L Ex Kk) : WSs (X_whole_number P w K mg base f cdv A outer s H E) (defBody s_whole_number) (gIn ["value", "field"] ds) L Ex { nx := fun _ L' => Kk .non L', rt := Kk } := by
  obtain ⟨v, d, rfl, hK⟩ := h
  change WSs _ _ [some _, some _] _ _ _
  refine ws_one ?_
  refine ws_if ?_
  refine wt_of ?_
  refine ww_or ?_
  refine wt_val ?_
  refine we_blt (b_isi) ⟨gl_whole_number_isinstance, u_isinstance c X0 G0⟩ rfl ?_
  refine wa_cons ?_
  refine we_nm nm_whole_number_0 .h ?_
  refine wa_cons ?_
  refine we_btn ⟨gl_whole_number_bool, u_bool c X0 G0⟩ rfl ?_
  refine wa_nil ?_
  refine ⟨_, _, _, _, _, rfl, .ty _, .int _, kit_int_bool, ?_⟩
  refine ⟨_, rfl, ?_⟩
  refine t_f (by first | rfl | simp) ?_
  refine ww_or1 ?_
  refine wt_not ?_
  refine wt_val ?_
  refine we_blt (b_isi) ⟨gl_whole_number_isinstance, u_isinstance c X0 G0⟩ rfl ?_
  refine wa_cons ?_
  refine we_nm nm_whole_number_0 .h ?_
  refine wa_cons ?_
  refine we_btn ⟨gl_whole_number_int, u_int c X0 G0⟩ rfl ?_
  refine wa_nil ?_
  refine ⟨_, _, _, _, _, rfl, .ty _, .int _, kit_int_int, ?_⟩
  refine ⟨_, rfl, ?_⟩
  refine t_f rfl ?_
  refine ws_nil ?_
  exact hK
theorem fb_whole_number : ∃ fd, FnB P w K mg base 2 (f_whole_number.ad K) fd ["value", "field"] (sp_whole_number K) ∧ FnG P w K mg base 2 (f_whole_number.ad K) (fun ds L Ex Kk => ds.length = 2 ∧ sp_whole_number K ds L Ex Kk) ∧ PySem.W.keepIn K (.ref (f_whole_number.ad K)) = true := by
  obtain ⟨fd, Fd⟩ := c.dfn 1 (t := f_whole_number) rfl
  have B := fn_body (P := P) (w := w) (mg := mg) (base := base) (sp := sp_whole_number K) (k := 1) Fd sc_whole_number (fun cdv A outer s H E rm ds L Ex Kk hl h => b_whole_number c X0 G0 rm h)
  have bN : Binds K fd ["value", "field"] [] := FunD.bindsN Fd fun _ _ _ _ _ _ us hl => match us, hl with | [_, _], _ => rfl
  exact ⟨fd, B, FnB.pos0 B bN, Fd.kp⟩
theorem fg_whole_number : FnG P w K mg base 2 (f_whole_number.ad K) (fun ds L Ex Kk => ds.length = 2 ∧ sp_whole_number K ds L Ex Kk) := by
  obtain ⟨fd, _, z, _⟩ := fb_whole_number c X0 G0
  exact z
theorem cl_whole_number : Cl P w K mg base 2 "whole_number" (fun ds L Ex Kk => ds.length = 2 ∧ sp_whole_number K ds L Ex Kk) := by
  obtain ⟨fd, _, z, kp⟩ := fb_whole_number c X0 G0
  exact ⟨⟨_, z, g_whole_number c X0 G0, kp⟩, rfl⟩
end
/-! ### Round.__init__ -/
theorem sc_Round_Dinit : FnScope ["self", "budgets", "budget"] ["self", "budgets"] (defScope s_Round_Dinit) := ⟨rfl, rfl, rfl, by decide +kernel, rfl, by decide +kernel, by decide +kernel⟩
abbrev X_Round_Dinit (P : Program) (w : World) (K : PySem.W.Frag) (mg : Str → Option Value) (base : Heap) (f : Addr) (cdv : Value) (A : Around) (outer : List Env) (s : Shared) (H : Hp) (E : XK) : Cx := cxD P w K mg base ["self", "budgets", "budget"] "Round.__init__" (defScope s_Round_Dinit) f cdv A outer s H E
def sp_Round_Dinit (K : PySem.W.Frag) : TSp := fun ds L Ex Kk => ∃ (a : Addr) (ns : List Int) (g : OC → Cells), ds = .ref a :: ns.map Dt.int ∧ 1 ≤ ns.length ∧ ns.length ≤ 12 ∧ (∀ x ∈ ns, 0 ≤ x) ∧ Has L a (.ins (He.ga K "Round") [] []) g ∧ Kk .non (g (.ins (He.ga K "Round") ["_budgets"] [.tup (ns.map Dt.int)]))
section
variable {P : Program} {w : World} {K : PySem.W.Frag} {mg : Str → Option Value} {base : Heap} {f : Addr} {cdv : Value} {A : Around} {outer : List Env} {s : Shared} {H : Hp} {E : XK} {h : Heap}
theorem nm_Round_Dinit_0 : Nm (X_Round_Dinit P w K mg base f cdv A outer s H E) "self" 0 := ⟨rfl, by first | exact .inl rfl | exact .inr (.inl rfl) | exact .inr (.inr rfl), rfl, rfl⟩
theorem nm_Round_Dinit_1 : Nm (X_Round_Dinit P w K mg base f cdv A outer s H E) "budgets" 1 := ⟨rfl, by first | exact .inl rfl | exact .inr (.inl rfl) | exact .inr (.inr rfl), rfl, rfl⟩
theorem nm_Round_Dinit_2 : Nm (X_Round_Dinit P w K mg base f cdv A outer s H E) "budget" 2 := ⟨rfl, by first | exact .inl rfl | exact .inr (.inl rfl) | exact .inr (.inr rfl), rfl, rfl⟩
theorem ns_Round_Dinit_2 : Ns (X_Round_Dinit P w K mg base f cdv A outer s H E) "budget" 2 := ⟨sc_Round_Dinit.nd, rfl, by first | exact .inl rfl | exact .inr rfl, .inl rfl⟩
theorem gl_Round_Dinit_Round : Gl (X_Round_Dinit P w K mg base f cdv A outer s H E) "Round" := rfl
theorem gl_Round_Dinit_at_least : Gl (X_Round_Dinit P w K mg base f cdv A outer s H E) "at_least" := rfl
theorem gl_Round_Dinit_len : Gl (X_Round_Dinit P w K mg base f cdv A outer s H E) "len" := rfl
theorem gl_Round_Dinit_tuple : Gl (X_Round_Dinit P w K mg base f cdv A outer s H E) "tuple" := rfl
theorem gl_Round_Dinit_whole_number : Gl (X_Round_Dinit P w K mg base f cdv A outer s H E) "whole_number" := rfl
end
section
variable {P : Program} {w : World} {K : PySem.W.Frag} {mg : Str → Option Value} {base : Heap} {f : Addr} {cdv : Value} {A : Around} {outer : List Env} {s : Shared} {H : Hp} {E : XK} {h : Heap} (c : SaysM fa fn K) (X0 : K.In h) (G0 : h.Ns mainGlobals mg)
include c X0 G0
theorem b_Round_Dinit (rm : Rm 2 (X_Round_Dinit P w K mg base f cdv A outer s H E).A) {ds rest : List Dt} {L : Cells} {Ex : XD} {Kk : KD} (hl : ds.length = 1) (h : sp_Round_Dinit K (ds ++ rest) L Ex Kk) : WSs (X_Round_Dinit P w K mg base f cdv A outer s H E) (defBody s_Round_Dinit) (gIn ["self", "budgets", "budget"] (ds ++ [.tup rest])) L Ex { nx := fun _ L' => Kk .non L', rt := Kk } := by
  obtain ⟨a, ns, g, he, h1, h12, h0, hh, hK⟩ := h
  obtain ⟨d0, rfl⟩ : ∃ d, ds = [d] := List.length_eq_one_iff.mp hl
  obtain ⟨rfl, rfl⟩ : d0 = .ref a ∧ rest = ns.map Dt.int := List.cons.inj he
  change WSs _ _ [some _, some _, none] _ _ _
  refine ws_cons ?_
  refine ws_if ?_
  refine wt_not ?_
  refine wt_cmp2 d_le d_le ?_
  refine we_int ?_
  refine we_blt (b_len) ⟨gl_Round_Dinit_len, u_len c X0 G0⟩ rfl ?_
  refine wa_cons ?_
  refine we_nm nm_Round_Dinit_1 (.t .h) ?_
  refine wa_nil ?_
  first | refine len_iL ?_ | refine len_iT ?_ | refine len_iR ?_ | refine len_iO (by first | assumption | exact Has.upd (by assumption) | exact .h | exact .t (by assumption) | exact .t (Has.upd (by assumption)) | exact .t .h | exact .t (.t .h)) ?_ | refine len_lst ?_ | refine len_tup ?_
  refine rII0 ?_
  refine ⟨_, rfl, ?_⟩
  refine t_y (by omega) ?_
  refine we_cval (v := .int 12) ?_ (rd_Round c) (cv_Round_MOST c)
  refine we_glo gl_Round_Dinit_Round (g_Round c X0 G0) ?_
  refine ⟨rfl, ?_⟩
  refine rII0 ?_
  refine ⟨_, rfl, ?_⟩
  refine t_nn (by omega) ?_
  refine ws_nil ?_
  refine ws_cons ?_
  refine ws_for rfl passOwn ?_
  refine wi_tup ?_
  refine we_nm nm_Round_Dinit_1 (.t .h) ?_
  refine ⟨_, rfl, ?_⟩
  refine ⟨fun i Γ1 L1 => (∃ o, Γ1 = [some (.ref a), some (.tup (ns.map Dt.int)), o]) ∧ L1 = L, ⟨⟨_, rfl⟩, rfl⟩, ?_, ?_⟩
  · skip
    rintro i d Γ1 L1 hd ⟨⟨o, rfl⟩, rfl⟩
    obtain ⟨hi, rfl⟩ := at_map hd
    refine wg_name ns_Round_Dinit_2 (.t (.t .h)) ?_
    refine ws_cons ?_
    refine ws_expr ?_
    refine we_call (cl_whole_number c X0 G0) rm (by decide) gl_Round_Dinit_whole_number ?_
    refine wa_cons ?_
    refine we_nm nm_Round_Dinit_2 (.t (.t .h)) ?_
    refine wa_cons ?_
    refine we_str ?_
    refine wa_nil ?_
    refine ⟨rfl, ?_⟩
    refine ⟨_, _, rfl, ?_⟩
    refine ws_one ?_
    refine ws_expr ?_
    refine we_call (cl_at_least c X0 G0) rm (by decide) gl_Round_Dinit_at_least ?_
    refine wa_cons ?_
    refine we_nm nm_Round_Dinit_2 (.t (.t .h)) ?_
    refine wa_cons ?_
    refine we_int ?_
    refine wa_cons ?_
    refine we_str ?_
    refine wa_nil ?_
    refine ⟨rfl, ?_⟩
    refine ⟨_, _, _, rfl, h0 _ (List.getElem_mem hi), ?_⟩
    exact ⟨⟨_, rfl⟩, rfl⟩
  rintro Γ1 L1 ⟨⟨o, rfl⟩, rfl⟩
  refine ws_one ?_
  refine ws_fld (cls_Round c) (na_Round_budgets c) ?_
  refine we_bty (b_tuple) ⟨gl_Round_Dinit_tuple, u_tuple c X0 G0⟩ rfl ?_
  refine wa_cons ?_
  refine we_nm nm_Round_Dinit_1 (.t .h) ?_
  refine wa_nil ?_
  first | refine tuple_lst ?_ | refine tuple_tup ?_
  refine we_nm nm_Round_Dinit_0 .h ?_
  refine ⟨_, _, _, _, rfl, hh, by decide, .inr ⟨by decide, ?_⟩⟩
  exact hK
theorem fg_Round_Dinit : FnG P w K mg base 3 (f_Round_Dinit.ad K) (fun ds L Ex Kk => 1 ≤ ds.length ∧ ds.length ≤ 1000000 ∧ sp_Round_Dinit K ds L Ex Kk) := by
  obtain ⟨fd, Fd⟩ := c.dfn 2 (t := f_Round_Dinit) rfl
  refine fn_starD (sp := sp_Round_Dinit K) (ps := ["self"]) (pv := "budgets") Fd sc_Round_Dinit ?_ (fun cdv A outer s H E rm ds rest L Ex Kk hl h => b_Round_Dinit c X0 G0 rm hl h)
  intro kV doc pm an cdv ct
  exact StX.bind_star1 (B := fun us => bindArgs (PySem.W.fnOf "__init__" "Round.__init__" (defArgs s_Round_Dinit) (defBody s_Round_Dinit) (defScope s_Round_Dinit) .none kV doc pm an cdv ct) ⟨us, []⟩) (p1 := "self") (pv := "budgets") (fun a => rfl) (fun a r rs => rfl)
theorem mk_Round : Mkr P w K mg base 3 "Round" (He.ga K "Round") (fun ds L Ex Kk => 1 ≤ ds.length ∧ ds.length ≤ 1000000 ∧ sp_Round_Dinit K ds L Ex Kk) := ⟨⟨_, mkk_Round c, fg_Round_Dinit c X0 G0⟩, g_Round c X0 G0, rfl⟩
end
/-! ### Round.constant -/
theorem sc_Round_constant : FnScope ["budget"] ["budget"] (defScope s_Round_constant) := ⟨rfl, rfl, rfl, by decide +kernel, rfl, by decide +kernel, by decide +kernel⟩
abbrev X_Round_constant (P : Program) (w : World) (K : PySem.W.Frag) (mg : Str → Option Value) (base : Heap) (f : Addr) (cdv : Value) (A : Around) (outer : List Env) (s : Shared) (H : Hp) (E : XK) : Cx := cxD P w K mg base ["budget"] "Round.constant" (defScope s_Round_constant) f cdv A outer s H E
def sp_Round_constant (K : PySem.W.Frag) : TSp := fun ds L Ex Kk => ∃ (v : Int), ds = [.int v] ∧ 0 ≤ v ∧ Kk (rd K [v]) L
section
variable {P : Program} {w : World} {K : PySem.W.Frag} {mg : Str → Option Value} {base : Heap} {f : Addr} {cdv : Value} {A : Around} {outer : List Env} {s : Shared} {H : Hp} {E : XK} {h : Heap}
theorem nm_Round_constant_0 : Nm (X_Round_constant P w K mg base f cdv A outer s H E) "budget" 0 := ⟨rfl, by first | exact .inl rfl | exact .inr (.inl rfl) | exact .inr (.inr rfl), rfl, rfl⟩
theorem gl_Round_constant_Round : Gl (X_Round_constant P w K mg base f cdv A outer s H E) "Round" := rfl
end
section
variable {P : Program} {w : World} {K : PySem.W.Frag} {mg : Str → Option Value} {base : Heap} {f : Addr} {cdv : Value} {A : Around} {outer : List Env} {s : Shared} {H : Hp} {E : XK} {h : Heap} (c : SaysM fa fn K) (X0 : K.In h) (G0 : h.Ns mainGlobals mg)
include c X0 G0
theorem b_Round_constant (rm : Rm 4 (X_Round_constant P w K mg base f cdv A outer s H E).A) {ds : List Dt} {L : Cells} {Ex : XD} {Kk : KD} (h : sp_Round_constant K ds L Ex Kk) : WSs (X_Round_constant P w K mg base f cdv A outer s H E) (defBody s_Round_constant) (gIn ["budget"] ds) L Ex { nx := fun _ L' => Kk .non L', rt := Kk } := by
  obtain ⟨v, rfl, h0, hK⟩ := h
  change WSs _ _ [some _] _ _ _
  refine ws_one ?_
  refine ws_ret ?_
  refine we_frzI ?_
  refine we_make (mk_Round c X0 G0) rm (by decide) gl_Round_constant_Round ?_
  refine wa_cons ?_
  refine we_nm nm_Round_constant_0 .h ?_
  refine wa_nil ?_
  intro a
  refine ⟨by simp, by simp, a, [v], _, rfl, by simp, by simp, by simpa using h0, .h, rfl, _, _, _, _, _, rfl, rfl, ?_⟩
  exact hK
theorem fb_Round_constant : ∃ fd, FnB P w K mg base 5 (f_Round_constant.ad K) fd ["budget"] (sp_Round_constant K) ∧ FnG P w K mg base 5 (f_Round_constant.ad K) (fun ds L Ex Kk => ds.length = 1 ∧ sp_Round_constant K ds L Ex Kk) ∧ PySem.W.keepIn K (.ref (f_Round_constant.ad K)) = true := by
  obtain ⟨fd, Fd⟩ := c.dfn 3 (t := f_Round_constant) rfl
  have B := fn_body (P := P) (w := w) (mg := mg) (base := base) (sp := sp_Round_constant K) (k := 4) Fd sc_Round_constant (fun cdv A outer s H E rm ds L Ex Kk hl h => b_Round_constant c X0 G0 rm h)
  have bN : Binds K fd ["budget"] [] := FunD.bindsN Fd fun _ _ _ _ _ _ us hl => match us, hl with | [_], _ => rfl
  exact ⟨fd, B, FnB.pos0 B bN, Fd.kp⟩
theorem fg_Round_constant : FnG P w K mg base 5 (f_Round_constant.ad K) (fun ds L Ex Kk => ds.length = 1 ∧ sp_Round_constant K ds L Ex Kk) := by
  obtain ⟨fd, _, z, _⟩ := fb_Round_constant c X0 G0
  exact z
theorem st_Round_constant : Smt P w K mg base 5 (He.ga K "Round") "constant" (fun ds L Ex Kk => ds.length = 1 ∧ sp_Round_constant K ds L Ex Kk) := fStat_ok (c.fact 24 rfl) (so_Round_constant c) (fg_Round_constant c X0 G0)
end
/-! ### Round.budgets -/
theorem sc_Round_budgets : FnScope ["self"] ["self"] (defScope s_Round_budgets) := ⟨rfl, rfl, rfl, by decide +kernel, rfl, by decide +kernel, by decide +kernel⟩
abbrev X_Round_budgets (P : Program) (w : World) (K : PySem.W.Frag) (mg : Str → Option Value) (base : Heap) (f : Addr) (cdv : Value) (A : Around) (outer : List Env) (s : Shared) (H : Hp) (E : XK) : Cx := cxD P w K mg base ["self"] "Round.budgets" (defScope s_Round_budgets) f cdv A outer s H E
def sp_Round_budgets (K : PySem.W.Frag) : TSp := fun ds L Ex Kk => ∃ (ns : List Int), ds = [rd K ns] ∧ ∀ a, Kk (.ref a) ((a, .lst (ns.map Dt.int)) :: L)
section
variable {P : Program} {w : World} {K : PySem.W.Frag} {mg : Str → Option Value} {base : Heap} {f : Addr} {cdv : Value} {A : Around} {outer : List Env} {s : Shared} {H : Hp} {E : XK} {h : Heap}
theorem nm_Round_budgets_0 : Nm (X_Round_budgets P w K mg base f cdv A outer s H E) "self" 0 := ⟨rfl, by first | exact .inl rfl | exact .inr (.inl rfl) | exact .inr (.inr rfl), rfl, rfl⟩
theorem gl_Round_budgets_list : Gl (X_Round_budgets P w K mg base f cdv A outer s H E) "list" := rfl
end
section
variable {P : Program} {w : World} {K : PySem.W.Frag} {mg : Str → Option Value} {base : Heap} {f : Addr} {cdv : Value} {A : Around} {outer : List Env} {s : Shared} {H : Hp} {E : XK} {h : Heap} (c : SaysM fa fn K) (X0 : K.In h) (G0 : h.Ns mainGlobals mg)
include c X0 G0
theorem b_Round_budgets (rm : Rm 0 (X_Round_budgets P w K mg base f cdv A outer s H E).A) {ds : List Dt} {L : Cells} {Ex : XD} {Kk : KD} (h : sp_Round_budgets K ds L Ex Kk) : WSs (X_Round_budgets P w K mg base f cdv A outer s H E) (defBody s_Round_budgets) (gIn ["self"] ds) L Ex { nx := fun _ L' => Kk .non L', rt := Kk } := by
  obtain ⟨ns, rfl, hK⟩ := h
  change WSs _ _ [some _] _ _ _
  refine ws_one ?_
  refine ws_ret ?_
  refine we_bty (b_listO) ⟨gl_Round_budgets_list, u_list c X0 G0⟩ rfl ?_
  refine wa_cons ?_
  refine we_fld (cls_Round c) (na_Round_budgets c) ?_
  refine we_nm nm_Round_budgets_0 .h ?_
  refine ⟨_, rd_fld, ?_⟩
  refine wa_nil ?_
  refine ⟨_, _, rfl, .inr rfl, fun a => ?_⟩
  exact hK a
theorem fb_Round_budgets : ∃ fd, FnB P w K mg base 1 (f_Round_budgets.ad K) fd ["self"] (sp_Round_budgets K) ∧ FnG P w K mg base 1 (f_Round_budgets.ad K) (fun ds L Ex Kk => ds.length = 1 ∧ sp_Round_budgets K ds L Ex Kk) ∧ PySem.W.keepIn K (.ref (f_Round_budgets.ad K)) = true := by
  obtain ⟨fd, Fd⟩ := c.dfn 4 (t := f_Round_budgets) rfl
  have B := fn_body (P := P) (w := w) (mg := mg) (base := base) (sp := sp_Round_budgets K) (k := 0) Fd sc_Round_budgets (fun cdv A outer s H E rm ds L Ex Kk hl h => b_Round_budgets c X0 G0 rm h)
  have bN : Binds K fd ["self"] [] := FunD.bindsN Fd fun _ _ _ _ _ _ us hl => match us, hl with | [_], _ => rfl
  exact ⟨fd, B, FnB.pos0 B bN, Fd.kp⟩
theorem fg_Round_budgets : FnG P w K mg base 1 (f_Round_budgets.ad K) (fun ds L Ex Kk => ds.length = 1 ∧ sp_Round_budgets K ds L Ex Kk) := by
  obtain ⟨fd, _, z, _⟩ := fb_Round_budgets c X0 G0
  exact z
theorem pr_Round_budgets : Pr P w K mg base 1 (He.ga K "Round") "budgets" (fun ds L Ex Kk => ds.length = 1 ∧ sp_Round_budgets K ds L Ex Kk) := ⟨cls_Round c, _, _, po_Round_budgets c, fg_Round_budgets c X0 G0⟩
end
/-! ### Round.__len__ -/
theorem sc_Round_Dlen : FnScope ["self"] ["self"] (defScope s_Round_Dlen) := ⟨rfl, rfl, rfl, by decide +kernel, rfl, by decide +kernel, by decide +kernel⟩
abbrev X_Round_Dlen (P : Program) (w : World) (K : PySem.W.Frag) (mg : Str → Option Value) (base : Heap) (f : Addr) (cdv : Value) (A : Around) (outer : List Env) (s : Shared) (H : Hp) (E : XK) : Cx := cxD P w K mg base ["self"] "Round.__len__" (defScope s_Round_Dlen) f cdv A outer s H E
def sp_Round_Dlen (K : PySem.W.Frag) : TSp := fun ds L Ex Kk => ∃ (ns : List Int), ds = [rd K ns] ∧ Kk (.int ns.length) L
section
variable {P : Program} {w : World} {K : PySem.W.Frag} {mg : Str → Option Value} {base : Heap} {f : Addr} {cdv : Value} {A : Around} {outer : List Env} {s : Shared} {H : Hp} {E : XK} {h : Heap}
theorem nm_Round_Dlen_0 : Nm (X_Round_Dlen P w K mg base f cdv A outer s H E) "self" 0 := ⟨rfl, by first | exact .inl rfl | exact .inr (.inl rfl) | exact .inr (.inr rfl), rfl, rfl⟩
theorem gl_Round_Dlen_len : Gl (X_Round_Dlen P w K mg base f cdv A outer s H E) "len" := rfl
end
section
variable {P : Program} {w : World} {K : PySem.W.Frag} {mg : Str → Option Value} {base : Heap} {f : Addr} {cdv : Value} {A : Around} {outer : List Env} {s : Shared} {H : Hp} {E : XK} {h : Heap} (c : SaysM fa fn K) (X0 : K.In h) (G0 : h.Ns mainGlobals mg)
include c X0 G0
theorem b_Round_Dlen (rm : Rm 0 (X_Round_Dlen P w K mg base f cdv A outer s H E).A) {ds : List Dt} {L : Cells} {Ex : XD} {Kk : KD} (h : sp_Round_Dlen K ds L Ex Kk) : WSs (X_Round_Dlen P w K mg base f cdv A outer s H E) (defBody s_Round_Dlen) (gIn ["self"] ds) L Ex { nx := fun _ L' => Kk .non L', rt := Kk } := by
  obtain ⟨ns, rfl, hK⟩ := h
  change WSs _ _ [some _] _ _ _
  refine ws_one ?_
  refine ws_ret ?_
  refine we_blt (b_len) ⟨gl_Round_Dlen_len, u_len c X0 G0⟩ rfl ?_
  refine wa_cons ?_
  refine we_fld (cls_Round c) (na_Round_budgets c) ?_
  refine we_nm nm_Round_Dlen_0 .h ?_
  refine ⟨_, rd_fld, ?_⟩
  refine wa_nil ?_
  first | refine len_iL ?_ | refine len_iT ?_ | refine len_iR ?_ | refine len_iO (by first | assumption | exact Has.upd (by assumption) | exact .h | exact .t (by assumption) | exact .t (Has.upd (by assumption)) | exact .t .h | exact .t (.t .h)) ?_ | refine len_lst ?_ | refine len_tup ?_
  exact hK
theorem fb_Round_Dlen : ∃ fd, FnB P w K mg base 1 (f_Round_Dlen.ad K) fd ["self"] (sp_Round_Dlen K) ∧ FnG P w K mg base 1 (f_Round_Dlen.ad K) (fun ds L Ex Kk => ds.length = 1 ∧ sp_Round_Dlen K ds L Ex Kk) ∧ PySem.W.keepIn K (.ref (f_Round_Dlen.ad K)) = true := by
  obtain ⟨fd, Fd⟩ := c.dfn 5 (t := f_Round_Dlen) rfl
  have B := fn_body (P := P) (w := w) (mg := mg) (base := base) (sp := sp_Round_Dlen K) (k := 0) Fd sc_Round_Dlen (fun cdv A outer s H E rm ds L Ex Kk hl h => b_Round_Dlen c X0 G0 rm h)
  have bN : Binds K fd ["self"] [] := FunD.bindsN Fd fun _ _ _ _ _ _ us hl => match us, hl with | [_], _ => rfl
  exact ⟨fd, B, FnB.pos0 B bN, Fd.kp⟩
theorem fg_Round_Dlen : FnG P w K mg base 1 (f_Round_Dlen.ad K) (fun ds L Ex Kk => ds.length = 1 ∧ sp_Round_Dlen K ds L Ex Kk) := by
  obtain ⟨fd, _, z, _⟩ := fb_Round_Dlen c X0 G0
  exact z
theorem mt_Round_Dlen : Mt P w K mg base 1 (He.ga K "Round") "__len__" (fun ds L Ex Kk => ds.length = 1 ∧ sp_Round_Dlen K ds L Ex Kk) := ⟨cls_Round c, _, me_Round_Dlen c, fg_Round_Dlen c X0 G0⟩
theorem sx_Round_Dlen : Spc P w K mg base 1 (He.ga K "Round") "__len__" (fun ds L Ex Kk => ds.length = 1 ∧ sp_Round_Dlen K ds L Ex Kk) := ⟨_, (me_Round_Dlen c).at_, (me_Round_Dlen c).fn, fg_Round_Dlen c X0 G0⟩
end
/-! ### Round.__eq__ -/
theorem sc_Round_Deq : FnScope ["self", "other"] ["self", "other"] (defScope s_Round_Deq) := ⟨rfl, rfl, rfl, by decide +kernel, rfl, by decide +kernel, by decide +kernel⟩
abbrev X_Round_Deq (P : Program) (w : World) (K : PySem.W.Frag) (mg : Str → Option Value) (base : Heap) (f : Addr) (cdv : Value) (A : Around) (outer : List Env) (s : Shared) (H : Hp) (E : XK) : Cx := cxD P w K mg base ["self", "other"] "Round.__eq__" (defScope s_Round_Deq) f cdv A outer s H E
def sp_Round_Deq (K : PySem.W.Frag) : TSp := fun ds L Ex Kk => ∃ (ns ms : List Int), ds = [rd K ns, rd K ms] ∧ Kk (.bl (decide (ns = ms))) L
section
variable {P : Program} {w : World} {K : PySem.W.Frag} {mg : Str → Option Value} {base : Heap} {f : Addr} {cdv : Value} {A : Around} {outer : List Env} {s : Shared} {H : Hp} {E : XK} {h : Heap}
theorem nm_Round_Deq_0 : Nm (X_Round_Deq P w K mg base f cdv A outer s H E) "self" 0 := ⟨rfl, by first | exact .inl rfl | exact .inr (.inl rfl) | exact .inr (.inr rfl), rfl, rfl⟩
theorem nm_Round_Deq_1 : Nm (X_Round_Deq P w K mg base f cdv A outer s H E) "other" 1 := ⟨rfl, by first | exact .inl rfl | exact .inr (.inl rfl) | exact .inr (.inr rfl), rfl, rfl⟩
theorem gl_Round_Deq_Round : Gl (X_Round_Deq P w K mg base f cdv A outer s H E) "Round" := rfl
theorem gl_Round_Deq_isinstance : Gl (X_Round_Deq P w K mg base f cdv A outer s H E) "isinstance" := rfl
end
section
variable {P : Program} {w : World} {K : PySem.W.Frag} {mg : Str → Option Value} {base : Heap} {f : Addr} {cdv : Value} {A : Around} {outer : List Env} {s : Shared} {H : Hp} {E : XK} {h : Heap} (c : SaysM fa fn K) (X0 : K.In h) (G0 : h.Ns mainGlobals mg)
include c X0 G0
theorem b_Round_Deq (rm : Rm 0 (X_Round_Deq P w K mg base f cdv A outer s H E).A) {ds : List Dt} {L : Cells} {Ex : XD} {Kk : KD} (h : sp_Round_Deq K ds L Ex Kk) : WSs (X_Round_Deq P w K mg base f cdv A outer s H E) (defBody s_Round_Deq) (gIn ["self", "other"] ds) L Ex { nx := fun _ L' => Kk .non L', rt := Kk } := by
  obtain ⟨ns, ms, rfl, hK⟩ := h
  change WSs _ _ [some _, some _] _ _ _
  refine ws_one ?_
  refine ws_ret ?_
  refine we_and ?_
  refine we_blt (b_isi) ⟨gl_Round_Deq_isinstance, u_isinstance c X0 G0⟩ rfl ?_
  refine wa_cons ?_
  refine we_nm nm_Round_Deq_1 (.t .h) ?_
  refine wa_cons ?_
  refine we_glo gl_Round_Deq_Round (g_Round c X0 G0) ?_
  refine wa_nil ?_
  refine ⟨_, _, _, _, _, rfl, .own _, .ins (ins_Round c), ki_Round c, ?_⟩
  refine ⟨_, rfl, ?_⟩
  refine t_t rfl ?_
  refine we_one ?_
  refine we_cmp (d_eqA rm.eqU) ?_
  refine we_fld (cls_Round c) (na_Round_budgets c) ?_
  refine we_nm nm_Round_Deq_0 .h ?_
  refine ⟨_, rd_fld, ?_⟩
  refine we_fld (cls_Round c) (na_Round_budgets c) ?_
  refine we_nm nm_Round_Deq_1 (.t .h) ?_
  refine ⟨_, rd_fld, ?_⟩
  first | refine eqA_int ?_ | refine eqA_iL ?_ | refine eqA_str ?_ | refine eqA_bl ?_ | refine eqA_bL ?_ | refine eqA_iT ?_
  exact hK
theorem fb_Round_Deq : ∃ fd, FnB P w K mg base 1 (f_Round_Deq.ad K) fd ["self", "other"] (sp_Round_Deq K) ∧ FnG P w K mg base 1 (f_Round_Deq.ad K) (fun ds L Ex Kk => ds.length = 2 ∧ sp_Round_Deq K ds L Ex Kk) ∧ PySem.W.keepIn K (.ref (f_Round_Deq.ad K)) = true := by
  obtain ⟨fd, Fd⟩ := c.dfn 6 (t := f_Round_Deq) rfl
  have B := fn_body (P := P) (w := w) (mg := mg) (base := base) (sp := sp_Round_Deq K) (k := 0) Fd sc_Round_Deq (fun cdv A outer s H E rm ds L Ex Kk hl h => b_Round_Deq c X0 G0 rm h)
  have bN : Binds K fd ["self", "other"] [] := FunD.bindsN Fd fun _ _ _ _ _ _ us hl => match us, hl with | [_, _], _ => rfl
  exact ⟨fd, B, FnB.pos0 B bN, Fd.kp⟩
theorem fg_Round_Deq : FnG P w K mg base 1 (f_Round_Deq.ad K) (fun ds L Ex Kk => ds.length = 2 ∧ sp_Round_Deq K ds L Ex Kk) := by
  obtain ⟨fd, _, z, _⟩ := fb_Round_Deq c X0 G0
  exact z
theorem mt_Round_Deq : Mt P w K mg base 1 (He.ga K "Round") "__eq__" (fun ds L Ex Kk => ds.length = 2 ∧ sp_Round_Deq K ds L Ex Kk) := ⟨cls_Round c, _, me_Round_Deq c, fg_Round_Deq c X0 G0⟩
theorem sx_Round_Deq : Spc P w K mg base 1 (He.ga K "Round") "__eq__" (fun ds L Ex Kk => ds.length = 2 ∧ sp_Round_Deq K ds L Ex Kk) := ⟨_, (me_Round_Deq c).at_, (me_Round_Deq c).fn, fg_Round_Deq c X0 G0⟩
end
/-! ### Round.__add__ -/
theorem sc_Round_Dadd : FnScope ["self", "other", "joined"] ["self", "other"] (defScope s_Round_Dadd) := ⟨rfl, rfl, rfl, by decide +kernel, rfl, by decide +kernel, by decide +kernel⟩
abbrev X_Round_Dadd (P : Program) (w : World) (K : PySem.W.Frag) (mg : Str → Option Value) (base : Heap) (f : Addr) (cdv : Value) (A : Around) (outer : List Env) (s : Shared) (H : Hp) (E : XK) : Cx := cxD P w K mg base ["self", "other", "joined"] "Round.__add__" (defScope s_Round_Dadd) f cdv A outer s H E
def sp_Round_Dadd (K : PySem.W.Frag) : TSp := fun ds L Ex Kk => ∃ (ns ms : List Int), ds = [rd K ns, rd K ms] ∧ 1 ≤ ns.length ∧ ns.length + ms.length ≤ 12 ∧ (∀ x ∈ ns, 0 ≤ x) ∧ (∀ x ∈ ms, 0 ≤ x) ∧ Kk (rd K (ns ++ ms)) L
section
variable {P : Program} {w : World} {K : PySem.W.Frag} {mg : Str → Option Value} {base : Heap} {f : Addr} {cdv : Value} {A : Around} {outer : List Env} {s : Shared} {H : Hp} {E : XK} {h : Heap}
theorem nm_Round_Dadd_0 : Nm (X_Round_Dadd P w K mg base f cdv A outer s H E) "self" 0 := ⟨rfl, by first | exact .inl rfl | exact .inr (.inl rfl) | exact .inr (.inr rfl), rfl, rfl⟩
theorem nm_Round_Dadd_1 : Nm (X_Round_Dadd P w K mg base f cdv A outer s H E) "other" 1 := ⟨rfl, by first | exact .inl rfl | exact .inr (.inl rfl) | exact .inr (.inr rfl), rfl, rfl⟩
theorem nm_Round_Dadd_2 : Nm (X_Round_Dadd P w K mg base f cdv A outer s H E) "joined" 2 := ⟨rfl, by first | exact .inl rfl | exact .inr (.inl rfl) | exact .inr (.inr rfl), rfl, rfl⟩
theorem ns_Round_Dadd_2 : Ns (X_Round_Dadd P w K mg base f cdv A outer s H E) "joined" 2 := ⟨sc_Round_Dadd.nd, rfl, by first | exact .inl rfl | exact .inr rfl, .inl rfl⟩
theorem gl_Round_Dadd_Round : Gl (X_Round_Dadd P w K mg base f cdv A outer s H E) "Round" := rfl
theorem gl_Round_Dadd_isinstance : Gl (X_Round_Dadd P w K mg base f cdv A outer s H E) "isinstance" := rfl
end
section
variable {P : Program} {w : World} {K : PySem.W.Frag} {mg : Str → Option Value} {base : Heap} {f : Addr} {cdv : Value} {A : Around} {outer : List Env} {s : Shared} {H : Hp} {E : XK} {h : Heap} (c : SaysM fa fn K) (X0 : K.In h) (G0 : h.Ns mainGlobals mg)
include c X0 G0
theorem b_Round_Dadd (rm : Rm 4 (X_Round_Dadd P w K mg base f cdv A outer s H E).A) {ds : List Dt} {L : Cells} {Ex : XD} {Kk : KD} (h : sp_Round_Dadd K ds L Ex Kk) : WSs (X_Round_Dadd P w K mg base f cdv A outer s H E) (defBody s_Round_Dadd) (gIn ["self", "other", "joined"] ds) L Ex { nx := fun _ L' => Kk .non L', rt := Kk } := by
  obtain ⟨ns, ms, rfl, h1, h12, h0, h0m, hK⟩ := h
  change WSs _ _ [some _, some _, none] _ _ _
  refine ws_cons ?_
  refine ws_if ?_
  refine wt_not ?_
  refine wt_val ?_
  refine we_blt (b_isi) ⟨gl_Round_Dadd_isinstance, u_isinstance c X0 G0⟩ rfl ?_
  refine wa_cons ?_
  refine we_nm nm_Round_Dadd_1 (.t .h) ?_
  refine wa_cons ?_
  refine we_glo gl_Round_Dadd_Round (g_Round c X0 G0) ?_
  refine wa_nil ?_
  refine ⟨_, _, _, _, _, rfl, .own _, .ins (ins_Round c), ki_Round c, ?_⟩
  refine ⟨_, rfl, ?_⟩
  refine t_f rfl ?_
  refine ws_nil ?_
  refine ws_cons ?_
  refine ws_set ns_Round_Dadd_2 ?_
  refine we_bin d_plus ?_
  refine we_fld (cls_Round c) (na_Round_budgets c) ?_
  refine we_nm nm_Round_Dadd_0 .h ?_
  refine ⟨_, rd_fld, ?_⟩
  refine we_fld (cls_Round c) (na_Round_budgets c) ?_
  refine we_nm nm_Round_Dadd_1 (.t .h) ?_
  refine ⟨_, rd_fld, ?_⟩
  first | refine plus_int ?_ | refine plus_iL (by (try simp only [List.length_append, List.length_cons, List.length_nil]); omega) ?_ | refine plus_iT (by omega) ?_ | refine plus_iL1 (by omega) ?_
  refine ⟨_, (.t (.t .h)), ?_⟩
  refine ws_one ?_
  refine ws_ret ?_
  refine we_frzI ?_
  refine we_makeS (mk_Round c X0 G0) rm (by decide) gl_Round_Dadd_Round ?_
  refine we_nm nm_Round_Dadd_2 (.t (.t .h)) ?_
  refine ⟨_, .inr rfl, fun a => ?_⟩
  refine ⟨by simp, by simp; omega, a, ns ++ ms, _, rfl, by simp; omega, by simp; omega, fun x hx => (List.mem_append.mp hx).elim (h0 x) (h0m x), .h, rfl, _, _, _, _, _, rfl, rfl, ?_⟩
  exact hK
theorem fb_Round_Dadd : ∃ fd, FnB P w K mg base 5 (f_Round_Dadd.ad K) fd ["self", "other"] (sp_Round_Dadd K) ∧ FnG P w K mg base 5 (f_Round_Dadd.ad K) (fun ds L Ex Kk => ds.length = 2 ∧ sp_Round_Dadd K ds L Ex Kk) ∧ PySem.W.keepIn K (.ref (f_Round_Dadd.ad K)) = true := by
  obtain ⟨fd, Fd⟩ := c.dfn 7 (t := f_Round_Dadd) rfl
  have B := fn_body (P := P) (w := w) (mg := mg) (base := base) (sp := sp_Round_Dadd K) (k := 4) Fd sc_Round_Dadd (fun cdv A outer s H E rm ds L Ex Kk hl h => b_Round_Dadd c X0 G0 rm h)
  have bN : Binds K fd ["self", "other"] [] := FunD.bindsN Fd fun _ _ _ _ _ _ us hl => match us, hl with | [_, _], _ => rfl
  exact ⟨fd, B, FnB.pos0 B bN, Fd.kp⟩
theorem fg_Round_Dadd : FnG P w K mg base 5 (f_Round_Dadd.ad K) (fun ds L Ex Kk => ds.length = 2 ∧ sp_Round_Dadd K ds L Ex Kk) := by
  obtain ⟨fd, _, z, _⟩ := fb_Round_Dadd c X0 G0
  exact z
theorem mt_Round_Dadd : Mt P w K mg base 5 (He.ga K "Round") "__add__" (fun ds L Ex Kk => ds.length = 2 ∧ sp_Round_Dadd K ds L Ex Kk) := ⟨cls_Round c, _, me_Round_Dadd c, fg_Round_Dadd c X0 G0⟩
theorem sx_Round_Dadd : Spc P w K mg base 5 (He.ga K "Round") "__add__" (fun ds L Ex Kk => ds.length = 2 ∧ sp_Round_Dadd K ds L Ex Kk) := ⟨_, (me_Round_Dadd c).at_, (me_Round_Dadd c).fn, fg_Round_Dadd c X0 G0⟩
end
/-! ### Round.at -/
theorem sc_Round_at : FnScope ["self", "t"] ["self", "t"] (defScope s_Round_at) := ⟨rfl, rfl, rfl, by decide +kernel, rfl, by decide +kernel, by decide +kernel⟩
abbrev X_Round_at (P : Program) (w : World) (K : PySem.W.Frag) (mg : Str → Option Value) (base : Heap) (f : Addr) (cdv : Value) (A : Around) (outer : List Env) (s : Shared) (H : Hp) (E : XK) : Cx := cxD P w K mg base ["self", "t"] "Round.at" (defScope s_Round_at) f cdv A outer s H E
def sp_Round_at (K : PySem.W.Frag) : TSp := fun ds L Ex Kk => ∃ (ns : List Int) (t : Int), ds = [rd K ns, .int t] ∧ ns ≠ [] ∧ 0 ≤ t ∧ Kk (.int (bud ns t)) L
section
variable {P : Program} {w : World} {K : PySem.W.Frag} {mg : Str → Option Value} {base : Heap} {f : Addr} {cdv : Value} {A : Around} {outer : List Env} {s : Shared} {H : Hp} {E : XK} {h : Heap}
theorem nm_Round_at_0 : Nm (X_Round_at P w K mg base f cdv A outer s H E) "self" 0 := ⟨rfl, by first | exact .inl rfl | exact .inr (.inl rfl) | exact .inr (.inr rfl), rfl, rfl⟩
theorem nm_Round_at_1 : Nm (X_Round_at P w K mg base f cdv A outer s H E) "t" 1 := ⟨rfl, by first | exact .inl rfl | exact .inr (.inl rfl) | exact .inr (.inr rfl), rfl, rfl⟩
theorem gl_Round_at_at_least : Gl (X_Round_at P w K mg base f cdv A outer s H E) "at_least" := rfl
theorem gl_Round_at_len : Gl (X_Round_at P w K mg base f cdv A outer s H E) "len" := rfl
end
section
variable {P : Program} {w : World} {K : PySem.W.Frag} {mg : Str → Option Value} {base : Heap} {f : Addr} {cdv : Value} {A : Around} {outer : List Env} {s : Shared} {H : Hp} {E : XK} {h : Heap} (c : SaysM fa fn K) (X0 : K.In h) (G0 : h.Ns mainGlobals mg)
include c X0 G0
theorem b_Round_at (rm : Rm 2 (X_Round_at P w K mg base f cdv A outer s H E).A) {ds : List Dt} {L : Cells} {Ex : XD} {Kk : KD} (h : sp_Round_at K ds L Ex Kk) : WSs (X_Round_at P w K mg base f cdv A outer s H E) (defBody s_Round_at) (gIn ["self", "t"] ds) L Ex { nx := fun _ L' => Kk .non L', rt := Kk } := by
  obtain ⟨ns, t, rfl, hne, h0, hK⟩ := h
  have hp := len_pos hne
  have hm := Int.emod_nonneg t (Int.ne_of_gt hp)
  have hm2 := Int.emod_lt_of_pos t hp
  change WSs _ _ [some _, some _] _ _ _
  refine ws_cons ?_
  refine ws_expr ?_
  refine we_call (cl_at_least c X0 G0) rm (by decide) gl_Round_at_at_least ?_
  refine wa_cons ?_
  refine we_nm nm_Round_at_1 (.t .h) ?_
  refine wa_cons ?_
  refine we_int ?_
  refine wa_cons ?_
  refine we_str ?_
  refine wa_nil ?_
  refine ⟨rfl, ?_⟩
  refine ⟨_, _, _, rfl, h0, ?_⟩
  refine ws_one ?_
  refine ws_ret ?_
  refine we_ix ix_d ?_
  refine we_fld (cls_Round c) (na_Round_budgets c) ?_
  refine we_nm nm_Round_at_0 .h ?_
  refine ⟨_, rd_fld, ?_⟩
  refine we_bin d_mod ?_
  refine we_nm nm_Round_at_1 (.t .h) ?_
  refine we_blt (b_len) ⟨gl_Round_at_len, u_len c X0 G0⟩ rfl ?_
  refine wa_cons ?_
  refine we_fld (cls_Round c) (na_Round_budgets c) ?_
  refine we_nm nm_Round_at_0 .h ?_
  refine ⟨_, rd_fld, ?_⟩
  refine wa_nil ?_
  first | refine len_iL ?_ | refine len_iT ?_ | refine len_iR ?_ | refine len_iO (by first | assumption | exact Has.upd (by assumption) | exact .h | exact .t (by assumption) | exact .t (Has.upd (by assumption)) | exact .t .h | exact .t (.t .h)) ?_ | refine len_lst ?_ | refine len_tup ?_
  refine rIIc (by omega) ?_
  first | refine ixd_own (by first | assumption | exact Has.upd (by assumption) | exact .h | exact .t (by assumption) | exact .t (Has.upd (by assumption)) | exact .t .h | exact .t (.t .h)) rfl ?_ | refine ixd_lst rfl ?_ | refine ixd_tup rfl ?_ | refine ix_iL (by omega) (by omega) ?_ | refine ix_iT (by omega) (by omega) ?_ | refine ix_iR (by omega) (by omega) ?_ | refine ix_iO (by first | assumption | exact Has.upd (by assumption) | exact .h | exact .t (by assumption) | exact .t (Has.upd (by assumption)) | exact .t .h | exact .t (.t .h)) (by omega) (by omega) ?_ | refine ix_iLn (by omega) (by omega) ?_
  exact hK
theorem fb_Round_at : ∃ fd, FnB P w K mg base 3 (f_Round_at.ad K) fd ["self", "t"] (sp_Round_at K) ∧ FnG P w K mg base 3 (f_Round_at.ad K) (fun ds L Ex Kk => ds.length = 2 ∧ sp_Round_at K ds L Ex Kk) ∧ PySem.W.keepIn K (.ref (f_Round_at.ad K)) = true := by
  obtain ⟨fd, Fd⟩ := c.dfn 8 (t := f_Round_at) rfl
  have B := fn_body (P := P) (w := w) (mg := mg) (base := base) (sp := sp_Round_at K) (k := 2) Fd sc_Round_at (fun cdv A outer s H E rm ds L Ex Kk hl h => b_Round_at c X0 G0 rm h)
  have bN : Binds K fd ["self", "t"] [] := FunD.bindsN Fd fun _ _ _ _ _ _ us hl => match us, hl with | [_, _], _ => rfl
  exact ⟨fd, B, FnB.pos0 B bN, Fd.kp⟩
theorem fg_Round_at : FnG P w K mg base 3 (f_Round_at.ad K) (fun ds L Ex Kk => ds.length = 2 ∧ sp_Round_at K ds L Ex Kk) := by
  obtain ⟨fd, _, z, _⟩ := fb_Round_at c X0 G0
  exact z
theorem mt_Round_at : Mt P w K mg base 3 (He.ga K "Round") "at" (fun ds L Ex Kk => ds.length = 2 ∧ sp_Round_at K ds L Ex Kk) := ⟨cls_Round c, _, me_Round_at c, fg_Round_at c X0 G0⟩
theorem sx_Round_at : Spc P w K mg base 3 (He.ga K "Round") "at" (fun ds L Ex Kk => ds.length = 2 ∧ sp_Round_at K ds L Ex Kk) := ⟨_, (me_Round_at c).at_, (me_Round_at c).fn, fg_Round_at c X0 G0⟩
end
/-! ### Round.shifted -/
theorem sc_Round_shifted : FnScope ["self", "phase", "first", "turned"] ["self", "phase"] (defScope s_Round_shifted) := ⟨rfl, rfl, rfl, by decide +kernel, rfl, by decide +kernel, by decide +kernel⟩
abbrev X_Round_shifted (P : Program) (w : World) (K : PySem.W.Frag) (mg : Str → Option Value) (base : Heap) (f : Addr) (cdv : Value) (A : Around) (outer : List Env) (s : Shared) (H : Hp) (E : XK) : Cx := cxD P w K mg base ["self", "phase", "first", "turned"] "Round.shifted" (defScope s_Round_shifted) f cdv A outer s H E
def sp_Round_shifted (K : PySem.W.Frag) : TSp := fun ds L Ex Kk => ∃ (ns : List Int) (t : Int), ds = [rd K ns, .int t] ∧ ns ≠ [] ∧ ns.length ≤ 12 ∧ (∀ x ∈ ns, 0 ≤ x) ∧ 0 ≤ t ∧ Kk (rd K (rot ns t)) L
section
variable {P : Program} {w : World} {K : PySem.W.Frag} {mg : Str → Option Value} {base : Heap} {f : Addr} {cdv : Value} {A : Around} {outer : List Env} {s : Shared} {H : Hp} {E : XK} {h : Heap}
theorem nm_Round_shifted_0 : Nm (X_Round_shifted P w K mg base f cdv A outer s H E) "self" 0 := ⟨rfl, by first | exact .inl rfl | exact .inr (.inl rfl) | exact .inr (.inr rfl), rfl, rfl⟩
theorem nm_Round_shifted_1 : Nm (X_Round_shifted P w K mg base f cdv A outer s H E) "phase" 1 := ⟨rfl, by first | exact .inl rfl | exact .inr (.inl rfl) | exact .inr (.inr rfl), rfl, rfl⟩
theorem nm_Round_shifted_2 : Nm (X_Round_shifted P w K mg base f cdv A outer s H E) "first" 2 := ⟨rfl, by first | exact .inl rfl | exact .inr (.inl rfl) | exact .inr (.inr rfl), rfl, rfl⟩
theorem nm_Round_shifted_3 : Nm (X_Round_shifted P w K mg base f cdv A outer s H E) "turned" 3 := ⟨rfl, by first | exact .inl rfl | exact .inr (.inl rfl) | exact .inr (.inr rfl), rfl, rfl⟩
theorem ns_Round_shifted_2 : Ns (X_Round_shifted P w K mg base f cdv A outer s H E) "first" 2 := ⟨sc_Round_shifted.nd, rfl, by first | exact .inl rfl | exact .inr rfl, .inl rfl⟩
theorem ns_Round_shifted_3 : Ns (X_Round_shifted P w K mg base f cdv A outer s H E) "turned" 3 := ⟨sc_Round_shifted.nd, rfl, by first | exact .inl rfl | exact .inr rfl, .inl rfl⟩
theorem gl_Round_shifted_Round : Gl (X_Round_shifted P w K mg base f cdv A outer s H E) "Round" := rfl
theorem gl_Round_shifted_at_least : Gl (X_Round_shifted P w K mg base f cdv A outer s H E) "at_least" := rfl
theorem gl_Round_shifted_len : Gl (X_Round_shifted P w K mg base f cdv A outer s H E) "len" := rfl
end
section
variable {P : Program} {w : World} {K : PySem.W.Frag} {mg : Str → Option Value} {base : Heap} {f : Addr} {cdv : Value} {A : Around} {outer : List Env} {s : Shared} {H : Hp} {E : XK} {h : Heap} (c : SaysM fa fn K) (X0 : K.In h) (G0 : h.Ns mainGlobals mg)
include c X0 G0
theorem b_Round_shifted (rm : Rm 5 (X_Round_shifted P w K mg base f cdv A outer s H E).A) {ds : List Dt} {L : Cells} {Ex : XD} {Kk : KD} (h : sp_Round_shifted K ds L Ex Kk) : WSs (X_Round_shifted P w K mg base f cdv A outer s H E) (defBody s_Round_shifted) (gIn ["self", "phase", "first", "turned"] ds) L Ex { nx := fun _ L' => Kk .non L', rt := Kk } := by
  obtain ⟨ns, t, rfl, hne, h12, hx, h0, hK⟩ := h
  have hp := len_pos hne
  have hm := Int.emod_nonneg t (Int.ne_of_gt hp)
  have hm2 := Int.emod_lt_of_pos t hp
  have hrl : (rot ns t).length = ns.length := rot_len hne
  change WSs _ _ [some _, some _, none, none] _ _ _
  refine ws_cons ?_
  refine ws_expr ?_
  refine we_call (cl_at_least c X0 G0) rm (by decide) gl_Round_shifted_at_least ?_
  refine wa_cons ?_
  refine we_nm nm_Round_shifted_1 (.t .h) ?_
  refine wa_cons ?_
  refine we_int ?_
  refine wa_cons ?_
  refine we_str ?_
  refine wa_nil ?_
  refine ⟨rfl, ?_⟩
  refine ⟨_, _, _, rfl, h0, ?_⟩
  refine ws_cons ?_
  refine ws_set ns_Round_shifted_2 ?_
  refine we_bin d_mod ?_
  refine we_nm nm_Round_shifted_1 (.t .h) ?_
  refine we_blt (b_len) ⟨gl_Round_shifted_len, u_len c X0 G0⟩ rfl ?_
  refine wa_cons ?_
  refine we_fld (cls_Round c) (na_Round_budgets c) ?_
  refine we_nm nm_Round_shifted_0 .h ?_
  refine ⟨_, rd_fld, ?_⟩
  refine wa_nil ?_
  first | refine len_iL ?_ | refine len_iT ?_ | refine len_iR ?_ | refine len_iO (by first | assumption | exact Has.upd (by assumption) | exact .h | exact .t (by assumption) | exact .t (Has.upd (by assumption)) | exact .t .h | exact .t (.t .h)) ?_ | refine len_lst ?_ | refine len_tup ?_
  refine rIIc (by omega) ?_
  refine ⟨_, (.t (.t .h)), ?_⟩
  refine ws_cons ?_
  refine ws_set ns_Round_shifted_3 ?_
  refine we_bin d_plus ?_
  refine we_sl ?_
  refine we_fld (cls_Round c) (na_Round_budgets c) ?_
  refine we_nm nm_Round_shifted_0 .h ?_
  refine ⟨_, rd_fld, ?_⟩
  refine wo_some ?_
  refine we_nm nm_Round_shifted_2 (.t (.t .h)) ?_
  refine ⟨_, rfl, ?_⟩
  refine wo_none ?_
  refine sl_iT ?_
  rw [cutI_from hm]
  refine we_sl ?_
  refine we_fld (cls_Round c) (na_Round_budgets c) ?_
  refine we_nm nm_Round_shifted_0 .h ?_
  refine ⟨_, rd_fld, ?_⟩
  refine wo_none ?_
  refine wo_some ?_
  refine we_nm nm_Round_shifted_2 (.t (.t .h)) ?_
  refine ⟨_, rfl, ?_⟩
  refine sl_iT ?_
  rw [cutI_to hm]
  refine plus_iT (by simp only [List.length_drop, List.length_take]; omega) ?_
  refine ⟨_, (.t (.t (.t .h))), ?_⟩
  refine ws_one ?_
  refine ws_ret ?_
  refine we_frzI ?_
  refine we_makeS (mk_Round c X0 G0) rm (by decide) gl_Round_shifted_Round ?_
  refine we_nm nm_Round_shifted_3 (.t (.t (.t .h))) ?_
  refine ⟨_, .inr rfl, fun a => ?_⟩
  refine ⟨by simp, by simp; omega, a, rot ns t, _, rfl, by omega, by omega, fun x h => hx x (rot_mem h), .h, rfl, _, _, _, _, _, rfl, rfl, ?_⟩
  exact hK
theorem fb_Round_shifted : ∃ fd, FnB P w K mg base 6 (f_Round_shifted.ad K) fd ["self", "phase"] (sp_Round_shifted K) ∧ FnG P w K mg base 6 (f_Round_shifted.ad K) (fun ds L Ex Kk => ds.length = 2 ∧ sp_Round_shifted K ds L Ex Kk) ∧ PySem.W.keepIn K (.ref (f_Round_shifted.ad K)) = true := by
  obtain ⟨fd, Fd⟩ := c.dfn 9 (t := f_Round_shifted) rfl
  have B := fn_body (P := P) (w := w) (mg := mg) (base := base) (sp := sp_Round_shifted K) (k := 5) Fd sc_Round_shifted (fun cdv A outer s H E rm ds L Ex Kk hl h => b_Round_shifted c X0 G0 rm h)
  have bN : Binds K fd ["self", "phase"] [] := FunD.bindsN Fd fun _ _ _ _ _ _ us hl => match us, hl with | [_, _], _ => rfl
  exact ⟨fd, B, FnB.pos0 B bN, Fd.kp⟩
theorem fg_Round_shifted : FnG P w K mg base 6 (f_Round_shifted.ad K) (fun ds L Ex Kk => ds.length = 2 ∧ sp_Round_shifted K ds L Ex Kk) := by
  obtain ⟨fd, _, z, _⟩ := fb_Round_shifted c X0 G0
  exact z
theorem mt_Round_shifted : Mt P w K mg base 6 (He.ga K "Round") "shifted" (fun ds L Ex Kk => ds.length = 2 ∧ sp_Round_shifted K ds L Ex Kk) := ⟨cls_Round c, _, me_Round_shifted c, fg_Round_shifted c X0 G0⟩
theorem sx_Round_shifted : Spc P w K mg base 6 (He.ga K "Round") "shifted" (fun ds L Ex Kk => ds.length = 2 ∧ sp_Round_shifted K ds L Ex Kk) := ⟨_, (me_Round_shifted c).at_, (me_Round_shifted c).fn, fg_Round_shifted c X0 G0⟩
end
/-! ### Round._window -/
theorem sc_Round_window : FnScope ["self", "start", "count", "turns", "rest", "first", "twice"] ["self", "start", "count"] (defScope s_Round_window) := ⟨rfl, rfl, rfl, by decide +kernel, rfl, by decide +kernel, by decide +kernel⟩
abbrev X_Round_window (P : Program) (w : World) (K : PySem.W.Frag) (mg : Str → Option Value) (base : Heap) (f : Addr) (cdv : Value) (A : Around) (outer : List Env) (s : Shared) (H : Hp) (E : XK) : Cx := cxD P w K mg base ["self", "start", "count", "turns", "rest", "first", "twice"] "Round._window" (defScope s_Round_window) f cdv A outer s H E
def sp_Round_window (K : PySem.W.Frag) : TSp := fun ds L Ex Kk => ∃ (ns : List Int) (s n : Int), ds = [rd K ns, .int s, .int n] ∧ ns ≠ [] ∧ ns.length ≤ 12 ∧ (∀ x ∈ ns, 0 ≤ x ∧ x ≤ 10 ^ 60) ∧ 0 ≤ s ∧ 0 ≤ n ∧ n ≤ 10 ^ 60 ∧ Kk (.int (win ns s n)) L
section
variable {P : Program} {w : World} {K : PySem.W.Frag} {mg : Str → Option Value} {base : Heap} {f : Addr} {cdv : Value} {A : Around} {outer : List Env} {s : Shared} {H : Hp} {E : XK} {h : Heap}
theorem nm_Round_window_0 : Nm (X_Round_window P w K mg base f cdv A outer s H E) "self" 0 := ⟨rfl, by first | exact .inl rfl | exact .inr (.inl rfl) | exact .inr (.inr rfl), rfl, rfl⟩
theorem nm_Round_window_1 : Nm (X_Round_window P w K mg base f cdv A outer s H E) "start" 1 := ⟨rfl, by first | exact .inl rfl | exact .inr (.inl rfl) | exact .inr (.inr rfl), rfl, rfl⟩
theorem nm_Round_window_2 : Nm (X_Round_window P w K mg base f cdv A outer s H E) "count" 2 := ⟨rfl, by first | exact .inl rfl | exact .inr (.inl rfl) | exact .inr (.inr rfl), rfl, rfl⟩
theorem nm_Round_window_3 : Nm (X_Round_window P w K mg base f cdv A outer s H E) "turns" 3 := ⟨rfl, by first | exact .inl rfl | exact .inr (.inl rfl) | exact .inr (.inr rfl), rfl, rfl⟩
theorem nm_Round_window_4 : Nm (X_Round_window P w K mg base f cdv A outer s H E) "rest" 4 := ⟨rfl, by first | exact .inl rfl | exact .inr (.inl rfl) | exact .inr (.inr rfl), rfl, rfl⟩
theorem nm_Round_window_5 : Nm (X_Round_window P w K mg base f cdv A outer s H E) "first" 5 := ⟨rfl, by first | exact .inl rfl | exact .inr (.inl rfl) | exact .inr (.inr rfl), rfl, rfl⟩
theorem nm_Round_window_6 : Nm (X_Round_window P w K mg base f cdv A outer s H E) "twice" 6 := ⟨rfl, by first | exact .inl rfl | exact .inr (.inl rfl) | exact .inr (.inr rfl), rfl, rfl⟩
theorem ns_Round_window_3 : Ns (X_Round_window P w K mg base f cdv A outer s H E) "turns" 3 := ⟨sc_Round_window.nd, rfl, by first | exact .inl rfl | exact .inr rfl, .inl rfl⟩
theorem ns_Round_window_4 : Ns (X_Round_window P w K mg base f cdv A outer s H E) "rest" 4 := ⟨sc_Round_window.nd, rfl, by first | exact .inl rfl | exact .inr rfl, .inl rfl⟩
theorem ns_Round_window_5 : Ns (X_Round_window P w K mg base f cdv A outer s H E) "first" 5 := ⟨sc_Round_window.nd, rfl, by first | exact .inl rfl | exact .inr rfl, .inl rfl⟩
theorem ns_Round_window_6 : Ns (X_Round_window P w K mg base f cdv A outer s H E) "twice" 6 := ⟨sc_Round_window.nd, rfl, by first | exact .inl rfl | exact .inr rfl, .inl rfl⟩
theorem gl_Round_window_divmod : Gl (X_Round_window P w K mg base f cdv A outer s H E) "divmod" := rfl
theorem gl_Round_window_len : Gl (X_Round_window P w K mg base f cdv A outer s H E) "len" := rfl
theorem gl_Round_window_sum : Gl (X_Round_window P w K mg base f cdv A outer s H E) "sum" := rfl
end
section
variable {P : Program} {w : World} {K : PySem.W.Frag} {mg : Str → Option Value} {base : Heap} {f : Addr} {cdv : Value} {A : Around} {outer : List Env} {s : Shared} {H : Hp} {E : XK} {h : Heap} (c : SaysM fa fn K) (X0 : K.In h) (G0 : h.Ns mainGlobals mg)
include c X0 G0
theorem b_Round_window (rm : Rm 5 (X_Round_window P w K mg base f cdv A outer s H E).A) {ds : List Dt} {L : Cells} {Ex : XD} {Kk : KD} (h : sp_Round_window K ds L Ex Kk) : WSs (X_Round_window P w K mg base f cdv A outer s H E) (defBody s_Round_window) (gIn ["self", "start", "count", "turns", "rest", "first", "twice"] ds) L Ex { nx := fun _ L' => Kk .non L', rt := Kk } := by
  obtain ⟨ns, st, n, rfl, hne, h12, hx, hs, hn, hn2, hK⟩ := h
  have hp := len_pos hne
  have hm := Int.emod_nonneg st (Int.ne_of_gt hp)
  have hm2 := Int.emod_lt_of_pos st hp
  have hr := Int.emod_nonneg n (Int.ne_of_gt hp)
  have hr2 := Int.emod_lt_of_pos n hp
  have hd := Int.ediv_nonneg hn (Int.le_of_lt hp)
  have hd2 := Int.ediv_le_self (b := ns.length) hn
  have hsm := sum_bnd hx h12 (by decide)
  change WSs _ _ [some _, some _, some _, none, none, none, none] _ _ _
  refine ws_cons ?_
  refine ws_asg ?_
  refine we_blt (b_divmod) ⟨gl_Round_window_divmod, u_divmod c X0 G0⟩ rfl ?_
  refine wa_cons ?_
  refine we_nm nm_Round_window_2 (.t (.t .h)) ?_
  refine wa_cons ?_
  refine we_blt (b_len) ⟨gl_Round_window_len, u_len c X0 G0⟩ rfl ?_
  refine wa_cons ?_
  refine we_fld (cls_Round c) (na_Round_budgets c) ?_
  refine we_nm nm_Round_window_0 .h ?_
  refine ⟨_, rd_fld, ?_⟩
  refine wa_nil ?_
  first | refine len_iL ?_ | refine len_iT ?_ | refine len_iR ?_ | refine len_iO (by first | assumption | exact Has.upd (by assumption) | exact .h | exact .t (by assumption) | exact .t (Has.upd (by assumption)) | exact .t .h | exact .t (.t .h)) ?_ | refine len_lst ?_ | refine len_tup ?_
  refine wa_nil ?_
  refine i2 ⟨by omega, by omega⟩ ?_
  refine wg_tup rfl (by rfl) ?_
  refine wgs_cons ?_
  refine wg_name ns_Round_window_3 (.t (.t (.t .h))) ?_
  refine wgs_cons ?_
  refine wg_name ns_Round_window_4 (.t (.t (.t (.t .h)))) ?_
  refine wgs_nil ?_
  refine ws_cons ?_
  refine ws_set ns_Round_window_5 ?_
  refine we_bin d_mod ?_
  refine we_nm nm_Round_window_1 (.t .h) ?_
  refine we_blt (b_len) ⟨gl_Round_window_len, u_len c X0 G0⟩ rfl ?_
  refine wa_cons ?_
  refine we_fld (cls_Round c) (na_Round_budgets c) ?_
  refine we_nm nm_Round_window_0 .h ?_
  refine ⟨_, rd_fld, ?_⟩
  refine wa_nil ?_
  first | refine len_iL ?_ | refine len_iT ?_ | refine len_iR ?_ | refine len_iO (by first | assumption | exact Has.upd (by assumption) | exact .h | exact .t (by assumption) | exact .t (Has.upd (by assumption)) | exact .t .h | exact .t (.t .h)) ?_ | refine len_lst ?_ | refine len_tup ?_
  refine rIIc (by omega) ?_
  refine ⟨_, (.t (.t (.t (.t (.t .h))))), ?_⟩
  refine ws_cons ?_
  refine ws_set ns_Round_window_6 ?_
  refine we_bin d_plus ?_
  refine we_fld (cls_Round c) (na_Round_budgets c) ?_
  refine we_nm nm_Round_window_0 .h ?_
  refine ⟨_, rd_fld, ?_⟩
  refine we_fld (cls_Round c) (na_Round_budgets c) ?_
  refine we_nm nm_Round_window_0 .h ?_
  refine ⟨_, rd_fld, ?_⟩
  first | refine plus_int ?_ | refine plus_iL (by (try simp only [List.length_append, List.length_cons, List.length_nil]); omega) ?_ | refine plus_iT (by omega) ?_ | refine plus_iL1 (by omega) ?_
  refine ⟨_, (.t (.t (.t (.t (.t (.t .h)))))), ?_⟩
  refine ws_one ?_
  refine ws_ret ?_
  refine we_bin d_plus ?_
  refine we_bin d_mulW ?_
  refine we_nm nm_Round_window_3 (.t (.t (.t .h))) ?_
  refine we_blt (b_sum rfl) ⟨gl_Round_window_sum, u_sum c X0 G0⟩ rfl ?_
  refine wa_cons ?_
  refine we_fld (cls_Round c) (na_Round_budgets c) ?_
  refine we_nm nm_Round_window_0 .h ?_
  refine ⟨_, rd_fld, ?_⟩
  refine wa_nil ?_
  first | refine sum_lst ?_ | refine sum_rdl ?_ | refine sum_tup ?_
  refine rIIc (cmw ⟨by omega, by omega⟩ ⟨by omega, by omega⟩) ?_
  refine we_blt (b_sum rfl) ⟨gl_Round_window_sum, u_sum c X0 G0⟩ rfl ?_
  refine wa_cons ?_
  refine we_sl ?_
  refine we_nm nm_Round_window_6 (.t (.t (.t (.t (.t (.t .h)))))) ?_
  refine wo_some ?_
  refine we_nm nm_Round_window_5 (.t (.t (.t (.t (.t .h))))) ?_
  refine ⟨_, rfl, ?_⟩
  refine wo_some ?_
  refine we_bin d_plus ?_
  refine we_nm nm_Round_window_5 (.t (.t (.t (.t (.t .h))))) ?_
  refine we_nm nm_Round_window_4 (.t (.t (.t (.t .h)))) ?_
  first | refine plus_int ?_ | refine plus_iL (by (try simp only [List.length_append, List.length_cons, List.length_nil]); omega) ?_ | refine plus_iT (by omega) ?_ | refine plus_iL1 (by omega) ?_
  refine ⟨_, rfl, ?_⟩
  refine sl_iT ?_
  rw [cutI_mid hm (by omega)]
  refine wa_nil ?_
  first | refine sum_lst ?_ | refine sum_rdl ?_ | refine sum_tup ?_
  first | refine plus_int ?_ | refine plus_iL (by (try simp only [List.length_append, List.length_cons, List.length_nil]); omega) ?_ | refine plus_iT (by omega) ?_ | refine plus_iL1 (by omega) ?_
  exact hK
theorem fb_Round_window : ∃ fd, FnB P w K mg base 6 (f_Round_window.ad K) fd ["self", "start", "count"] (sp_Round_window K) ∧ FnG P w K mg base 6 (f_Round_window.ad K) (fun ds L Ex Kk => ds.length = 3 ∧ sp_Round_window K ds L Ex Kk) ∧ PySem.W.keepIn K (.ref (f_Round_window.ad K)) = true := by
  obtain ⟨fd, Fd⟩ := c.dfn 10 (t := f_Round_window) rfl
  have B := fn_body (P := P) (w := w) (mg := mg) (base := base) (sp := sp_Round_window K) (k := 5) Fd sc_Round_window (fun cdv A outer s H E rm ds L Ex Kk hl h => b_Round_window c X0 G0 rm h)
  have bN : Binds K fd ["self", "start", "count"] [] := FunD.bindsN Fd fun _ _ _ _ _ _ us hl => match us, hl with | [_, _, _], _ => rfl
  exact ⟨fd, B, FnB.pos0 B bN, Fd.kp⟩
theorem fg_Round_window : FnG P w K mg base 6 (f_Round_window.ad K) (fun ds L Ex Kk => ds.length = 3 ∧ sp_Round_window K ds L Ex Kk) := by
  obtain ⟨fd, _, z, _⟩ := fb_Round_window c X0 G0
  exact z
theorem mt_Round_window : Mt P w K mg base 6 (He.ga K "Round") "_window" (fun ds L Ex Kk => ds.length = 3 ∧ sp_Round_window K ds L Ex Kk) := ⟨cls_Round c, _, me_Round_window c, fg_Round_window c X0 G0⟩
theorem sx_Round_window : Spc P w K mg base 6 (He.ga K "Round") "_window" (fun ds L Ex Kk => ds.length = 3 ∧ sp_Round_window K ds L Ex Kk) := ⟨_, (me_Round_window c).at_, (me_Round_window c).fn, fg_Round_window c X0 G0⟩
end
/-! ### Round.total -/
theorem sc_Round_total : FnScope ["self", "start", "count"] ["self", "start", "count"] (defScope s_Round_total) := ⟨rfl, rfl, rfl, by decide +kernel, rfl, by decide +kernel, by decide +kernel⟩
abbrev X_Round_total (P : Program) (w : World) (K : PySem.W.Frag) (mg : Str → Option Value) (base : Heap) (f : Addr) (cdv : Value) (A : Around) (outer : List Env) (s : Shared) (H : Hp) (E : XK) : Cx := cxD P w K mg base ["self", "start", "count"] "Round.total" (defScope s_Round_total) f cdv A outer s H E
def sp_Round_total (K : PySem.W.Frag) : TSp := fun ds L Ex Kk => ∃ (ns : List Int) (s n : Int), ds = [rd K ns, .int s, .int n] ∧ ns ≠ [] ∧ ns.length ≤ 12 ∧ (∀ x ∈ ns, 0 ≤ x ∧ x ≤ 10 ^ 60) ∧ 0 ≤ s ∧ 0 ≤ n ∧ n ≤ 10 ^ 60 ∧ Kk (.int (win ns s n)) L
section
variable {P : Program} {w : World} {K : PySem.W.Frag} {mg : Str → Option Value} {base : Heap} {f : Addr} {cdv : Value} {A : Around} {outer : List Env} {s : Shared} {H : Hp} {E : XK} {h : Heap}
theorem nm_Round_total_0 : Nm (X_Round_total P w K mg base f cdv A outer s H E) "self" 0 := ⟨rfl, by first | exact .inl rfl | exact .inr (.inl rfl) | exact .inr (.inr rfl), rfl, rfl⟩
theorem nm_Round_total_1 : Nm (X_Round_total P w K mg base f cdv A outer s H E) "start" 1 := ⟨rfl, by first | exact .inl rfl | exact .inr (.inl rfl) | exact .inr (.inr rfl), rfl, rfl⟩
theorem nm_Round_total_2 : Nm (X_Round_total P w K mg base f cdv A outer s H E) "count" 2 := ⟨rfl, by first | exact .inl rfl | exact .inr (.inl rfl) | exact .inr (.inr rfl), rfl, rfl⟩
theorem gl_Round_total_at_least : Gl (X_Round_total P w K mg base f cdv A outer s H E) "at_least" := rfl
end
section
variable {P : Program} {w : World} {K : PySem.W.Frag} {mg : Str → Option Value} {base : Heap} {f : Addr} {cdv : Value} {A : Around} {outer : List Env} {s : Shared} {H : Hp} {E : XK} {h : Heap} (c : SaysM fa fn K) (X0 : K.In h) (G0 : h.Ns mainGlobals mg)
include c X0 G0
theorem b_Round_total (rm : Rm 6 (X_Round_total P w K mg base f cdv A outer s H E).A) {ds : List Dt} {L : Cells} {Ex : XD} {Kk : KD} (h : sp_Round_total K ds L Ex Kk) : WSs (X_Round_total P w K mg base f cdv A outer s H E) (defBody s_Round_total) (gIn ["self", "start", "count"] ds) L Ex { nx := fun _ L' => Kk .non L', rt := Kk } := by
  obtain ⟨ns, st, n, rfl, hne, h12, hx, hs, hn, hn2, hK⟩ := h
  change WSs _ _ [some _, some _, some _] _ _ _
  refine ws_cons ?_
  refine ws_expr ?_
  refine we_call (cl_at_least c X0 G0) rm (by decide) gl_Round_total_at_least ?_
  refine wa_cons ?_
  refine we_nm nm_Round_total_1 (.t .h) ?_
  refine wa_cons ?_
  refine we_int ?_
  refine wa_cons ?_
  refine we_str ?_
  refine wa_nil ?_
  refine ⟨rfl, ?_⟩
  refine ⟨_, _, _, rfl, hs, ?_⟩
  refine ws_cons ?_
  refine ws_expr ?_
  refine we_call (cl_at_least c X0 G0) rm (by decide) gl_Round_total_at_least ?_
  refine wa_cons ?_
  refine we_nm nm_Round_total_2 (.t (.t .h)) ?_
  refine wa_cons ?_
  refine we_int ?_
  refine wa_cons ?_
  refine we_str ?_
  refine wa_nil ?_
  refine ⟨rfl, ?_⟩
  refine ⟨_, _, _, rfl, hn, ?_⟩
  refine ws_one ?_
  refine ws_ret ?_
  refine we_meth (mt_Round_window c X0 G0) rm (by decide) ?_
  refine we_nm nm_Round_total_0 .h ?_
  refine ⟨rd_notin (by decide), ?_⟩
  refine wa_cons ?_
  refine we_nm nm_Round_total_1 (.t .h) ?_
  refine wa_cons ?_
  refine we_nm nm_Round_total_2 (.t (.t .h)) ?_
  refine wa_nil ?_
  refine ⟨rfl, ?_⟩
  refine ⟨_, _, _, rfl, hne, h12, hx, hs, hn, hn2, ?_⟩
  exact hK
theorem fb_Round_total : ∃ fd, FnB P w K mg base 7 (f_Round_total.ad K) fd ["self", "start", "count"] (sp_Round_total K) ∧ FnG P w K mg base 7 (f_Round_total.ad K) (fun ds L Ex Kk => ds.length = 3 ∧ sp_Round_total K ds L Ex Kk) ∧ PySem.W.keepIn K (.ref (f_Round_total.ad K)) = true := by
  obtain ⟨fd, Fd⟩ := c.dfn 11 (t := f_Round_total) rfl
  have B := fn_body (P := P) (w := w) (mg := mg) (base := base) (sp := sp_Round_total K) (k := 6) Fd sc_Round_total (fun cdv A outer s H E rm ds L Ex Kk hl h => b_Round_total c X0 G0 rm h)
  have bN : Binds K fd ["self", "start", "count"] [] := FunD.bindsN Fd fun _ _ _ _ _ _ us hl => match us, hl with | [_, _, _], _ => rfl
  exact ⟨fd, B, FnB.pos0 B bN, Fd.kp⟩
theorem fg_Round_total : FnG P w K mg base 7 (f_Round_total.ad K) (fun ds L Ex Kk => ds.length = 3 ∧ sp_Round_total K ds L Ex Kk) := by
  obtain ⟨fd, _, z, _⟩ := fb_Round_total c X0 G0
  exact z
theorem mt_Round_total : Mt P w K mg base 7 (He.ga K "Round") "total" (fun ds L Ex Kk => ds.length = 3 ∧ sp_Round_total K ds L Ex Kk) := ⟨cls_Round c, _, me_Round_total c, fg_Round_total c X0 G0⟩
theorem sx_Round_total : Spc P w K mg base 7 (He.ga K "Round") "total" (fun ds L Ex Kk => ds.length = 3 ∧ sp_Round_total K ds L Ex Kk) := ⟨_, (me_Round_total c).at_, (me_Round_total c).fn, fg_Round_total c X0 G0⟩
end
/-! ### _law_is_number -/
theorem sc_l_is_number : FnScope ["_law_told"] ["_law_told"] (defScope s_l_is_number) := ⟨rfl, rfl, rfl, by decide +kernel, rfl, by decide +kernel, by decide +kernel⟩
abbrev X_l_is_number (P : Program) (w : World) (K : PySem.W.Frag) (mg : Str → Option Value) (base : Heap) (f : Addr) (cdv : Value) (A : Around) (outer : List Env) (s : Shared) (H : Hp) (E : XK) : Cx := cxD P w K mg base ["_law_told"] "_law_is_number" (defScope s_l_is_number) f cdv A outer s H E
def sp_l_is_number (K : PySem.W.Frag) : TSp := fun ds L Ex Kk => ∃ (v : Int), ds = [.int v] ∧ Kk (.bl true) L
section
variable {P : Program} {w : World} {K : PySem.W.Frag} {mg : Str → Option Value} {base : Heap} {f : Addr} {cdv : Value} {A : Around} {outer : List Env} {s : Shared} {H : Hp} {E : XK} {h : Heap}
theorem nm_l_is_number_0 : Nm (X_l_is_number P w K mg base f cdv A outer s H E) "_law_told" 0 := ⟨rfl, by first | exact .inl rfl | exact .inr (.inl rfl) | exact .inr (.inr rfl), rfl, rfl⟩
theorem gl_l_is_number_bool : Gl (X_l_is_number P w K mg base f cdv A outer s H E) "bool" := rfl
theorem gl_l_is_number_int : Gl (X_l_is_number P w K mg base f cdv A outer s H E) "int" := rfl
theorem gl_l_is_number_isinstance : Gl (X_l_is_number P w K mg base f cdv A outer s H E) "isinstance" := rfl
end
section
variable {P : Program} {w : World} {K : PySem.W.Frag} {mg : Str → Option Value} {base : Heap} {f : Addr} {cdv : Value} {A : Around} {outer : List Env} {s : Shared} {H : Hp} {E : XK} {h : Heap} (c : SaysM fa fn K) (X0 : K.In h) (G0 : h.Ns mainGlobals mg)
include c X0 G0
theorem b_l_is_number (rm : Rm 0 (X_l_is_number P w K mg base f cdv A outer s H E).A) {ds : List Dt} {L : Cells} {Ex : XD} {Kk : KD} (h : sp_l_is_number K ds L Ex Kk) : WSs (X_l_is_number P w K mg base f cdv A outer s H E) (defBody s_l_is_number) (gIn ["_law_told"] ds) L Ex { nx := fun _ L' => Kk .non L', rt := Kk } := by
  obtain ⟨v, rfl, hK⟩ := h
  change WSs _ _ [some _] _ _ _
  refine ws_one ?_
  refine ws_ret ?_
  refine we_and ?_
  refine we_blt (b_isi) ⟨gl_l_is_number_isinstance, u_isinstance c X0 G0⟩ rfl ?_
  refine wa_cons ?_
  refine we_nm nm_l_is_number_0 .h ?_
  refine wa_cons ?_
  refine we_btn ⟨gl_l_is_number_int, u_int c X0 G0⟩ rfl ?_
  refine wa_nil ?_
  refine ⟨_, _, _, _, _, rfl, .ty _, .int _, kit_int_int, ?_⟩
  refine ⟨_, rfl, ?_⟩
  refine t_t rfl ?_
  refine we_one ?_
  refine we_not ?_
  refine we_blt (b_isi) ⟨gl_l_is_number_isinstance, u_isinstance c X0 G0⟩ rfl ?_
  refine wa_cons ?_
  refine we_nm nm_l_is_number_0 .h ?_
  refine wa_cons ?_
  refine we_btn ⟨gl_l_is_number_bool, u_bool c X0 G0⟩ rfl ?_
  refine wa_nil ?_
  refine ⟨_, _, _, _, _, rfl, .ty _, .int _, kit_int_bool, ?_⟩
  refine ⟨_, rfl, ?_⟩
  exact hK
theorem fb_l_is_number : ∃ fd, FnB P w K mg base 1 (f_l_is_number.ad K) fd ["_law_told"] (sp_l_is_number K) ∧ FnG P w K mg base 1 (f_l_is_number.ad K) (fun ds L Ex Kk => ds.length = 1 ∧ sp_l_is_number K ds L Ex Kk) ∧ PySem.W.keepIn K (.ref (f_l_is_number.ad K)) = true := by
  obtain ⟨fd, Fd⟩ := c.dfn 12 (t := f_l_is_number) rfl
  have B := fn_body (P := P) (w := w) (mg := mg) (base := base) (sp := sp_l_is_number K) (k := 0) Fd sc_l_is_number (fun cdv A outer s H E rm ds L Ex Kk hl h => b_l_is_number c X0 G0 rm h)
  have bN : Binds K fd ["_law_told"] [] := FunD.bindsN Fd fun _ _ _ _ _ _ us hl => match us, hl with | [_], _ => rfl
  exact ⟨fd, B, FnB.pos0 B bN, Fd.kp⟩
theorem fg_l_is_number : FnG P w K mg base 1 (f_l_is_number.ad K) (fun ds L Ex Kk => ds.length = 1 ∧ sp_l_is_number K ds L Ex Kk) := by
  obtain ⟨fd, _, z, _⟩ := fb_l_is_number c X0 G0
  exact z
theorem cl_l_is_number : Cl P w K mg base 1 "_law_is_number" (fun ds L Ex Kk => ds.length = 1 ∧ sp_l_is_number K ds L Ex Kk) := by
  obtain ⟨fd, _, z, kp⟩ := fb_l_is_number c X0 G0
  exact ⟨⟨_, z, g_l_is_number c X0 G0, kp⟩, rfl⟩
end
/-! ### _law_bag -/
theorem sc_l_bag : FnScope ["_law_script", "_law_k", "_law_cell", "_law_seed"] ["_law_script", "_law_k"] (defScope s_l_bag) := ⟨rfl, rfl, rfl, by decide +kernel, rfl, by decide +kernel, by decide +kernel⟩
abbrev X_l_bag (P : Program) (w : World) (K : PySem.W.Frag) (mg : Str → Option Value) (base : Heap) (f : Addr) (cdv : Value) (A : Around) (outer : List Env) (s : Shared) (H : Hp) (E : XK) : Cx := cxD P w K mg base ["_law_script", "_law_k", "_law_cell", "_law_seed"] "_law_bag" (defScope s_l_bag) f cdv A outer s H E
def sp_l_bag (K : PySem.W.Frag) : TSp := fun ds L Ex Kk => ∃ (ns : List Int) (k : Int), ds = [.rdl (ns.map Dt.int), .int k] ∧ 0 ≤ k ∧ ∀ a x c s, Kk (.ref a) ((a, Bag x c s) :: L)
section
variable {P : Program} {w : World} {K : PySem.W.Frag} {mg : Str → Option Value} {base : Heap} {f : Addr} {cdv : Value} {A : Around} {outer : List Env} {s : Shared} {H : Hp} {E : XK} {h : Heap}
theorem nm_l_bag_0 : Nm (X_l_bag P w K mg base f cdv A outer s H E) "_law_script" 0 := ⟨rfl, by first | exact .inl rfl | exact .inr (.inl rfl) | exact .inr (.inr rfl), rfl, rfl⟩
theorem nm_l_bag_1 : Nm (X_l_bag P w K mg base f cdv A outer s H E) "_law_k" 1 := ⟨rfl, by first | exact .inl rfl | exact .inr (.inl rfl) | exact .inr (.inr rfl), rfl, rfl⟩
theorem nm_l_bag_2 : Nm (X_l_bag P w K mg base f cdv A outer s H E) "_law_cell" 2 := ⟨rfl, by first | exact .inl rfl | exact .inr (.inl rfl) | exact .inr (.inr rfl), rfl, rfl⟩
theorem nm_l_bag_3 : Nm (X_l_bag P w K mg base f cdv A outer s H E) "_law_seed" 3 := ⟨rfl, by first | exact .inl rfl | exact .inr (.inl rfl) | exact .inr (.inr rfl), rfl, rfl⟩
theorem ns_l_bag_2 : Ns (X_l_bag P w K mg base f cdv A outer s H E) "_law_cell" 2 := ⟨sc_l_bag.nd, rfl, by first | exact .inl rfl | exact .inr rfl, .inl rfl⟩
theorem ns_l_bag_3 : Ns (X_l_bag P w K mg base f cdv A outer s H E) "_law_seed" 3 := ⟨sc_l_bag.nd, rfl, by first | exact .inl rfl | exact .inr rfl, .inl rfl⟩
theorem gl_l_bag_abs : Gl (X_l_bag P w K mg base f cdv A outer s H E) "abs" := rfl
theorem gl_l_bag_int : Gl (X_l_bag P w K mg base f cdv A outer s H E) "int" := rfl
theorem gl_l_bag_len : Gl (X_l_bag P w K mg base f cdv A outer s H E) "len" := rfl
theorem gl_l_bag_sum : Gl (X_l_bag P w K mg base f cdv A outer s H E) "sum" := rfl
end
section
variable {P : Program} {w : World} {K : PySem.W.Frag} {mg : Str → Option Value} {base : Heap} {f : Addr} {cdv : Value} {A : Around} {outer : List Env} {s : Shared} {H : Hp} {E : XK} {h : Heap} (c : SaysM fa fn K) (X0 : K.In h) (G0 : h.Ns mainGlobals mg)
include c X0 G0
theorem b_l_bag (rm : Rm 5 (X_l_bag P w K mg base f cdv A outer s H E).A) {ds : List Dt} {L : Cells} {Ex : XD} {Kk : KD} (h : sp_l_bag K ds L Ex Kk) : WSs (X_l_bag P w K mg base f cdv A outer s H E) (defBody s_l_bag) (gIn ["_law_script", "_law_k", "_law_cell", "_law_seed"] ds) L Ex { nx := fun _ L' => Kk .non L', rt := Kk } := by
  obtain ⟨ns, k, rfl, h0, hK⟩ := h
  change WSs _ _ [some _, some _, none, none] _ _ _
  refine ws_cons ?_
  refine ws_set ns_l_bag_2 ?_
  refine we_int ?_
  refine ⟨_, (.t (.t .h)), ?_⟩
  refine ws_cons ?_
  refine ws_set ns_l_bag_3 ?_
  refine we_bin d_plus ?_
  refine we_bin d_mul ?_
  refine we_bin d_mod ?_
  refine we_bty (b_int) ⟨gl_l_bag_int, u_int c X0 G0⟩ rfl ?_
  refine wa_cons ?_
  refine we_blt (b_sum rfl) ⟨gl_l_bag_sum, u_sum c X0 G0⟩ rfl ?_
  refine wa_cons ?_
  refine we_nm nm_l_bag_0 .h ?_
  refine wa_nil ?_
  first | refine sum_lst ?_ | refine sum_rdl ?_ | refine sum_tup ?_
  refine wa_nil ?_
  first | refine int_int ?_ | refine int_bl ?_
  refine we_int ?_
  refine rIIc (by omega) ?_
  refine we_int ?_
  refine rIIc (by first | exact Or.inr ⟨by omega, by omega⟩ | exact Or.inl ⟨by omega, by omega⟩) ?_
  refine we_bin d_mul ?_
  refine we_int ?_
  refine we_nm nm_l_bag_1 (.t .h) ?_
  refine rIIc (by first | exact Or.inr ⟨by omega, by omega⟩ | exact Or.inl ⟨by omega, by omega⟩) ?_
  first | refine plus_int ?_ | refine plus_iL (by (try simp only [List.length_append, List.length_cons, List.length_nil]); omega) ?_ | refine plus_iT (by omega) ?_ | refine plus_iL1 (by omega) ?_
  refine ⟨_, (.t (.t (.t .h))), ?_⟩
  refine ws_cut (fun Γ' L' => (∃ x s : Int, Γ' = [some (.rdl (ns.map Dt.int)), some (.int k), some (.int x), some (.int s)]) ∧ L = L') ?_ ?_
  · skip
    refine ws_if ?_
    refine wt_cmp d_lt ?_
    refine we_nm nm_l_bag_1 (.t .h) ?_
    refine we_blt (b_len) ⟨gl_l_bag_len, u_len c X0 G0⟩ rfl ?_
    refine wa_cons ?_
    refine we_nm nm_l_bag_0 .h ?_
    refine wa_nil ?_
    first | refine len_iL ?_ | refine len_iT ?_ | refine len_iR ?_ | refine len_iO (by first | assumption | exact Has.upd (by assumption) | exact .h | exact .t (by assumption) | exact .t (Has.upd (by assumption)) | exact .t .h | exact .t (.t .h)) ?_ | refine len_lst ?_ | refine len_tup ?_
    refine rII0 ?_
    refine ⟨_, rfl, ?_⟩
    first | refine tf (fun hif3 => ?_) (fun hif3 => ?_) | refine tfn (fun hif3 => ?_) (fun hif3 => ?_) | refine tb (fun hif3 => ?_) (fun hif3 => ?_)
    · skip
      refine ws_cons ?_
      refine ws_set ns_l_bag_2 ?_
      refine we_blt (b_abs) ⟨gl_l_bag_abs, u_abs c X0 G0⟩ rfl ?_
      refine wa_cons ?_
      refine we_bty (b_int) ⟨gl_l_bag_int, u_int c X0 G0⟩ rfl ?_
      refine wa_cons ?_
      refine we_ix ix_d ?_
      refine we_nm nm_l_bag_0 .h ?_
      refine we_nm nm_l_bag_1 (.t .h) ?_
      first | refine ixd_own (by first | assumption | exact Has.upd (by assumption) | exact .h | exact .t (by assumption) | exact .t (Has.upd (by assumption)) | exact .t .h | exact .t (.t .h)) rfl ?_ | refine ixd_lst rfl ?_ | refine ixd_tup rfl ?_ | refine ix_iL (by omega) (by omega) ?_ | refine ix_iT (by omega) (by omega) ?_ | refine ix_iR (by omega) (by omega) ?_ | refine ix_iO (by first | assumption | exact Has.upd (by assumption) | exact .h | exact .t (by assumption) | exact .t (Has.upd (by assumption)) | exact .t .h | exact .t (.t .h)) (by omega) (by omega) ?_ | refine ix_iLn (by omega) (by omega) ?_
      refine wa_nil ?_
      first | refine int_int ?_ | refine int_bl ?_
      refine wa_nil ?_
      refine i1 trivial ?_
      refine ⟨_, (.t (.t .h)), ?_⟩
      refine ws_one ?_
      refine ws_set ns_l_bag_3 ?_
      refine we_bin d_plus ?_
      refine we_bin d_plus ?_
      refine we_bin d_mod ?_
      refine we_bty (b_int) ⟨gl_l_bag_int, u_int c X0 G0⟩ rfl ?_
      refine wa_cons ?_
      refine we_nm nm_l_bag_2 (.t (.t .h)) ?_
      refine wa_nil ?_
      first | refine int_int ?_ | refine int_bl ?_
      refine we_int ?_
      refine rIIc (by omega) ?_
      refine we_bin d_mul ?_
      refine we_int ?_
      refine we_bty (b_int) ⟨gl_l_bag_int, u_int c X0 G0⟩ rfl ?_
      refine wa_cons ?_
      refine we_cmp d_lt ?_
      refine we_ix ix_d ?_
      refine we_nm nm_l_bag_0 .h ?_
      refine we_nm nm_l_bag_1 (.t .h) ?_
      first | refine ixd_own (by first | assumption | exact Has.upd (by assumption) | exact .h | exact .t (by assumption) | exact .t (Has.upd (by assumption)) | exact .t .h | exact .t (.t .h)) rfl ?_ | refine ixd_lst rfl ?_ | refine ixd_tup rfl ?_ | refine ix_iL (by omega) (by omega) ?_ | refine ix_iT (by omega) (by omega) ?_ | refine ix_iR (by omega) (by omega) ?_ | refine ix_iO (by first | assumption | exact Has.upd (by assumption) | exact .h | exact .t (by assumption) | exact .t (Has.upd (by assumption)) | exact .t .h | exact .t (.t .h)) (by omega) (by omega) ?_ | refine ix_iLn (by omega) (by omega) ?_
      refine we_int ?_
      refine rII0 ?_
      refine wa_nil ?_
      first | refine int_int ?_ | refine int_bl ?_
      refine rIIc (by first | exact Or.inr ⟨by omega, by omega⟩ | exact Or.inl ⟨by omega, by omega⟩) ?_
      first | refine plus_int ?_ | refine plus_iL (by (try simp only [List.length_append, List.length_cons, List.length_nil]); omega) ?_ | refine plus_iT (by omega) ?_ | refine plus_iL1 (by omega) ?_
      refine we_bin d_mul ?_
      refine we_int ?_
      refine we_nm nm_l_bag_1 (.t .h) ?_
      refine rIIc (by first | exact Or.inr ⟨by omega, by omega⟩ | exact Or.inl ⟨by omega, by omega⟩) ?_
      first | refine plus_int ?_ | refine plus_iL (by (try simp only [List.length_append, List.length_cons, List.length_nil]); omega) ?_ | refine plus_iT (by omega) ?_ | refine plus_iL1 (by omega) ?_
      refine ⟨_, (.t (.t (.t .h))), ?_⟩
      exact ⟨⟨_, _, rfl⟩, rfl⟩
    · skip
      refine ws_nil ?_
      exact ⟨⟨_, _, rfl⟩, rfl⟩
  rintro _ _ ⟨⟨x, s, rfl⟩, rfl⟩
  refine ws_cut (fun Γ' L' => (∃ x s : Int, Γ' = [some (.rdl (ns.map Dt.int)), some (.int k), some (.int x), some (.int s)]) ∧ L = L') ?_ ?_
  · skip
    refine ws_if ?_
    refine wt_cmp d_lt ?_
    refine we_nm nm_l_bag_2 (.t (.t .h)) ?_
    refine we_bin d_pow ?_
    refine we_int ?_
    refine we_int ?_
    refine pow_lit (r := 1000000000000000000) ⟨by decide, by decide, by decide⟩ (by decide) ?_
    refine rII0 ?_
    refine ⟨_, rfl, ?_⟩
    first | refine tf (fun hif6 => ?_) (fun hif6 => ?_) | refine tfn (fun hif6 => ?_) (fun hif6 => ?_) | refine tb (fun hif6 => ?_) (fun hif6 => ?_)
    · skip
      refine ws_one ?_
      refine ws_set ns_l_bag_2 ?_
      refine we_int ?_
      refine ⟨_, (.t (.t .h)), ?_⟩
      exact ⟨⟨_, _, rfl⟩, rfl⟩
    · skip
      refine ws_nil ?_
      exact ⟨⟨_, _, rfl⟩, rfl⟩
  rintro _ _ ⟨⟨x, s, rfl⟩, rfl⟩
  refine ws_one ?_
  refine ws_ret ?_
  refine we_lstO ?_
  refine wa_cons ?_
  refine we_nm nm_l_bag_2 (.t (.t .h)) ?_
  refine wa_cons ?_
  refine we_int ?_
  refine wa_cons ?_
  refine we_nm nm_l_bag_3 (.t (.t (.t .h))) ?_
  refine wa_nil ?_
  refine ⟨by first | decide | simp, fun a8 => ?_⟩
  exact hK a8 _ _ _
theorem fb_l_bag : ∃ fd, FnB P w K mg base 6 (f_l_bag.ad K) fd ["_law_script", "_law_k"] (sp_l_bag K) ∧ FnG P w K mg base 6 (f_l_bag.ad K) (fun ds L Ex Kk => ds.length = 2 ∧ sp_l_bag K ds L Ex Kk) ∧ PySem.W.keepIn K (.ref (f_l_bag.ad K)) = true := by
  obtain ⟨fd, Fd⟩ := c.dfn 13 (t := f_l_bag) rfl
  have B := fn_body (P := P) (w := w) (mg := mg) (base := base) (sp := sp_l_bag K) (k := 5) Fd sc_l_bag (fun cdv A outer s H E rm ds L Ex Kk hl h => b_l_bag c X0 G0 rm h)
  have bN : Binds K fd ["_law_script", "_law_k"] [] := FunD.bindsN Fd fun _ _ _ _ _ _ us hl => match us, hl with | [_, _], _ => rfl
  exact ⟨fd, B, FnB.pos0 B bN, Fd.kp⟩
theorem fg_l_bag : FnG P w K mg base 6 (f_l_bag.ad K) (fun ds L Ex Kk => ds.length = 2 ∧ sp_l_bag K ds L Ex Kk) := by
  obtain ⟨fd, _, z, _⟩ := fb_l_bag c X0 G0
  exact z
theorem cl_l_bag : Cl P w K mg base 6 "_law_bag" (fun ds L Ex Kk => ds.length = 2 ∧ sp_l_bag K ds L Ex Kk) := by
  obtain ⟨fd, _, z, kp⟩ := fb_l_bag c X0 G0
  exact ⟨⟨_, z, g_l_bag c X0 G0, kp⟩, rfl⟩
end
/-! ### _law_take -/
theorem sc_l_take : FnScope ["_law_bag_here", "_law_size", "_law_digit", "_law_found", "_law_turn", "_law_one", "_law_two"] ["_law_bag_here", "_law_size"] (defScope s_l_take) := ⟨rfl, rfl, rfl, by decide +kernel, rfl, by decide +kernel, by decide +kernel⟩
abbrev X_l_take (P : Program) (w : World) (K : PySem.W.Frag) (mg : Str → Option Value) (base : Heap) (f : Addr) (cdv : Value) (A : Around) (outer : List Env) (s : Shared) (H : Hp) (E : XK) : Cx := cxD P w K mg base ["_law_bag_here", "_law_size", "_law_digit", "_law_found", "_law_turn", "_law_one", "_law_two"] "_law_take" (defScope s_l_take) f cdv A outer s H E
def sp_l_take (K : PySem.W.Frag) : TSp := fun ds L Ex Kk => ∃ (a : Addr) (x c s : Int) (n : Int) (g : OC → Cells), ds = [.ref a, .int n] ∧ 0 < n ∧ n ≤ 10 ^ 40 ∧ Has L a (Bag x c s) g ∧ ∀ r x' c', 0 ≤ r → r < n → Kk (.int r) (g (Bag x' c' s))
section
variable {P : Program} {w : World} {K : PySem.W.Frag} {mg : Str → Option Value} {base : Heap} {f : Addr} {cdv : Value} {A : Around} {outer : List Env} {s : Shared} {H : Hp} {E : XK} {h : Heap}
theorem nm_l_take_0 : Nm (X_l_take P w K mg base f cdv A outer s H E) "_law_bag_here" 0 := ⟨rfl, by first | exact .inl rfl | exact .inr (.inl rfl) | exact .inr (.inr rfl), rfl, rfl⟩
theorem nm_l_take_1 : Nm (X_l_take P w K mg base f cdv A outer s H E) "_law_size" 1 := ⟨rfl, by first | exact .inl rfl | exact .inr (.inl rfl) | exact .inr (.inr rfl), rfl, rfl⟩
theorem nm_l_take_2 : Nm (X_l_take P w K mg base f cdv A outer s H E) "_law_digit" 2 := ⟨rfl, by first | exact .inl rfl | exact .inr (.inl rfl) | exact .inr (.inr rfl), rfl, rfl⟩
theorem nm_l_take_3 : Nm (X_l_take P w K mg base f cdv A outer s H E) "_law_found" 3 := ⟨rfl, by first | exact .inl rfl | exact .inr (.inl rfl) | exact .inr (.inr rfl), rfl, rfl⟩
theorem nm_l_take_5 : Nm (X_l_take P w K mg base f cdv A outer s H E) "_law_one" 5 := ⟨rfl, by first | exact .inl rfl | exact .inr (.inl rfl) | exact .inr (.inr rfl), rfl, rfl⟩
theorem nm_l_take_6 : Nm (X_l_take P w K mg base f cdv A outer s H E) "_law_two" 6 := ⟨rfl, by first | exact .inl rfl | exact .inr (.inl rfl) | exact .inr (.inr rfl), rfl, rfl⟩
theorem ns_l_take_2 : Ns (X_l_take P w K mg base f cdv A outer s H E) "_law_digit" 2 := ⟨sc_l_take.nd, rfl, by first | exact .inl rfl | exact .inr rfl, .inl rfl⟩
theorem ns_l_take_3 : Ns (X_l_take P w K mg base f cdv A outer s H E) "_law_found" 3 := ⟨sc_l_take.nd, rfl, by first | exact .inl rfl | exact .inr rfl, .inl rfl⟩
theorem ns_l_take_4 : Ns (X_l_take P w K mg base f cdv A outer s H E) "_law_turn" 4 := ⟨sc_l_take.nd, rfl, by first | exact .inl rfl | exact .inr rfl, .inl rfl⟩
theorem ns_l_take_5 : Ns (X_l_take P w K mg base f cdv A outer s H E) "_law_one" 5 := ⟨sc_l_take.nd, rfl, by first | exact .inl rfl | exact .inr rfl, .inl rfl⟩
theorem ns_l_take_6 : Ns (X_l_take P w K mg base f cdv A outer s H E) "_law_two" 6 := ⟨sc_l_take.nd, rfl, by first | exact .inl rfl | exact .inr rfl, .inl rfl⟩
theorem gl_l_take_int : Gl (X_l_take P w K mg base f cdv A outer s H E) "int" := rfl
theorem gl_l_take_len : Gl (X_l_take P w K mg base f cdv A outer s H E) "len" := rfl
theorem gl_l_take_range : Gl (X_l_take P w K mg base f cdv A outer s H E) "range" := rfl
theorem gl_l_take_str : Gl (X_l_take P w K mg base f cdv A outer s H E) "str" := rfl
end
section
variable {P : Program} {w : World} {K : PySem.W.Frag} {mg : Str → Option Value} {base : Heap} {f : Addr} {cdv : Value} {A : Around} {outer : List Env} {s : Shared} {H : Hp} {E : XK} {h : Heap} (c : SaysM fa fn K) (X0 : K.In h) (G0 : h.Ns mainGlobals mg)
include c X0 G0
theorem b_l_take (rm : Rm 5 (X_l_take P w K mg base f cdv A outer s H E).A) {ds : List Dt} {L : Cells} {Ex : XD} {Kk : KD} (h : sp_l_take K ds L Ex Kk) : WSs (X_l_take P w K mg base f cdv A outer s H E) (defBody s_l_take) (gIn ["_law_bag_here", "_law_size", "_law_digit", "_law_found", "_law_turn", "_law_one", "_law_two"] ds) L Ex { nx := fun _ L' => Kk .non L', rt := Kk } := by
  obtain ⟨a, x, c0, sd, n, g, rfl, hn, hl, hh, hK⟩ := h
  change WSs _ _ [some _, some _, none, none, none, none, none] _ _ _
  refine ws_cons ?_
  refine ws_if ?_
  refine wt_cmp d_gt ?_
  refine we_ix ix_d ?_
  refine we_nm nm_l_take_0 .h ?_
  refine we_int ?_
  first | refine ixd_own (by first | assumption | exact Has.upd (by assumption) | exact .h | exact .t (by assumption) | exact .t (Has.upd (by assumption)) | exact .t .h | exact .t (.t .h)) rfl ?_ | refine ixd_lst rfl ?_ | refine ixd_tup rfl ?_ | refine ix_iL (by omega) (by omega) ?_ | refine ix_iT (by omega) (by omega) ?_ | refine ix_iR (by omega) (by omega) ?_ | refine ix_iO (by first | assumption | exact Has.upd (by assumption) | exact .h | exact .t (by assumption) | exact .t (Has.upd (by assumption)) | exact .t .h | exact .t (.t .h)) (by omega) (by omega) ?_ | refine ix_iLn (by omega) (by omega) ?_
  refine we_int ?_
  refine rII0 ?_
  refine ⟨_, rfl, ?_⟩
  first | refine tf (fun hif1 => ?_) (fun hif1 => ?_) | refine tfn (fun hif1 => ?_) (fun hif1 => ?_) | refine tb (fun hif1 => ?_) (fun hif1 => ?_)
  · skip
    refine ws_cons ?_
    refine ws_set ns_l_take_2 ?_
    refine we_bin d_mod ?_
    refine we_bty (b_int) ⟨gl_l_take_int, u_int c X0 G0⟩ rfl ?_
    refine wa_cons ?_
    refine we_ix ix_d ?_
    refine we_nm nm_l_take_0 .h ?_
    refine we_int ?_
    first | refine ixd_own (by first | assumption | exact Has.upd (by assumption) | exact .h | exact .t (by assumption) | exact .t (Has.upd (by assumption)) | exact .t .h | exact .t (.t .h)) rfl ?_ | refine ixd_lst rfl ?_ | refine ixd_tup rfl ?_ | refine ix_iL (by omega) (by omega) ?_ | refine ix_iT (by omega) (by omega) ?_ | refine ix_iR (by omega) (by omega) ?_ | refine ix_iO (by first | assumption | exact Has.upd (by assumption) | exact .h | exact .t (by assumption) | exact .t (Has.upd (by assumption)) | exact .t .h | exact .t (.t .h)) (by omega) (by omega) ?_ | refine ix_iLn (by omega) (by omega) ?_
    refine wa_nil ?_
    first | refine int_int ?_ | refine int_bl ?_
    refine we_nm nm_l_take_1 (.t .h) ?_
    refine rIIc (by omega) ?_
    refine ⟨_, (.t (.t .h)), ?_⟩
    refine ws_cons ?_
    refine ws_asg ?_
    refine we_bin d_fdivW ?_
    refine we_ix ix_d ?_
    refine we_nm nm_l_take_0 .h ?_
    refine we_int ?_
    first | refine ixd_own (by first | assumption | exact Has.upd (by assumption) | exact .h | exact .t (by assumption) | exact .t (Has.upd (by assumption)) | exact .t .h | exact .t (.t .h)) rfl ?_ | refine ixd_lst rfl ?_ | refine ixd_tup rfl ?_ | refine ix_iL (by omega) (by omega) ?_ | refine ix_iT (by omega) (by omega) ?_ | refine ix_iR (by omega) (by omega) ?_ | refine ix_iO (by first | assumption | exact Has.upd (by assumption) | exact .h | exact .t (by assumption) | exact .t (Has.upd (by assumption)) | exact .t .h | exact .t (.t .h)) (by omega) (by omega) ?_ | refine ix_iLn (by omega) (by omega) ?_
    refine we_nm nm_l_take_1 (.t .h) ?_
    refine rIIc (cdw (by omega) (by omega)) ?_
    refine wg_sub ?_
    refine we_nm nm_l_take_0 .h ?_
    refine we_int ?_
    refine ⟨_, _, _, _, _, rfl, rfl, (by first | assumption | exact Has.upd (by assumption) | exact .h | exact .t (by assumption) | exact .t (Has.upd (by assumption)) | exact .t .h | exact .t (.t .h)), rfl, ?_⟩
    refine ws_one ?_
    refine ws_ret ?_
    refine we_nm nm_l_take_2 (.t (.t .h)) ?_
    exact hK _ _ _ (Int.emod_nonneg _ (by omega)) (Int.emod_lt_of_pos _ (by omega))
  refine ws_nil ?_
  refine ws_cons ?_
  refine ws_set ns_l_take_3 ?_
  refine we_int ?_
  refine ⟨_, (.t (.t (.t .h))), ?_⟩
  refine ws_cons ?_
  refine ws_for rfl passOwn ?_
  refine wi_range1 ⟨gl_l_take_range, u_range c X0 G0⟩ ?_
  refine wa_cons ?_
  refine we_bin d_plus ?_
  refine we_int ?_
  refine we_bin d_fdivW ?_
  refine we_blt (b_len) ⟨gl_l_take_len, u_len c X0 G0⟩ rfl ?_
  refine wa_cons ?_
  refine we_bty (b_str) ⟨gl_l_take_str, u_str c X0 G0⟩ rfl ?_
  refine wa_cons ?_
  refine we_nm nm_l_take_1 (.t .h) ?_
  refine wa_nil ?_
  refine i1 (log_of (by omega) (by omega)) ?_
  refine wa_nil ?_
  have hz := tsl (n := n) (by omega) (by omega)
  refine len_str (Nat.le_trans hz (by decide)) ?_
  refine we_int ?_
  refine rIIc (cdw (by omega) (by omega)) ?_
  first | refine plus_int ?_ | refine plus_iL (by (try simp only [List.length_append, List.length_cons, List.length_nil]); omega) ?_ | refine plus_iT (by omega) ?_ | refine plus_iL1 (by omega) ?_
  refine wa_nil ?_
  refine ⟨_, rfl, ⟨by first | omega | (split <;> omega) | (split <;> split <;> omega), by first | omega | (split <;> omega) | (split <;> split <;> omega)⟩, ?_⟩
  refine ⟨fun i Γ1 L1 => ∃ (fd c' : Int) (o4 o5 o6 : Option Dt), Γ1 = [some (.ref a), some (.int n), none, some (.int fd), o4, o5, o6] ∧ L1 = g (Bag x c' sd), ⟨0, c0, _, _, _, rfl, hh.self⟩, ?_, ?_⟩
  · skip
    rintro i d Γ1 L1 hd ⟨fd, c', o4, o5, o6, rfl, rfl⟩
    obtain ⟨hi, rfl⟩ := rngD_at hd
    refine wg_name ns_l_take_4 (.t (.t (.t (.t .h)))) ?_
    refine ws_cons ?_
    refine ws_asg ?_
    refine we_bin d_plus ?_
    refine we_ix ix_d ?_
    refine we_nm nm_l_take_0 .h ?_
    refine we_int ?_
    first | refine ixd_own (by first | assumption | exact Has.upd (by assumption) | exact .h | exact .t (by assumption) | exact .t (Has.upd (by assumption)) | exact .t .h | exact .t (.t .h)) rfl ?_ | refine ixd_lst rfl ?_ | refine ixd_tup rfl ?_ | refine ix_iL (by omega) (by omega) ?_ | refine ix_iT (by omega) (by omega) ?_ | refine ix_iR (by omega) (by omega) ?_ | refine ix_iO (by first | assumption | exact Has.upd (by assumption) | exact .h | exact .t (by assumption) | exact .t (Has.upd (by assumption)) | exact .t .h | exact .t (.t .h)) (by omega) (by omega) ?_ | refine ix_iLn (by omega) (by omega) ?_
    refine we_int ?_
    first | refine plus_int ?_ | refine plus_iL (by (try simp only [List.length_append, List.length_cons, List.length_nil]); omega) ?_ | refine plus_iT (by omega) ?_ | refine plus_iL1 (by omega) ?_
    refine wg_sub ?_
    refine we_nm nm_l_take_0 .h ?_
    refine we_int ?_
    refine ⟨_, _, _, _, _, rfl, rfl, (by first | assumption | exact Has.upd (by assumption) | exact .h | exact .t (by assumption) | exact .t (Has.upd (by assumption)) | exact .t .h | exact .t (.t .h)), rfl, ?_⟩
    refine ws_cons ?_
    refine ws_set ns_l_take_5 ?_
    refine we_bin d_mod ?_
    refine we_bty (b_int) ⟨gl_l_take_int, u_int c X0 G0⟩ rfl ?_
    refine wa_cons ?_
    refine we_bin d_plus ?_
    refine we_bin d_plus ?_
    refine we_bin d_mul ?_
    refine we_ix ix_d ?_
    refine we_nm nm_l_take_0 .h ?_
    refine we_int ?_
    first | refine ixd_own (by first | assumption | exact Has.upd (by assumption) | exact .h | exact .t (by assumption) | exact .t (Has.upd (by assumption)) | exact .t .h | exact .t (.t .h)) rfl ?_ | refine ixd_lst rfl ?_ | refine ixd_tup rfl ?_ | refine ix_iL (by omega) (by omega) ?_ | refine ix_iT (by omega) (by omega) ?_ | refine ix_iR (by omega) (by omega) ?_ | refine ix_iO (by first | assumption | exact Has.upd (by assumption) | exact .h | exact .t (by assumption) | exact .t (Has.upd (by assumption)) | exact .t .h | exact .t (.t .h)) (by omega) (by omega) ?_ | refine ix_iLn (by omega) (by omega) ?_
    refine we_int ?_
    refine rIIc (by first | exact Or.inr ⟨by omega, by omega⟩ | exact Or.inl ⟨by omega, by omega⟩) ?_
    refine we_bin d_mul ?_
    refine we_ix ix_d ?_
    refine we_nm nm_l_take_0 .h ?_
    refine we_int ?_
    first | refine ixd_own (by first | assumption | exact Has.upd (by assumption) | exact .h | exact .t (by assumption) | exact .t (Has.upd (by assumption)) | exact .t .h | exact .t (.t .h)) rfl ?_ | refine ixd_lst rfl ?_ | refine ixd_tup rfl ?_ | refine ix_iL (by omega) (by omega) ?_ | refine ix_iT (by omega) (by omega) ?_ | refine ix_iR (by omega) (by omega) ?_ | refine ix_iO (by first | assumption | exact Has.upd (by assumption) | exact .h | exact .t (by assumption) | exact .t (Has.upd (by assumption)) | exact .t .h | exact .t (.t .h)) (by omega) (by omega) ?_ | refine ix_iLn (by omega) (by omega) ?_
    refine we_int ?_
    refine rIIc (by first | exact Or.inr ⟨by omega, by omega⟩ | exact Or.inl ⟨by omega, by omega⟩) ?_
    first | refine plus_int ?_ | refine plus_iL (by (try simp only [List.length_append, List.length_cons, List.length_nil]); omega) ?_ | refine plus_iT (by omega) ?_ | refine plus_iL1 (by omega) ?_
    refine we_int ?_
    first | refine plus_int ?_ | refine plus_iL (by (try simp only [List.length_append, List.length_cons, List.length_nil]); omega) ?_ | refine plus_iT (by omega) ?_ | refine plus_iL1 (by omega) ?_
    refine wa_nil ?_
    first | refine int_int ?_ | refine int_bl ?_
    refine we_int ?_
    refine rIIc (by omega) ?_
    refine ⟨_, (.t (.t (.t (.t (.t .h))))), ?_⟩
    refine ws_cons ?_
    refine ws_set ns_l_take_6 ?_
    refine we_bin d_mod ?_
    refine we_bty (b_int) ⟨gl_l_take_int, u_int c X0 G0⟩ rfl ?_
    refine wa_cons ?_
    refine we_bin d_plus ?_
    refine we_bin d_plus ?_
    refine we_bin d_mul ?_
    refine we_nm nm_l_take_5 (.t (.t (.t (.t (.t .h))))) ?_
    refine we_nm nm_l_take_5 (.t (.t (.t (.t (.t .h))))) ?_
    refine rIIc (by first | exact Or.inr ⟨by omega, by omega⟩ | exact Or.inl ⟨by omega, by omega⟩) ?_
    refine we_bin d_mul ?_
    refine we_ix ix_d ?_
    refine we_nm nm_l_take_0 .h ?_
    refine we_int ?_
    first | refine ixd_own (by first | assumption | exact Has.upd (by assumption) | exact .h | exact .t (by assumption) | exact .t (Has.upd (by assumption)) | exact .t .h | exact .t (.t .h)) rfl ?_ | refine ixd_lst rfl ?_ | refine ixd_tup rfl ?_ | refine ix_iL (by omega) (by omega) ?_ | refine ix_iT (by omega) (by omega) ?_ | refine ix_iR (by omega) (by omega) ?_ | refine ix_iO (by first | assumption | exact Has.upd (by assumption) | exact .h | exact .t (by assumption) | exact .t (Has.upd (by assumption)) | exact .t .h | exact .t (.t .h)) (by omega) (by omega) ?_ | refine ix_iLn (by omega) (by omega) ?_
    refine we_int ?_
    refine rIIc (by first | exact Or.inr ⟨by omega, by omega⟩ | exact Or.inl ⟨by omega, by omega⟩) ?_
    first | refine plus_int ?_ | refine plus_iL (by (try simp only [List.length_append, List.length_cons, List.length_nil]); omega) ?_ | refine plus_iT (by omega) ?_ | refine plus_iL1 (by omega) ?_
    refine we_int ?_
    first | refine plus_int ?_ | refine plus_iL (by (try simp only [List.length_append, List.length_cons, List.length_nil]); omega) ?_ | refine plus_iT (by omega) ?_ | refine plus_iL1 (by omega) ?_
    refine wa_nil ?_
    first | refine int_int ?_ | refine int_bl ?_
    refine we_int ?_
    refine rIIc (by omega) ?_
    refine ⟨_, (.t (.t (.t (.t (.t (.t .h)))))), ?_⟩
    refine ws_one ?_
    refine ws_set ns_l_take_3 ?_
    refine we_bin d_plus ?_
    refine we_bin d_mul ?_
    refine we_nm nm_l_take_3 (.t (.t (.t .h))) ?_
    refine we_int ?_
    refine rIIc (by first | exact Or.inr ⟨by omega, by omega⟩ | exact Or.inl ⟨by omega, by omega⟩) ?_
    refine we_bin d_fdivW ?_
    refine we_bin d_mod ?_
    refine we_bty (b_int) ⟨gl_l_take_int, u_int c X0 G0⟩ rfl ?_
    refine wa_cons ?_
    refine we_bin d_plus ?_
    refine we_bin d_mul ?_
    refine we_nm nm_l_take_6 (.t (.t (.t (.t (.t (.t .h)))))) ?_
    refine we_nm nm_l_take_6 (.t (.t (.t (.t (.t (.t .h)))))) ?_
    refine rIIc (by first | exact Or.inr ⟨by omega, by omega⟩ | exact Or.inl ⟨by omega, by omega⟩) ?_
    refine we_nm nm_l_take_5 (.t (.t (.t (.t (.t .h))))) ?_
    first | refine plus_int ?_ | refine plus_iL (by (try simp only [List.length_append, List.length_cons, List.length_nil]); omega) ?_ | refine plus_iT (by omega) ?_ | refine plus_iL1 (by omega) ?_
    refine wa_nil ?_
    first | refine int_int ?_ | refine int_bl ?_
    refine we_int ?_
    refine rIIc (by omega) ?_
    refine we_int ?_
    refine rIIc (cdw (by omega) (by omega)) ?_
    first | refine plus_int ?_ | refine plus_iL (by (try simp only [List.length_append, List.length_cons, List.length_nil]); omega) ?_ | refine plus_iT (by omega) ?_ | refine plus_iL1 (by omega) ?_
    refine ⟨_, (.t (.t (.t .h))), ?_⟩
    exact ⟨_, _, _, _, _, rfl, rfl⟩
  rintro Γ1 L1 ⟨fd, c', o4, o5, o6, rfl, rfl⟩
  refine ws_one ?_
  refine ws_ret ?_
  refine we_bin d_mod ?_
  refine we_bty (b_int) ⟨gl_l_take_int, u_int c X0 G0⟩ rfl ?_
  refine wa_cons ?_
  refine we_nm nm_l_take_3 (.t (.t (.t .h))) ?_
  refine wa_nil ?_
  first | refine int_int ?_ | refine int_bl ?_
  refine we_nm nm_l_take_1 (.t .h) ?_
  refine rIIc (by omega) ?_
  exact hK _ _ _ (Int.emod_nonneg _ (by omega)) (Int.emod_lt_of_pos _ (by omega))
theorem fb_l_take : ∃ fd, FnB P w K mg base 6 (f_l_take.ad K) fd ["_law_bag_here", "_law_size"] (sp_l_take K) ∧ FnG P w K mg base 6 (f_l_take.ad K) (fun ds L Ex Kk => ds.length = 2 ∧ sp_l_take K ds L Ex Kk) ∧ PySem.W.keepIn K (.ref (f_l_take.ad K)) = true := by
  obtain ⟨fd, Fd⟩ := c.dfn 14 (t := f_l_take) rfl
  have B := fn_body (P := P) (w := w) (mg := mg) (base := base) (sp := sp_l_take K) (k := 5) Fd sc_l_take (fun cdv A outer s H E rm ds L Ex Kk hl h => b_l_take c X0 G0 rm h)
  have bN : Binds K fd ["_law_bag_here", "_law_size"] [] := FunD.bindsN Fd fun _ _ _ _ _ _ us hl => match us, hl with | [_, _], _ => rfl
  exact ⟨fd, B, FnB.pos0 B bN, Fd.kp⟩
theorem fg_l_take : FnG P w K mg base 6 (f_l_take.ad K) (fun ds L Ex Kk => ds.length = 2 ∧ sp_l_take K ds L Ex Kk) := by
  obtain ⟨fd, _, z, _⟩ := fb_l_take c X0 G0
  exact z
theorem cl_l_take : Cl P w K mg base 6 "_law_take" (fun ds L Ex Kk => ds.length = 2 ∧ sp_l_take K ds L Ex Kk) := by
  obtain ⟨fd, _, z, kp⟩ := fb_l_take c X0 G0
  exact ⟨⟨_, z, g_l_take c X0 G0, kp⟩, rfl⟩
end
/-! ### _law_number -/
theorem sc_l_number : FnScope ["_law_bag_here", "_law_most", "_law_way"] ["_law_bag_here", "_law_most"] (defScope s_l_number) := ⟨rfl, rfl, rfl, by decide +kernel, rfl, by decide +kernel, by decide +kernel⟩
abbrev X_l_number (P : Program) (w : World) (K : PySem.W.Frag) (mg : Str → Option Value) (base : Heap) (f : Addr) (cdv : Value) (A : Around) (outer : List Env) (s : Shared) (H : Hp) (E : XK) : Cx := cxD P w K mg base ["_law_bag_here", "_law_most", "_law_way"] "_law_number" (defScope s_l_number) f cdv A outer s H E
def sp_l_number (K : PySem.W.Frag) : TSp := fun ds L Ex Kk => ∃ (a : Addr) (x c s : Int) (n : Int) (g : OC → Cells), ds = [.ref a, .int n] ∧ 0 ≤ n ∧ n ≤ 10 ^ 30 ∧ Has L a (Bag x c s) g ∧ ∀ r x' c', 0 ≤ r → r ≤ n → Kk (.int r) (g (Bag x' c' s))
section
variable {P : Program} {w : World} {K : PySem.W.Frag} {mg : Str → Option Value} {base : Heap} {f : Addr} {cdv : Value} {A : Around} {outer : List Env} {s : Shared} {H : Hp} {E : XK} {h : Heap}
theorem nm_l_number_0 : Nm (X_l_number P w K mg base f cdv A outer s H E) "_law_bag_here" 0 := ⟨rfl, by first | exact .inl rfl | exact .inr (.inl rfl) | exact .inr (.inr rfl), rfl, rfl⟩
theorem nm_l_number_1 : Nm (X_l_number P w K mg base f cdv A outer s H E) "_law_most" 1 := ⟨rfl, by first | exact .inl rfl | exact .inr (.inl rfl) | exact .inr (.inr rfl), rfl, rfl⟩
theorem nm_l_number_2 : Nm (X_l_number P w K mg base f cdv A outer s H E) "_law_way" 2 := ⟨rfl, by first | exact .inl rfl | exact .inr (.inl rfl) | exact .inr (.inr rfl), rfl, rfl⟩
theorem ns_l_number_2 : Ns (X_l_number P w K mg base f cdv A outer s H E) "_law_way" 2 := ⟨sc_l_number.nd, rfl, by first | exact .inl rfl | exact .inr rfl, .inl rfl⟩
theorem gl_l_number_l_take : Gl (X_l_number P w K mg base f cdv A outer s H E) "_law_take" := rfl
theorem gl_l_number_min : Gl (X_l_number P w K mg base f cdv A outer s H E) "min" := rfl
end
section
variable {P : Program} {w : World} {K : PySem.W.Frag} {mg : Str → Option Value} {base : Heap} {f : Addr} {cdv : Value} {A : Around} {outer : List Env} {s : Shared} {H : Hp} {E : XK} {h : Heap} (c : SaysM fa fn K) (X0 : K.In h) (G0 : h.Ns mainGlobals mg)
include c X0 G0
theorem b_l_number (rm : Rm 6 (X_l_number P w K mg base f cdv A outer s H E).A) {ds : List Dt} {L : Cells} {Ex : XD} {Kk : KD} (h : sp_l_number K ds L Ex Kk) : WSs (X_l_number P w K mg base f cdv A outer s H E) (defBody s_l_number) (gIn ["_law_bag_here", "_law_most", "_law_way"] ds) L Ex { nx := fun _ L' => Kk .non L', rt := Kk } := by
  obtain ⟨a, x, c0, sd, n, g, rfl, hn, hl, hh, hK⟩ := h
  change WSs _ _ [some _, some _, none] _ _ _
  refine ws_cons ?_
  refine ws_set ns_l_number_2 ?_
  refine we_call (cl_l_take c X0 G0) rm (by decide) gl_l_number_l_take ?_
  refine wa_cons ?_
  refine we_nm nm_l_number_0 .h ?_
  refine wa_cons ?_
  refine we_int ?_
  refine wa_nil ?_
  refine ⟨rfl, ?_⟩
  refine ⟨_, _, _, _, _, _, rfl, by omega, by omega, (by first | assumption | exact Has.upd (by assumption) | exact .h | exact .t (by assumption) | exact .t (Has.upd (by assumption)) | exact .t .h | exact .t (.t .h)), fun r1 x1 c1 hr1 hs1 => ?_⟩
  refine ⟨_, (.t (.t .h)), ?_⟩
  refine ws_cons ?_
  refine ws_if ?_
  refine wt_cmp d_lt ?_
  refine we_nm nm_l_number_2 (.t (.t .h)) ?_
  refine we_int ?_
  refine rII0 ?_
  refine ⟨_, rfl, ?_⟩
  first | refine tf (fun hif2 => ?_) (fun hif2 => ?_) | refine tfn (fun hif2 => ?_) (fun hif2 => ?_) | refine tb (fun hif2 => ?_) (fun hif2 => ?_)
  · skip
    refine ws_one ?_
    refine ws_ret ?_
    refine we_blt (b_min2 rfl) ⟨gl_l_number_min, u_min c X0 G0⟩ rfl ?_
    refine wa_cons ?_
    refine we_nm nm_l_number_1 (.t .h) ?_
    refine wa_cons ?_
    refine we_call (cl_l_take c X0 G0) rm (by decide) gl_l_number_l_take ?_
    refine wa_cons ?_
    refine we_nm nm_l_number_0 .h ?_
    refine wa_cons ?_
    refine we_int ?_
    refine wa_nil ?_
    refine ⟨rfl, ?_⟩
    refine ⟨_, _, _, _, _, _, rfl, by omega, by omega, (by first | assumption | exact Has.upd (by assumption) | exact .h | exact .t (by assumption) | exact .t (Has.upd (by assumption)) | exact .t .h | exact .t (.t .h)), fun r2 x2 c2 hr2 hs2 => ?_⟩
    refine wa_nil ?_
    refine i2 trivial ?_
    exact hK _ _ _ (by split <;> omega) (by split <;> omega)
  refine ws_nil ?_
  refine ws_cons ?_
  refine ws_if ?_
  refine wt_cmp (d_eqA rm.eqU) ?_
  refine we_nm nm_l_number_2 (.t (.t .h)) ?_
  refine we_int ?_
  first | refine eqA_int ?_ | refine eqA_iL ?_ | refine eqA_str ?_ | refine eqA_bl ?_ | refine eqA_bL ?_ | refine eqA_iT ?_
  refine ⟨_, rfl, ?_⟩
  first | refine tf (fun hif4 => ?_) (fun hif4 => ?_) | refine tfn (fun hif4 => ?_) (fun hif4 => ?_) | refine tb (fun hif4 => ?_) (fun hif4 => ?_)
  · skip
    refine ws_one ?_
    refine ws_ret ?_
    refine we_blt (b_min2 rfl) ⟨gl_l_number_min, u_min c X0 G0⟩ rfl ?_
    refine wa_cons ?_
    refine we_nm nm_l_number_1 (.t .h) ?_
    refine wa_cons ?_
    refine we_call (cl_l_take c X0 G0) rm (by decide) gl_l_number_l_take ?_
    refine wa_cons ?_
    refine we_nm nm_l_number_0 .h ?_
    refine wa_cons ?_
    refine we_int ?_
    refine wa_nil ?_
    refine ⟨rfl, ?_⟩
    refine ⟨_, _, _, _, _, _, rfl, by omega, by omega, (by first | assumption | exact Has.upd (by assumption) | exact .h | exact .t (by assumption) | exact .t (Has.upd (by assumption)) | exact .t .h | exact .t (.t .h)), fun r3 x3 c3 hr3 hs3 => ?_⟩
    refine wa_nil ?_
    refine i2 trivial ?_
    exact hK _ _ _ (by split <;> omega) (by split <;> omega)
  refine ws_nil ?_
  refine ws_cons ?_
  refine ws_if ?_
  refine wt_cmp (d_eqA rm.eqU) ?_
  refine we_nm nm_l_number_2 (.t (.t .h)) ?_
  refine we_int ?_
  first | refine eqA_int ?_ | refine eqA_iL ?_ | refine eqA_str ?_ | refine eqA_bl ?_ | refine eqA_bL ?_ | refine eqA_iT ?_
  refine ⟨_, rfl, ?_⟩
  first | refine tf (fun hif6 => ?_) (fun hif6 => ?_) | refine tfn (fun hif6 => ?_) (fun hif6 => ?_) | refine tb (fun hif6 => ?_) (fun hif6 => ?_)
  · skip
    refine ws_one ?_
    refine ws_ret ?_
    refine we_bin d_sub ?_
    refine we_nm nm_l_number_1 (.t .h) ?_
    refine we_call (cl_l_take c X0 G0) rm (by decide) gl_l_number_l_take ?_
    refine wa_cons ?_
    refine we_nm nm_l_number_0 .h ?_
    refine wa_cons ?_
    refine we_blt (b_min2 rfl) ⟨gl_l_number_min, u_min c X0 G0⟩ rfl ?_
    refine wa_cons ?_
    refine we_bin d_plus ?_
    refine we_nm nm_l_number_1 (.t .h) ?_
    refine we_int ?_
    first | refine plus_int ?_ | refine plus_iL (by (try simp only [List.length_append, List.length_cons, List.length_nil]); omega) ?_ | refine plus_iT (by omega) ?_ | refine plus_iL1 (by omega) ?_
    refine wa_cons ?_
    refine we_int ?_
    refine wa_nil ?_
    refine i2 trivial ?_
    refine wa_nil ?_
    refine ⟨rfl, ?_⟩
    refine ⟨_, _, _, _, _, _, rfl, by split <;> omega, by split <;> omega, (by first | assumption | exact Has.upd (by assumption) | exact .h | exact .t (by assumption) | exact .t (Has.upd (by assumption)) | exact .t .h | exact .t (.t .h)), fun r4 x4 c4 hr4 hs4 => ?_⟩
    refine rII0 ?_
    have q : r4 < n + 1 := by split at hs4 <;> omega
    exact hK _ _ _ (by omega) (by omega)
  refine ws_nil ?_
  refine ws_cons ?_
  refine ws_if ?_
  refine wt_cmp (d_eqA rm.eqU) ?_
  refine we_nm nm_l_number_2 (.t (.t .h)) ?_
  refine we_int ?_
  first | refine eqA_int ?_ | refine eqA_iL ?_ | refine eqA_str ?_ | refine eqA_bl ?_ | refine eqA_bL ?_ | refine eqA_iT ?_
  refine ⟨_, rfl, ?_⟩
  first | refine tf (fun hif8 => ?_) (fun hif8 => ?_) | refine tfn (fun hif8 => ?_) (fun hif8 => ?_) | refine tb (fun hif8 => ?_) (fun hif8 => ?_)
  · skip
    refine ws_one ?_
    refine ws_ret ?_
    refine we_bin d_fdivW ?_
    refine we_call (cl_l_take c X0 G0) rm (by decide) gl_l_number_l_take ?_
    refine wa_cons ?_
    refine we_nm nm_l_number_0 .h ?_
    refine wa_cons ?_
    refine we_bin d_plus ?_
    refine we_nm nm_l_number_1 (.t .h) ?_
    refine we_int ?_
    first | refine plus_int ?_ | refine plus_iL (by (try simp only [List.length_append, List.length_cons, List.length_nil]); omega) ?_ | refine plus_iT (by omega) ?_ | refine plus_iL1 (by omega) ?_
    refine wa_nil ?_
    refine ⟨rfl, ?_⟩
    refine ⟨_, _, _, _, _, _, rfl, by omega, by omega, (by first | assumption | exact Has.upd (by assumption) | exact .h | exact .t (by assumption) | exact .t (Has.upd (by assumption)) | exact .t .h | exact .t (.t .h)), fun r5 x5 c5 hr5 hs5 => ?_⟩
    refine we_bin d_plus ?_
    refine we_int ?_
    refine we_call (cl_l_take c X0 G0) rm (by decide) gl_l_number_l_take ?_
    refine wa_cons ?_
    refine we_nm nm_l_number_0 .h ?_
    refine wa_cons ?_
    refine we_bin d_pow ?_
    refine we_int ?_
    refine we_int ?_
    refine pow_lit (r := 1000000000000000) ⟨by decide, by decide, by decide⟩ (by decide) ?_
    refine wa_nil ?_
    refine ⟨rfl, ?_⟩
    refine ⟨_, _, _, _, _, _, rfl, by omega, by omega, (by first | assumption | exact Has.upd (by assumption) | exact .h | exact .t (by assumption) | exact .t (Has.upd (by assumption)) | exact .t .h | exact .t (.t .h)), fun r6 x6 c6 hr6 hs6 => ?_⟩
    first | refine plus_int ?_ | refine plus_iL (by (try simp only [List.length_append, List.length_cons, List.length_nil]); omega) ?_ | refine plus_iT (by omega) ?_ | refine plus_iL1 (by omega) ?_
    refine rIIc (cdw (by omega) (by omega)) ?_
    exact hK _ _ _ (Int.ediv_nonneg (by omega) (by omega)) (Int.le_trans (Int.ediv_le_self _ (by omega)) (by omega))
  refine ws_nil ?_
  refine ws_one ?_
  refine ws_ret ?_
  refine we_call (cl_l_take c X0 G0) rm (by decide) gl_l_number_l_take ?_
  refine wa_cons ?_
  refine we_nm nm_l_number_0 .h ?_
  refine wa_cons ?_
  refine we_bin d_plus ?_
  refine we_nm nm_l_number_1 (.t .h) ?_
  refine we_int ?_
  first | refine plus_int ?_ | refine plus_iL (by (try simp only [List.length_append, List.length_cons, List.length_nil]); omega) ?_ | refine plus_iT (by omega) ?_ | refine plus_iL1 (by omega) ?_
  refine wa_nil ?_
  refine ⟨rfl, ?_⟩
  refine ⟨_, _, _, _, _, _, rfl, by omega, by omega, (by first | assumption | exact Has.upd (by assumption) | exact .h | exact .t (by assumption) | exact .t (Has.upd (by assumption)) | exact .t .h | exact .t (.t .h)), fun r7 x7 c7 hr7 hs7 => ?_⟩
  exact hK _ _ _ (by omega) (by omega)
theorem fb_l_number : ∃ fd, FnB P w K mg base 7 (f_l_number.ad K) fd ["_law_bag_here", "_law_most"] (sp_l_number K) ∧ FnG P w K mg base 7 (f_l_number.ad K) (fun ds L Ex Kk => ds.length = 2 ∧ sp_l_number K ds L Ex Kk) ∧ PySem.W.keepIn K (.ref (f_l_number.ad K)) = true := by
  obtain ⟨fd, Fd⟩ := c.dfn 15 (t := f_l_number) rfl
  have B := fn_body (P := P) (w := w) (mg := mg) (base := base) (sp := sp_l_number K) (k := 6) Fd sc_l_number (fun cdv A outer s H E rm ds L Ex Kk hl h => b_l_number c X0 G0 rm h)
  have bN : Binds K fd ["_law_bag_here", "_law_most"] [] := FunD.bindsN Fd fun _ _ _ _ _ _ us hl => match us, hl with | [_, _], _ => rfl
  exact ⟨fd, B, FnB.pos0 B bN, Fd.kp⟩
theorem fg_l_number : FnG P w K mg base 7 (f_l_number.ad K) (fun ds L Ex Kk => ds.length = 2 ∧ sp_l_number K ds L Ex Kk) := by
  obtain ⟨fd, _, z, _⟩ := fb_l_number c X0 G0
  exact z
theorem cl_l_number : Cl P w K mg base 7 "_law_number" (fun ds L Ex Kk => ds.length = 2 ∧ sp_l_number K ds L Ex Kk) := by
  obtain ⟨fd, _, z, kp⟩ := fb_l_number c X0 G0
  exact ⟨⟨_, z, g_l_number c X0 G0, kp⟩, rfl⟩
end
/-! ### _law_row -/
theorem sc_l_row : FnScope ["_law_bag_here", "_law_size", "_law_mode", "_law_alike", "_law_row_here", "_law_k"] ["_law_bag_here", "_law_size"] (defScope s_l_row) := ⟨rfl, rfl, rfl, by decide +kernel, rfl, by decide +kernel, by decide +kernel⟩
abbrev X_l_row (P : Program) (w : World) (K : PySem.W.Frag) (mg : Str → Option Value) (base : Heap) (f : Addr) (cdv : Value) (A : Around) (outer : List Env) (s : Shared) (H : Hp) (E : XK) : Cx := cxD P w K mg base ["_law_bag_here", "_law_size", "_law_mode", "_law_alike", "_law_row_here", "_law_k"] "_law_row" (defScope s_l_row) f cdv A outer s H E
def sp_l_row (K : PySem.W.Frag) : TSp := fun ds L Ex Kk => ∃ (a : Addr) (x c s : Int) (n : Int) (g : OC → Cells), ds = [.ref a, .int n] ∧ 0 ≤ n ∧ n ≤ 100000 ∧ Has L a (Bag x c s) g ∧ ∀ (ns : List Int) x' c', (ns.length : Int) = n → (∀ y ∈ ns, 0 ≤ y ∧ y ≤ 10 ^ 30) → Kk (.lst (ns.map Dt.int)) (g (Bag x' c' s))
section
variable {P : Program} {w : World} {K : PySem.W.Frag} {mg : Str → Option Value} {base : Heap} {f : Addr} {cdv : Value} {A : Around} {outer : List Env} {s : Shared} {H : Hp} {E : XK} {h : Heap}
theorem nm_l_row_0 : Nm (X_l_row P w K mg base f cdv A outer s H E) "_law_bag_here" 0 := ⟨rfl, by first | exact .inl rfl | exact .inr (.inl rfl) | exact .inr (.inr rfl), rfl, rfl⟩
theorem nm_l_row_1 : Nm (X_l_row P w K mg base f cdv A outer s H E) "_law_size" 1 := ⟨rfl, by first | exact .inl rfl | exact .inr (.inl rfl) | exact .inr (.inr rfl), rfl, rfl⟩
theorem nm_l_row_2 : Nm (X_l_row P w K mg base f cdv A outer s H E) "_law_mode" 2 := ⟨rfl, by first | exact .inl rfl | exact .inr (.inl rfl) | exact .inr (.inr rfl), rfl, rfl⟩
theorem nm_l_row_3 : Nm (X_l_row P w K mg base f cdv A outer s H E) "_law_alike" 3 := ⟨rfl, by first | exact .inl rfl | exact .inr (.inl rfl) | exact .inr (.inr rfl), rfl, rfl⟩
theorem nm_l_row_4 : Nm (X_l_row P w K mg base f cdv A outer s H E) "_law_row_here" 4 := ⟨rfl, by first | exact .inl rfl | exact .inr (.inl rfl) | exact .inr (.inr rfl), rfl, rfl⟩
theorem ns_l_row_2 : Ns (X_l_row P w K mg base f cdv A outer s H E) "_law_mode" 2 := ⟨sc_l_row.nd, rfl, by first | exact .inl rfl | exact .inr rfl, .inl rfl⟩
theorem ns_l_row_3 : Ns (X_l_row P w K mg base f cdv A outer s H E) "_law_alike" 3 := ⟨sc_l_row.nd, rfl, by first | exact .inl rfl | exact .inr rfl, .inl rfl⟩
theorem ns_l_row_4 : Ns (X_l_row P w K mg base f cdv A outer s H E) "_law_row_here" 4 := ⟨sc_l_row.nd, rfl, by first | exact .inl rfl | exact .inr rfl, .inl rfl⟩
theorem ns_l_row_5 : Ns (X_l_row P w K mg base f cdv A outer s H E) "_law_k" 5 := ⟨sc_l_row.nd, rfl, by first | exact .inl rfl | exact .inr rfl, .inl rfl⟩
theorem gl_l_row_l_number : Gl (X_l_row P w K mg base f cdv A outer s H E) "_law_number" := rfl
theorem gl_l_row_l_take : Gl (X_l_row P w K mg base f cdv A outer s H E) "_law_take" := rfl
theorem gl_l_row_range : Gl (X_l_row P w K mg base f cdv A outer s H E) "range" := rfl
end
section
variable {P : Program} {w : World} {K : PySem.W.Frag} {mg : Str → Option Value} {base : Heap} {f : Addr} {cdv : Value} {A : Around} {outer : List Env} {s : Shared} {H : Hp} {E : XK} {h : Heap} (c : SaysM fa fn K) (X0 : K.In h) (G0 : h.Ns mainGlobals mg)
include c X0 G0
theorem b_l_row (rm : Rm 7 (X_l_row P w K mg base f cdv A outer s H E).A) {ds : List Dt} {L : Cells} {Ex : XD} {Kk : KD} (h : sp_l_row K ds L Ex Kk) : WSs (X_l_row P w K mg base f cdv A outer s H E) (defBody s_l_row) (gIn ["_law_bag_here", "_law_size", "_law_mode", "_law_alike", "_law_row_here", "_law_k"] ds) L Ex { nx := fun _ L' => Kk .non L', rt := Kk } := by
  obtain ⟨a, x, c0, sd, n, g, rfl, hn, hl, hh, hK⟩ := h
  change WSs _ _ [some _, some _, none, none, none, none] _ _ _
  refine ws_cons ?_
  refine ws_set ns_l_row_2 ?_
  refine we_call (cl_l_take c X0 G0) rm (by decide) gl_l_row_l_take ?_
  refine wa_cons ?_
  refine we_nm nm_l_row_0 .h ?_
  refine wa_cons ?_
  refine we_int ?_
  refine wa_nil ?_
  refine ⟨rfl, ?_⟩
  refine ⟨_, _, _, _, _, _, rfl, by omega, by omega, (by first | assumption | exact Has.upd (by assumption) | exact .h | exact .t (by assumption) | exact .t (Has.upd (by assumption)) | exact .t .h | exact .t (.t .h)), fun r1 x1 c1 hr1 hs1 => ?_⟩
  refine ⟨_, (.t (.t .h)), ?_⟩
  refine ws_cons ?_
  refine ws_set ns_l_row_3 ?_
  refine we_call (cl_l_take c X0 G0) rm (by decide) gl_l_row_l_take ?_
  refine wa_cons ?_
  refine we_nm nm_l_row_0 .h ?_
  refine wa_cons ?_
  refine we_int ?_
  refine wa_nil ?_
  refine ⟨rfl, ?_⟩
  refine ⟨_, _, _, _, _, _, rfl, by omega, by omega, (by first | assumption | exact Has.upd (by assumption) | exact .h | exact .t (by assumption) | exact .t (Has.upd (by assumption)) | exact .t .h | exact .t (.t .h)), fun r2 x2 c2 hr2 hs2 => ?_⟩
  refine ⟨_, (.t (.t (.t .h))), ?_⟩
  refine ws_cons ?_
  refine ws_set ns_l_row_4 ?_
  refine we_lstO ?_
  refine wa_nil ?_
  refine ⟨by first | decide | simp, fun b => ?_⟩
  refine ⟨_, (.t (.t (.t (.t .h)))), ?_⟩
  refine ws_cons ?_
  refine ws_for rfl passOwn ?_
  refine wi_range1 ⟨gl_l_row_range, u_range c X0 G0⟩ ?_
  refine wa_cons ?_
  refine we_nm nm_l_row_1 (.t .h) ?_
  refine wa_nil ?_
  refine ⟨_, rfl, ⟨by first | omega | (split <;> omega) | (split <;> split <;> omega), by first | omega | (split <;> omega) | (split <;> split <;> omega)⟩, ?_⟩
  refine ⟨fun i Γ1 L1 => ∃ (ns : List Int) (x' c' : Int) (o5 : Option Dt), Γ1 = [some (.ref a), some (.int n), some (.int r1), some (.int r2), some (.ref b), o5] ∧ L1 = (b, .lst (ns.map Dt.int)) :: g (Bag x' c' sd) ∧ ns.length = i ∧ ∀ y ∈ ns, 0 ≤ y ∧ y ≤ 10 ^ 30, ⟨[], x2, c2, _, rfl, rfl, rfl, fun y hy => by cases hy⟩, ?_, ?_⟩
  · skip
    rintro i d Γ1 L1 hd ⟨ns, x', c', o5, rfl, rfl, hlen, hb⟩
    obtain ⟨hi, rfl⟩ := rngD_at hd
    refine wg_name ns_l_row_5 (.t (.t (.t (.t (.t .h))))) ?_
    refine ws_one ?_
    refine ws_if ?_
    refine wt_cmp (d_eqA rm.eqU) ?_
    refine we_nm nm_l_row_2 (.t (.t .h)) ?_
    refine we_int ?_
    first | refine eqA_int ?_ | refine eqA_iL ?_ | refine eqA_str ?_ | refine eqA_bl ?_ | refine eqA_bL ?_ | refine eqA_iT ?_
    refine ⟨_, rfl, ?_⟩
    first | refine tf (fun hif5 => ?_) (fun hif5 => ?_) | refine tfn (fun hif5 => ?_) (fun hif5 => ?_) | refine tb (fun hif5 => ?_) (fun hif5 => ?_)
    · skip
      refine ws_one ?_
      refine ws_expr ?_
      refine we_append ?_
      refine we_nm nm_l_row_4 (.t (.t (.t (.t .h)))) ?_
      refine ⟨_, _, _, rfl, (by first | assumption | exact Has.upd (by assumption) | exact .h | exact .t (by assumption) | exact .t (Has.upd (by assumption)) | exact .t .h | exact .t (.t .h)), ?_⟩
      refine we_call (cl_l_take c X0 G0) rm (by decide) gl_l_row_l_take ?_
      refine wa_cons ?_
      refine we_nm nm_l_row_0 .h ?_
      refine wa_cons ?_
      refine we_int ?_
      refine wa_nil ?_
      refine ⟨rfl, ?_⟩
      refine ⟨_, _, _, _, _, _, rfl, by omega, by omega, (by first | assumption | exact Has.upd (by assumption) | exact .h | exact .t (by assumption) | exact .t (Has.upd (by assumption)) | exact .t .h | exact .t (.t .h)), fun r3 x3 c3 hr3 hs3 => ?_⟩
      refine ⟨_, _, (by first | assumption | exact Has.upd (by assumption) | exact .h | exact .t (by assumption) | exact .t (Has.upd (by assumption)) | exact .t .h | exact .t (.t .h)), by (try simp only [List.length_map, List.length_append, List.length_cons, List.length_nil]); omega, ?_⟩
      (try rw [snoc_int])
      refine ⟨ns ++ [_], _, _, _, rfl, rfl, by rw [List.length_append, hlen]; rfl, fun y hy => ?_⟩
      rcases List.mem_append.mp hy with hy | hy
      · exact hb y hy
      · rw [List.mem_singleton.mp hy]
        first | exact ⟨by omega, by omega⟩ | exact ⟨Int.mul_nonneg (by omega) (by omega), mul_small (by omega) (by omega) (by omega) (by omega)⟩
    · skip
      refine ws_one ?_
      refine ws_if ?_
      refine wt_cmp (d_eqA rm.eqU) ?_
      refine we_nm nm_l_row_2 (.t (.t .h)) ?_
      refine we_int ?_
      first | refine eqA_int ?_ | refine eqA_iL ?_ | refine eqA_str ?_ | refine eqA_bl ?_ | refine eqA_bL ?_ | refine eqA_iT ?_
      refine ⟨_, rfl, ?_⟩
      first | refine tf (fun hif7 => ?_) (fun hif7 => ?_) | refine tfn (fun hif7 => ?_) (fun hif7 => ?_) | refine tb (fun hif7 => ?_) (fun hif7 => ?_)
      · skip
        refine ws_one ?_
        refine ws_expr ?_
        refine we_append ?_
        refine we_nm nm_l_row_4 (.t (.t (.t (.t .h)))) ?_
        refine ⟨_, _, _, rfl, (by first | assumption | exact Has.upd (by assumption) | exact .h | exact .t (by assumption) | exact .t (Has.upd (by assumption)) | exact .t .h | exact .t (.t .h)), ?_⟩
        refine we_nm nm_l_row_3 (.t (.t (.t .h))) ?_
        refine ⟨_, _, (by first | assumption | exact Has.upd (by assumption) | exact .h | exact .t (by assumption) | exact .t (Has.upd (by assumption)) | exact .t .h | exact .t (.t .h)), by (try simp only [List.length_map, List.length_append, List.length_cons, List.length_nil]); omega, ?_⟩
        (try rw [snoc_int])
        refine ⟨ns ++ [_], _, _, _, rfl, rfl, by rw [List.length_append, hlen]; rfl, fun y hy => ?_⟩
        rcases List.mem_append.mp hy with hy | hy
        · exact hb y hy
        · rw [List.mem_singleton.mp hy]
          first | exact ⟨by omega, by omega⟩ | exact ⟨Int.mul_nonneg (by omega) (by omega), mul_small (by omega) (by omega) (by omega) (by omega)⟩
      · skip
        refine ws_one ?_
        refine ws_if ?_
        refine wt_cmp (d_eqA rm.eqU) ?_
        refine we_nm nm_l_row_2 (.t (.t .h)) ?_
        refine we_int ?_
        first | refine eqA_int ?_ | refine eqA_iL ?_ | refine eqA_str ?_ | refine eqA_bl ?_ | refine eqA_bL ?_ | refine eqA_iT ?_
        refine ⟨_, rfl, ?_⟩
        first | refine tf (fun hif9 => ?_) (fun hif9 => ?_) | refine tfn (fun hif9 => ?_) (fun hif9 => ?_) | refine tb (fun hif9 => ?_) (fun hif9 => ?_)
        · skip
          refine ws_one ?_
          refine ws_expr ?_
          refine we_append ?_
          refine we_nm nm_l_row_4 (.t (.t (.t (.t .h)))) ?_
          refine ⟨_, _, _, rfl, (by first | assumption | exact Has.upd (by assumption) | exact .h | exact .t (by assumption) | exact .t (Has.upd (by assumption)) | exact .t .h | exact .t (.t .h)), ?_⟩
          refine we_bin d_mul ?_
          refine we_call (cl_l_take c X0 G0) rm (by decide) gl_l_row_l_take ?_
          refine wa_cons ?_
          refine we_nm nm_l_row_0 .h ?_
          refine wa_cons ?_
          refine we_int ?_
          refine wa_nil ?_
          refine ⟨rfl, ?_⟩
          refine ⟨_, _, _, _, _, _, rfl, by omega, by omega, (by first | assumption | exact Has.upd (by assumption) | exact .h | exact .t (by assumption) | exact .t (Has.upd (by assumption)) | exact .t .h | exact .t (.t .h)), fun r4 x4 c4 hr4 hs4 => ?_⟩
          refine we_call (cl_l_take c X0 G0) rm (by decide) gl_l_row_l_take ?_
          refine wa_cons ?_
          refine we_nm nm_l_row_0 .h ?_
          refine wa_cons ?_
          refine we_int ?_
          refine wa_nil ?_
          refine ⟨rfl, ?_⟩
          refine ⟨_, _, _, _, _, _, rfl, by omega, by omega, (by first | assumption | exact Has.upd (by assumption) | exact .h | exact .t (by assumption) | exact .t (Has.upd (by assumption)) | exact .t .h | exact .t (.t .h)), fun r5 x5 c5 hr5 hs5 => ?_⟩
          refine rIIc (by first | exact Or.inr ⟨by omega, by omega⟩ | exact Or.inl ⟨by omega, by omega⟩) ?_
          refine ⟨_, _, (by first | assumption | exact Has.upd (by assumption) | exact .h | exact .t (by assumption) | exact .t (Has.upd (by assumption)) | exact .t .h | exact .t (.t .h)), by (try simp only [List.length_map, List.length_append, List.length_cons, List.length_nil]); omega, ?_⟩
          (try rw [snoc_int])
          refine ⟨ns ++ [_], _, _, _, rfl, rfl, by rw [List.length_append, hlen]; rfl, fun y hy => ?_⟩
          rcases List.mem_append.mp hy with hy | hy
          · exact hb y hy
          · rw [List.mem_singleton.mp hy]
            first | exact ⟨by omega, by omega⟩ | exact ⟨Int.mul_nonneg (by omega) (by omega), mul_small (by omega) (by omega) (by omega) (by omega)⟩
        · skip
          refine ws_one ?_
          refine ws_if ?_
          refine wt_cmp (d_eqA rm.eqU) ?_
          refine we_nm nm_l_row_2 (.t (.t .h)) ?_
          refine we_int ?_
          first | refine eqA_int ?_ | refine eqA_iL ?_ | refine eqA_str ?_ | refine eqA_bl ?_ | refine eqA_bL ?_ | refine eqA_iT ?_
          refine ⟨_, rfl, ?_⟩
          first | refine tf (fun hif11 => ?_) (fun hif11 => ?_) | refine tfn (fun hif11 => ?_) (fun hif11 => ?_) | refine tb (fun hif11 => ?_) (fun hif11 => ?_)
          · skip
            refine ws_one ?_
            refine ws_expr ?_
            refine we_append ?_
            refine we_nm nm_l_row_4 (.t (.t (.t (.t .h)))) ?_
            refine ⟨_, _, _, rfl, (by first | assumption | exact Has.upd (by assumption) | exact .h | exact .t (by assumption) | exact .t (Has.upd (by assumption)) | exact .t .h | exact .t (.t .h)), ?_⟩
            refine we_call (cl_l_number c X0 G0) rm (by decide) gl_l_row_l_number ?_
            refine wa_cons ?_
            refine we_nm nm_l_row_0 .h ?_
            refine wa_cons ?_
            refine we_bin d_pow ?_
            refine we_int ?_
            refine we_int ?_
            refine pow_lit (r := 1000000000000000000000000000000) ⟨by decide, by decide, by decide⟩ (by decide) ?_
            refine wa_nil ?_
            refine ⟨rfl, ?_⟩
            refine ⟨_, _, _, _, _, _, rfl, by omega, by omega, (by first | assumption | exact Has.upd (by assumption) | exact .h | exact .t (by assumption) | exact .t (Has.upd (by assumption)) | exact .t .h | exact .t (.t .h)), fun r6 x6 c6 hr6 hs6 => ?_⟩
            refine ⟨_, _, (by first | assumption | exact Has.upd (by assumption) | exact .h | exact .t (by assumption) | exact .t (Has.upd (by assumption)) | exact .t .h | exact .t (.t .h)), by (try simp only [List.length_map, List.length_append, List.length_cons, List.length_nil]); omega, ?_⟩
            (try rw [snoc_int])
            refine ⟨ns ++ [_], _, _, _, rfl, rfl, by rw [List.length_append, hlen]; rfl, fun y hy => ?_⟩
            rcases List.mem_append.mp hy with hy | hy
            · exact hb y hy
            · rw [List.mem_singleton.mp hy]
              first | exact ⟨by omega, by omega⟩ | exact ⟨Int.mul_nonneg (by omega) (by omega), mul_small (by omega) (by omega) (by omega) (by omega)⟩
          · skip
            refine ws_one ?_
            refine ws_expr ?_
            refine we_append ?_
            refine we_nm nm_l_row_4 (.t (.t (.t (.t .h)))) ?_
            refine ⟨_, _, _, rfl, (by first | assumption | exact Has.upd (by assumption) | exact .h | exact .t (by assumption) | exact .t (Has.upd (by assumption)) | exact .t .h | exact .t (.t .h)), ?_⟩
            refine we_call (cl_l_take c X0 G0) rm (by decide) gl_l_row_l_take ?_
            refine wa_cons ?_
            refine we_nm nm_l_row_0 .h ?_
            refine wa_cons ?_
            refine we_int ?_
            refine wa_nil ?_
            refine ⟨rfl, ?_⟩
            refine ⟨_, _, _, _, _, _, rfl, by omega, by omega, (by first | assumption | exact Has.upd (by assumption) | exact .h | exact .t (by assumption) | exact .t (Has.upd (by assumption)) | exact .t .h | exact .t (.t .h)), fun r7 x7 c7 hr7 hs7 => ?_⟩
            refine ⟨_, _, (by first | assumption | exact Has.upd (by assumption) | exact .h | exact .t (by assumption) | exact .t (Has.upd (by assumption)) | exact .t .h | exact .t (.t .h)), by (try simp only [List.length_map, List.length_append, List.length_cons, List.length_nil]); omega, ?_⟩
            (try rw [snoc_int])
            refine ⟨ns ++ [_], _, _, _, rfl, rfl, by rw [List.length_append, hlen]; rfl, fun y hy => ?_⟩
            rcases List.mem_append.mp hy with hy | hy
            · exact hb y hy
            · rw [List.mem_singleton.mp hy]
              first | exact ⟨by omega, by omega⟩ | exact ⟨Int.mul_nonneg (by omega) (by omega), mul_small (by omega) (by omega) (by omega) (by omega)⟩
  rintro Γ1 L1 ⟨ns, x', c', o5, rfl, rfl, hlen, hb⟩
  rw [rngD_len] at hlen
  refine ws_one ?_
  refine ws_ret ?_
  refine we_frzL ?_
  refine we_nm nm_l_row_4 (.t (.t (.t (.t .h)))) ?_
  exact ⟨_, _, _, rfl, rfl, hK ns _ _ (by omega) hb⟩
theorem fb_l_row : ∃ fd, FnB P w K mg base 8 (f_l_row.ad K) fd ["_law_bag_here", "_law_size"] (sp_l_row K) ∧ FnG P w K mg base 8 (f_l_row.ad K) (fun ds L Ex Kk => ds.length = 2 ∧ sp_l_row K ds L Ex Kk) ∧ PySem.W.keepIn K (.ref (f_l_row.ad K)) = true := by
  obtain ⟨fd, Fd⟩ := c.dfn 16 (t := f_l_row) rfl
  have B := fn_body (P := P) (w := w) (mg := mg) (base := base) (sp := sp_l_row K) (k := 7) Fd sc_l_row (fun cdv A outer s H E rm ds L Ex Kk hl h => b_l_row c X0 G0 rm h)
  have bN : Binds K fd ["_law_bag_here", "_law_size"] [] := FunD.bindsN Fd fun _ _ _ _ _ _ us hl => match us, hl with | [_, _], _ => rfl
  exact ⟨fd, B, FnB.pos0 B bN, Fd.kp⟩
theorem fg_l_row : FnG P w K mg base 8 (f_l_row.ad K) (fun ds L Ex Kk => ds.length = 2 ∧ sp_l_row K ds L Ex Kk) := by
  obtain ⟨fd, _, z, _⟩ := fb_l_row c X0 G0
  exact z
theorem cl_l_row : Cl P w K mg base 8 "_law_row" (fun ds L Ex Kk => ds.length = 2 ∧ sp_l_row K ds L Ex Kk) := by
  obtain ⟨fd, _, z, kp⟩ := fb_l_row c X0 G0
  exact ⟨⟨_, z, g_l_row c X0 G0, kp⟩, rfl⟩
end
/-! ### _law_round -/
theorem sc_l_round : FnScope ["_law_row_here"] ["_law_row_here"] (defScope s_l_round) := ⟨rfl, rfl, rfl, by decide +kernel, rfl, by decide +kernel, by decide +kernel⟩
abbrev X_l_round (P : Program) (w : World) (K : PySem.W.Frag) (mg : Str → Option Value) (base : Heap) (f : Addr) (cdv : Value) (A : Around) (outer : List Env) (s : Shared) (H : Hp) (E : XK) : Cx := cxD P w K mg base ["_law_row_here"] "_law_round" (defScope s_l_round) f cdv A outer s H E
def sp_l_round (K : PySem.W.Frag) : TSp := fun ds L Ex Kk => ∃ (ns : List Int), ds = [.lst (ns.map Dt.int)] ∧ 1 ≤ ns.length ∧ ns.length ≤ 12 ∧ (∀ x ∈ ns, 0 ≤ x) ∧ Kk (rd K ns) L
section
variable {P : Program} {w : World} {K : PySem.W.Frag} {mg : Str → Option Value} {base : Heap} {f : Addr} {cdv : Value} {A : Around} {outer : List Env} {s : Shared} {H : Hp} {E : XK} {h : Heap}
theorem nm_l_round_0 : Nm (X_l_round P w K mg base f cdv A outer s H E) "_law_row_here" 0 := ⟨rfl, by first | exact .inl rfl | exact .inr (.inl rfl) | exact .inr (.inr rfl), rfl, rfl⟩
theorem gl_l_round_Round : Gl (X_l_round P w K mg base f cdv A outer s H E) "Round" := rfl
theorem gl_l_round_len : Gl (X_l_round P w K mg base f cdv A outer s H E) "len" := rfl
end
section
variable {P : Program} {w : World} {K : PySem.W.Frag} {mg : Str → Option Value} {base : Heap} {f : Addr} {cdv : Value} {A : Around} {outer : List Env} {s : Shared} {H : Hp} {E : XK} {h : Heap} (c : SaysM fa fn K) (X0 : K.In h) (G0 : h.Ns mainGlobals mg)
include c X0 G0
theorem b_l_round (rm : Rm 4 (X_l_round P w K mg base f cdv A outer s H E).A) {ds : List Dt} {L : Cells} {Ex : XD} {Kk : KD} (h : sp_l_round K ds L Ex Kk) : WSs (X_l_round P w K mg base f cdv A outer s H E) (defBody s_l_round) (gIn ["_law_row_here"] ds) L Ex { nx := fun _ L' => Kk .non L', rt := Kk } := by
  obtain ⟨ns, rfl, h1, h12, h0, hK⟩ := h
  change WSs _ _ [some _] _ _ _
  refine ws_cons ?_
  refine ws_if ?_
  refine wt_cmp (d_eqA rm.eqU) ?_
  refine we_blt (b_len) ⟨gl_l_round_len, u_len c X0 G0⟩ rfl ?_
  refine wa_cons ?_
  refine we_nm nm_l_round_0 .h ?_
  refine wa_nil ?_
  first | refine len_iL ?_ | refine len_iT ?_ | refine len_iR ?_ | refine len_iO (by first | assumption | exact Has.upd (by assumption) | exact .h | exact .t (by assumption) | exact .t (Has.upd (by assumption)) | exact .t .h | exact .t (.t .h)) ?_ | refine len_lst ?_ | refine len_tup ?_
  refine we_int ?_
  first | refine eqA_int ?_ | refine eqA_iL ?_ | refine eqA_str ?_ | refine eqA_bl ?_ | refine eqA_bL ?_ | refine eqA_iT ?_
  refine ⟨_, rfl, ?_⟩
  first | refine tf (fun hif1 => ?_) (fun hif1 => ?_) | refine tfn (fun hif1 => ?_) (fun hif1 => ?_) | refine tb (fun hif1 => ?_) (fun hif1 => ?_)
  · skip
    refine ws_one ?_
    refine ws_ret ?_
    refine we_frzI ?_
    refine we_make (mk_Round c X0 G0) rm (by decide) gl_l_round_Round ?_
    refine wa_cons ?_
    refine we_ix ix_d ?_
    refine we_nm nm_l_round_0 .h ?_
    refine we_int ?_
    first | refine ixd_own (by first | assumption | exact Has.upd (by assumption) | exact .h | exact .t (by assumption) | exact .t (Has.upd (by assumption)) | exact .t .h | exact .t (.t .h)) rfl ?_ | refine ixd_lst rfl ?_ | refine ixd_tup rfl ?_ | refine ix_iL (by omega) (by omega) ?_ | refine ix_iT (by omega) (by omega) ?_ | refine ix_iR (by omega) (by omega) ?_ | refine ix_iO (by first | assumption | exact Has.upd (by assumption) | exact .h | exact .t (by assumption) | exact .t (Has.upd (by assumption)) | exact .t .h | exact .t (.t .h)) (by omega) (by omega) ?_ | refine ix_iLn (by omega) (by omega) ?_
    refine wa_nil ?_
    intro a
    refine ⟨by simp, by simp, a, ns, _, by rw [rl (show ns.length = 1 by omega)]; rfl, by omega, by omega, h0, .h, rfl, _, _, _, _, _, rfl, rfl, ?_⟩
    exact hK
  refine ws_nil ?_
  refine ws_cons ?_
  refine ws_if ?_
  refine wt_cmp (d_eqA rm.eqU) ?_
  refine we_blt (b_len) ⟨gl_l_round_len, u_len c X0 G0⟩ rfl ?_
  refine wa_cons ?_
  refine we_nm nm_l_round_0 .h ?_
  refine wa_nil ?_
  first | refine len_iL ?_ | refine len_iT ?_ | refine len_iR ?_ | refine len_iO (by first | assumption | exact Has.upd (by assumption) | exact .h | exact .t (by assumption) | exact .t (Has.upd (by assumption)) | exact .t .h | exact .t (.t .h)) ?_ | refine len_lst ?_ | refine len_tup ?_
  refine we_int ?_
  first | refine eqA_int ?_ | refine eqA_iL ?_ | refine eqA_str ?_ | refine eqA_bl ?_ | refine eqA_bL ?_ | refine eqA_iT ?_
  refine ⟨_, rfl, ?_⟩
  first | refine tf (fun hif3 => ?_) (fun hif3 => ?_) | refine tfn (fun hif3 => ?_) (fun hif3 => ?_) | refine tb (fun hif3 => ?_) (fun hif3 => ?_)
  · skip
    refine ws_one ?_
    refine ws_ret ?_
    refine we_frzI ?_
    refine we_make (mk_Round c X0 G0) rm (by decide) gl_l_round_Round ?_
    refine wa_cons ?_
    refine we_ix ix_d ?_
    refine we_nm nm_l_round_0 .h ?_
    refine we_int ?_
    first | refine ixd_own (by first | assumption | exact Has.upd (by assumption) | exact .h | exact .t (by assumption) | exact .t (Has.upd (by assumption)) | exact .t .h | exact .t (.t .h)) rfl ?_ | refine ixd_lst rfl ?_ | refine ixd_tup rfl ?_ | refine ix_iL (by omega) (by omega) ?_ | refine ix_iT (by omega) (by omega) ?_ | refine ix_iR (by omega) (by omega) ?_ | refine ix_iO (by first | assumption | exact Has.upd (by assumption) | exact .h | exact .t (by assumption) | exact .t (Has.upd (by assumption)) | exact .t .h | exact .t (.t .h)) (by omega) (by omega) ?_ | refine ix_iLn (by omega) (by omega) ?_
    refine wa_cons ?_
    refine we_ix ix_d ?_
    refine we_nm nm_l_round_0 .h ?_
    refine we_int ?_
    first | refine ixd_own (by first | assumption | exact Has.upd (by assumption) | exact .h | exact .t (by assumption) | exact .t (Has.upd (by assumption)) | exact .t .h | exact .t (.t .h)) rfl ?_ | refine ixd_lst rfl ?_ | refine ixd_tup rfl ?_ | refine ix_iL (by omega) (by omega) ?_ | refine ix_iT (by omega) (by omega) ?_ | refine ix_iR (by omega) (by omega) ?_ | refine ix_iO (by first | assumption | exact Has.upd (by assumption) | exact .h | exact .t (by assumption) | exact .t (Has.upd (by assumption)) | exact .t .h | exact .t (.t .h)) (by omega) (by omega) ?_ | refine ix_iLn (by omega) (by omega) ?_
    refine wa_nil ?_
    intro a
    refine ⟨by simp, by simp, a, ns, _, by rw [rl (show ns.length = 2 by omega)]; rfl, by omega, by omega, h0, .h, rfl, _, _, _, _, _, rfl, rfl, ?_⟩
    exact hK
  refine ws_nil ?_
  refine ws_cons ?_
  refine ws_if ?_
  refine wt_cmp (d_eqA rm.eqU) ?_
  refine we_blt (b_len) ⟨gl_l_round_len, u_len c X0 G0⟩ rfl ?_
  refine wa_cons ?_
  refine we_nm nm_l_round_0 .h ?_
  refine wa_nil ?_
  first | refine len_iL ?_ | refine len_iT ?_ | refine len_iR ?_ | refine len_iO (by first | assumption | exact Has.upd (by assumption) | exact .h | exact .t (by assumption) | exact .t (Has.upd (by assumption)) | exact .t .h | exact .t (.t .h)) ?_ | refine len_lst ?_ | refine len_tup ?_
  refine we_int ?_
  first | refine eqA_int ?_ | refine eqA_iL ?_ | refine eqA_str ?_ | refine eqA_bl ?_ | refine eqA_bL ?_ | refine eqA_iT ?_
  refine ⟨_, rfl, ?_⟩
  first | refine tf (fun hif5 => ?_) (fun hif5 => ?_) | refine tfn (fun hif5 => ?_) (fun hif5 => ?_) | refine tb (fun hif5 => ?_) (fun hif5 => ?_)
  · skip
    refine ws_one ?_
    refine ws_ret ?_
    refine we_frzI ?_
    refine we_make (mk_Round c X0 G0) rm (by decide) gl_l_round_Round ?_
    refine wa_cons ?_
    refine we_ix ix_d ?_
    refine we_nm nm_l_round_0 .h ?_
    refine we_int ?_
    first | refine ixd_own (by first | assumption | exact Has.upd (by assumption) | exact .h | exact .t (by assumption) | exact .t (Has.upd (by assumption)) | exact .t .h | exact .t (.t .h)) rfl ?_ | refine ixd_lst rfl ?_ | refine ixd_tup rfl ?_ | refine ix_iL (by omega) (by omega) ?_ | refine ix_iT (by omega) (by omega) ?_ | refine ix_iR (by omega) (by omega) ?_ | refine ix_iO (by first | assumption | exact Has.upd (by assumption) | exact .h | exact .t (by assumption) | exact .t (Has.upd (by assumption)) | exact .t .h | exact .t (.t .h)) (by omega) (by omega) ?_ | refine ix_iLn (by omega) (by omega) ?_
    refine wa_cons ?_
    refine we_ix ix_d ?_
    refine we_nm nm_l_round_0 .h ?_
    refine we_int ?_
    first | refine ixd_own (by first | assumption | exact Has.upd (by assumption) | exact .h | exact .t (by assumption) | exact .t (Has.upd (by assumption)) | exact .t .h | exact .t (.t .h)) rfl ?_ | refine ixd_lst rfl ?_ | refine ixd_tup rfl ?_ | refine ix_iL (by omega) (by omega) ?_ | refine ix_iT (by omega) (by omega) ?_ | refine ix_iR (by omega) (by omega) ?_ | refine ix_iO (by first | assumption | exact Has.upd (by assumption) | exact .h | exact .t (by assumption) | exact .t (Has.upd (by assumption)) | exact .t .h | exact .t (.t .h)) (by omega) (by omega) ?_ | refine ix_iLn (by omega) (by omega) ?_
    refine wa_cons ?_
    refine we_ix ix_d ?_
    refine we_nm nm_l_round_0 .h ?_
    refine we_int ?_
    first | refine ixd_own (by first | assumption | exact Has.upd (by assumption) | exact .h | exact .t (by assumption) | exact .t (Has.upd (by assumption)) | exact .t .h | exact .t (.t .h)) rfl ?_ | refine ixd_lst rfl ?_ | refine ixd_tup rfl ?_ | refine ix_iL (by omega) (by omega) ?_ | refine ix_iT (by omega) (by omega) ?_ | refine ix_iR (by omega) (by omega) ?_ | refine ix_iO (by first | assumption | exact Has.upd (by assumption) | exact .h | exact .t (by assumption) | exact .t (Has.upd (by assumption)) | exact .t .h | exact .t (.t .h)) (by omega) (by omega) ?_ | refine ix_iLn (by omega) (by omega) ?_
    refine wa_nil ?_
    intro a
    refine ⟨by simp, by simp, a, ns, _, by rw [rl (show ns.length = 3 by omega)]; rfl, by omega, by omega, h0, .h, rfl, _, _, _, _, _, rfl, rfl, ?_⟩
    exact hK
  refine ws_nil ?_
  refine ws_cons ?_
  refine ws_if ?_
  refine wt_cmp (d_eqA rm.eqU) ?_
  refine we_blt (b_len) ⟨gl_l_round_len, u_len c X0 G0⟩ rfl ?_
  refine wa_cons ?_
  refine we_nm nm_l_round_0 .h ?_
  refine wa_nil ?_
  first | refine len_iL ?_ | refine len_iT ?_ | refine len_iR ?_ | refine len_iO (by first | assumption | exact Has.upd (by assumption) | exact .h | exact .t (by assumption) | exact .t (Has.upd (by assumption)) | exact .t .h | exact .t (.t .h)) ?_ | refine len_lst ?_ | refine len_tup ?_
  refine we_int ?_
  first | refine eqA_int ?_ | refine eqA_iL ?_ | refine eqA_str ?_ | refine eqA_bl ?_ | refine eqA_bL ?_ | refine eqA_iT ?_
  refine ⟨_, rfl, ?_⟩
  first | refine tf (fun hif7 => ?_) (fun hif7 => ?_) | refine tfn (fun hif7 => ?_) (fun hif7 => ?_) | refine tb (fun hif7 => ?_) (fun hif7 => ?_)
  · skip
    refine ws_one ?_
    refine ws_ret ?_
    refine we_frzI ?_
    refine we_make (mk_Round c X0 G0) rm (by decide) gl_l_round_Round ?_
    refine wa_cons ?_
    refine we_ix ix_d ?_
    refine we_nm nm_l_round_0 .h ?_
    refine we_int ?_
    first | refine ixd_own (by first | assumption | exact Has.upd (by assumption) | exact .h | exact .t (by assumption) | exact .t (Has.upd (by assumption)) | exact .t .h | exact .t (.t .h)) rfl ?_ | refine ixd_lst rfl ?_ | refine ixd_tup rfl ?_ | refine ix_iL (by omega) (by omega) ?_ | refine ix_iT (by omega) (by omega) ?_ | refine ix_iR (by omega) (by omega) ?_ | refine ix_iO (by first | assumption | exact Has.upd (by assumption) | exact .h | exact .t (by assumption) | exact .t (Has.upd (by assumption)) | exact .t .h | exact .t (.t .h)) (by omega) (by omega) ?_ | refine ix_iLn (by omega) (by omega) ?_
    refine wa_cons ?_
    refine we_ix ix_d ?_
    refine we_nm nm_l_round_0 .h ?_
    refine we_int ?_
    first | refine ixd_own (by first | assumption | exact Has.upd (by assumption) | exact .h | exact .t (by assumption) | exact .t (Has.upd (by assumption)) | exact .t .h | exact .t (.t .h)) rfl ?_ | refine ixd_lst rfl ?_ | refine ixd_tup rfl ?_ | refine ix_iL (by omega) (by omega) ?_ | refine ix_iT (by omega) (by omega) ?_ | refine ix_iR (by omega) (by omega) ?_ | refine ix_iO (by first | assumption | exact Has.upd (by assumption) | exact .h | exact .t (by assumption) | exact .t (Has.upd (by assumption)) | exact .t .h | exact .t (.t .h)) (by omega) (by omega) ?_ | refine ix_iLn (by omega) (by omega) ?_
    refine wa_cons ?_
    refine we_ix ix_d ?_
    refine we_nm nm_l_round_0 .h ?_
    refine we_int ?_
    first | refine ixd_own (by first | assumption | exact Has.upd (by assumption) | exact .h | exact .t (by assumption) | exact .t (Has.upd (by assumption)) | exact .t .h | exact .t (.t .h)) rfl ?_ | refine ixd_lst rfl ?_ | refine ixd_tup rfl ?_ | refine ix_iL (by omega) (by omega) ?_ | refine ix_iT (by omega) (by omega) ?_ | refine ix_iR (by omega) (by omega) ?_ | refine ix_iO (by first | assumption | exact Has.upd (by assumption) | exact .h | exact .t (by assumption) | exact .t (Has.upd (by assumption)) | exact .t .h | exact .t (.t .h)) (by omega) (by omega) ?_ | refine ix_iLn (by omega) (by omega) ?_
    refine wa_cons ?_
    refine we_ix ix_d ?_
    refine we_nm nm_l_round_0 .h ?_
    refine we_int ?_
    first | refine ixd_own (by first | assumption | exact Has.upd (by assumption) | exact .h | exact .t (by assumption) | exact .t (Has.upd (by assumption)) | exact .t .h | exact .t (.t .h)) rfl ?_ | refine ixd_lst rfl ?_ | refine ixd_tup rfl ?_ | refine ix_iL (by omega) (by omega) ?_ | refine ix_iT (by omega) (by omega) ?_ | refine ix_iR (by omega) (by omega) ?_ | refine ix_iO (by first | assumption | exact Has.upd (by assumption) | exact .h | exact .t (by assumption) | exact .t (Has.upd (by assumption)) | exact .t .h | exact .t (.t .h)) (by omega) (by omega) ?_ | refine ix_iLn (by omega) (by omega) ?_
    refine wa_nil ?_
    intro a
    refine ⟨by simp, by simp, a, ns, _, by rw [rl (show ns.length = 4 by omega)]; rfl, by omega, by omega, h0, .h, rfl, _, _, _, _, _, rfl, rfl, ?_⟩
    exact hK
  refine ws_nil ?_
  refine ws_cons ?_
  refine ws_if ?_
  refine wt_cmp (d_eqA rm.eqU) ?_
  refine we_blt (b_len) ⟨gl_l_round_len, u_len c X0 G0⟩ rfl ?_
  refine wa_cons ?_
  refine we_nm nm_l_round_0 .h ?_
  refine wa_nil ?_
  first | refine len_iL ?_ | refine len_iT ?_ | refine len_iR ?_ | refine len_iO (by first | assumption | exact Has.upd (by assumption) | exact .h | exact .t (by assumption) | exact .t (Has.upd (by assumption)) | exact .t .h | exact .t (.t .h)) ?_ | refine len_lst ?_ | refine len_tup ?_
  refine we_int ?_
  first | refine eqA_int ?_ | refine eqA_iL ?_ | refine eqA_str ?_ | refine eqA_bl ?_ | refine eqA_bL ?_ | refine eqA_iT ?_
  refine ⟨_, rfl, ?_⟩
  first | refine tf (fun hif9 => ?_) (fun hif9 => ?_) | refine tfn (fun hif9 => ?_) (fun hif9 => ?_) | refine tb (fun hif9 => ?_) (fun hif9 => ?_)
  · skip
    refine ws_one ?_
    refine ws_ret ?_
    refine we_frzI ?_
    refine we_make (mk_Round c X0 G0) rm (by decide) gl_l_round_Round ?_
    refine wa_cons ?_
    refine we_ix ix_d ?_
    refine we_nm nm_l_round_0 .h ?_
    refine we_int ?_
    first | refine ixd_own (by first | assumption | exact Has.upd (by assumption) | exact .h | exact .t (by assumption) | exact .t (Has.upd (by assumption)) | exact .t .h | exact .t (.t .h)) rfl ?_ | refine ixd_lst rfl ?_ | refine ixd_tup rfl ?_ | refine ix_iL (by omega) (by omega) ?_ | refine ix_iT (by omega) (by omega) ?_ | refine ix_iR (by omega) (by omega) ?_ | refine ix_iO (by first | assumption | exact Has.upd (by assumption) | exact .h | exact .t (by assumption) | exact .t (Has.upd (by assumption)) | exact .t .h | exact .t (.t .h)) (by omega) (by omega) ?_ | refine ix_iLn (by omega) (by omega) ?_
    refine wa_cons ?_
    refine we_ix ix_d ?_
    refine we_nm nm_l_round_0 .h ?_
    refine we_int ?_
    first | refine ixd_own (by first | assumption | exact Has.upd (by assumption) | exact .h | exact .t (by assumption) | exact .t (Has.upd (by assumption)) | exact .t .h | exact .t (.t .h)) rfl ?_ | refine ixd_lst rfl ?_ | refine ixd_tup rfl ?_ | refine ix_iL (by omega) (by omega) ?_ | refine ix_iT (by omega) (by omega) ?_ | refine ix_iR (by omega) (by omega) ?_ | refine ix_iO (by first | assumption | exact Has.upd (by assumption) | exact .h | exact .t (by assumption) | exact .t (Has.upd (by assumption)) | exact .t .h | exact .t (.t .h)) (by omega) (by omega) ?_ | refine ix_iLn (by omega) (by omega) ?_
    refine wa_cons ?_
    refine we_ix ix_d ?_
    refine we_nm nm_l_round_0 .h ?_
    refine we_int ?_
    first | refine ixd_own (by first | assumption | exact Has.upd (by assumption) | exact .h | exact .t (by assumption) | exact .t (Has.upd (by assumption)) | exact .t .h | exact .t (.t .h)) rfl ?_ | refine ixd_lst rfl ?_ | refine ixd_tup rfl ?_ | refine ix_iL (by omega) (by omega) ?_ | refine ix_iT (by omega) (by omega) ?_ | refine ix_iR (by omega) (by omega) ?_ | refine ix_iO (by first | assumption | exact Has.upd (by assumption) | exact .h | exact .t (by assumption) | exact .t (Has.upd (by assumption)) | exact .t .h | exact .t (.t .h)) (by omega) (by omega) ?_ | refine ix_iLn (by omega) (by omega) ?_
    refine wa_cons ?_
    refine we_ix ix_d ?_
    refine we_nm nm_l_round_0 .h ?_
    refine we_int ?_
    first | refine ixd_own (by first | assumption | exact Has.upd (by assumption) | exact .h | exact .t (by assumption) | exact .t (Has.upd (by assumption)) | exact .t .h | exact .t (.t .h)) rfl ?_ | refine ixd_lst rfl ?_ | refine ixd_tup rfl ?_ | refine ix_iL (by omega) (by omega) ?_ | refine ix_iT (by omega) (by omega) ?_ | refine ix_iR (by omega) (by omega) ?_ | refine ix_iO (by first | assumption | exact Has.upd (by assumption) | exact .h | exact .t (by assumption) | exact .t (Has.upd (by assumption)) | exact .t .h | exact .t (.t .h)) (by omega) (by omega) ?_ | refine ix_iLn (by omega) (by omega) ?_
    refine wa_cons ?_
    refine we_ix ix_d ?_
    refine we_nm nm_l_round_0 .h ?_
    refine we_int ?_
    first | refine ixd_own (by first | assumption | exact Has.upd (by assumption) | exact .h | exact .t (by assumption) | exact .t (Has.upd (by assumption)) | exact .t .h | exact .t (.t .h)) rfl ?_ | refine ixd_lst rfl ?_ | refine ixd_tup rfl ?_ | refine ix_iL (by omega) (by omega) ?_ | refine ix_iT (by omega) (by omega) ?_ | refine ix_iR (by omega) (by omega) ?_ | refine ix_iO (by first | assumption | exact Has.upd (by assumption) | exact .h | exact .t (by assumption) | exact .t (Has.upd (by assumption)) | exact .t .h | exact .t (.t .h)) (by omega) (by omega) ?_ | refine ix_iLn (by omega) (by omega) ?_
    refine wa_nil ?_
    intro a
    refine ⟨by simp, by simp, a, ns, _, by rw [rl (show ns.length = 5 by omega)]; rfl, by omega, by omega, h0, .h, rfl, _, _, _, _, _, rfl, rfl, ?_⟩
    exact hK
  refine ws_nil ?_
  refine ws_cons ?_
  refine ws_if ?_
  refine wt_cmp (d_eqA rm.eqU) ?_
  refine we_blt (b_len) ⟨gl_l_round_len, u_len c X0 G0⟩ rfl ?_
  refine wa_cons ?_
  refine we_nm nm_l_round_0 .h ?_
  refine wa_nil ?_
  first | refine len_iL ?_ | refine len_iT ?_ | refine len_iR ?_ | refine len_iO (by first | assumption | exact Has.upd (by assumption) | exact .h | exact .t (by assumption) | exact .t (Has.upd (by assumption)) | exact .t .h | exact .t (.t .h)) ?_ | refine len_lst ?_ | refine len_tup ?_
  refine we_int ?_
  first | refine eqA_int ?_ | refine eqA_iL ?_ | refine eqA_str ?_ | refine eqA_bl ?_ | refine eqA_bL ?_ | refine eqA_iT ?_
  refine ⟨_, rfl, ?_⟩
  first | refine tf (fun hif11 => ?_) (fun hif11 => ?_) | refine tfn (fun hif11 => ?_) (fun hif11 => ?_) | refine tb (fun hif11 => ?_) (fun hif11 => ?_)
  · skip
    refine ws_one ?_
    refine ws_ret ?_
    refine we_frzI ?_
    refine we_make (mk_Round c X0 G0) rm (by decide) gl_l_round_Round ?_
    refine wa_cons ?_
    refine we_ix ix_d ?_
    refine we_nm nm_l_round_0 .h ?_
    refine we_int ?_
    first | refine ixd_own (by first | assumption | exact Has.upd (by assumption) | exact .h | exact .t (by assumption) | exact .t (Has.upd (by assumption)) | exact .t .h | exact .t (.t .h)) rfl ?_ | refine ixd_lst rfl ?_ | refine ixd_tup rfl ?_ | refine ix_iL (by omega) (by omega) ?_ | refine ix_iT (by omega) (by omega) ?_ | refine ix_iR (by omega) (by omega) ?_ | refine ix_iO (by first | assumption | exact Has.upd (by assumption) | exact .h | exact .t (by assumption) | exact .t (Has.upd (by assumption)) | exact .t .h | exact .t (.t .h)) (by omega) (by omega) ?_ | refine ix_iLn (by omega) (by omega) ?_
    refine wa_cons ?_
    refine we_ix ix_d ?_
    refine we_nm nm_l_round_0 .h ?_
    refine we_int ?_
    first | refine ixd_own (by first | assumption | exact Has.upd (by assumption) | exact .h | exact .t (by assumption) | exact .t (Has.upd (by assumption)) | exact .t .h | exact .t (.t .h)) rfl ?_ | refine ixd_lst rfl ?_ | refine ixd_tup rfl ?_ | refine ix_iL (by omega) (by omega) ?_ | refine ix_iT (by omega) (by omega) ?_ | refine ix_iR (by omega) (by omega) ?_ | refine ix_iO (by first | assumption | exact Has.upd (by assumption) | exact .h | exact .t (by assumption) | exact .t (Has.upd (by assumption)) | exact .t .h | exact .t (.t .h)) (by omega) (by omega) ?_ | refine ix_iLn (by omega) (by omega) ?_
    refine wa_cons ?_
    refine we_ix ix_d ?_
    refine we_nm nm_l_round_0 .h ?_
    refine we_int ?_
    first | refine ixd_own (by first | assumption | exact Has.upd (by assumption) | exact .h | exact .t (by assumption) | exact .t (Has.upd (by assumption)) | exact .t .h | exact .t (.t .h)) rfl ?_ | refine ixd_lst rfl ?_ | refine ixd_tup rfl ?_ | refine ix_iL (by omega) (by omega) ?_ | refine ix_iT (by omega) (by omega) ?_ | refine ix_iR (by omega) (by omega) ?_ | refine ix_iO (by first | assumption | exact Has.upd (by assumption) | exact .h | exact .t (by assumption) | exact .t (Has.upd (by assumption)) | exact .t .h | exact .t (.t .h)) (by omega) (by omega) ?_ | refine ix_iLn (by omega) (by omega) ?_
    refine wa_cons ?_
    refine we_ix ix_d ?_
    refine we_nm nm_l_round_0 .h ?_
    refine we_int ?_
    first | refine ixd_own (by first | assumption | exact Has.upd (by assumption) | exact .h | exact .t (by assumption) | exact .t (Has.upd (by assumption)) | exact .t .h | exact .t (.t .h)) rfl ?_ | refine ixd_lst rfl ?_ | refine ixd_tup rfl ?_ | refine ix_iL (by omega) (by omega) ?_ | refine ix_iT (by omega) (by omega) ?_ | refine ix_iR (by omega) (by omega) ?_ | refine ix_iO (by first | assumption | exact Has.upd (by assumption) | exact .h | exact .t (by assumption) | exact .t (Has.upd (by assumption)) | exact .t .h | exact .t (.t .h)) (by omega) (by omega) ?_ | refine ix_iLn (by omega) (by omega) ?_
    refine wa_cons ?_
    refine we_ix ix_d ?_
    refine we_nm nm_l_round_0 .h ?_
    refine we_int ?_
    first | refine ixd_own (by first | assumption | exact Has.upd (by assumption) | exact .h | exact .t (by assumption) | exact .t (Has.upd (by assumption)) | exact .t .h | exact .t (.t .h)) rfl ?_ | refine ixd_lst rfl ?_ | refine ixd_tup rfl ?_ | refine ix_iL (by omega) (by omega) ?_ | refine ix_iT (by omega) (by omega) ?_ | refine ix_iR (by omega) (by omega) ?_ | refine ix_iO (by first | assumption | exact Has.upd (by assumption) | exact .h | exact .t (by assumption) | exact .t (Has.upd (by assumption)) | exact .t .h | exact .t (.t .h)) (by omega) (by omega) ?_ | refine ix_iLn (by omega) (by omega) ?_
    refine wa_cons ?_
    refine we_ix ix_d ?_
    refine we_nm nm_l_round_0 .h ?_
    refine we_int ?_
    first | refine ixd_own (by first | assumption | exact Has.upd (by assumption) | exact .h | exact .t (by assumption) | exact .t (Has.upd (by assumption)) | exact .t .h | exact .t (.t .h)) rfl ?_ | refine ixd_lst rfl ?_ | refine ixd_tup rfl ?_ | refine ix_iL (by omega) (by omega) ?_ | refine ix_iT (by omega) (by omega) ?_ | refine ix_iR (by omega) (by omega) ?_ | refine ix_iO (by first | assumption | exact Has.upd (by assumption) | exact .h | exact .t (by assumption) | exact .t (Has.upd (by assumption)) | exact .t .h | exact .t (.t .h)) (by omega) (by omega) ?_ | refine ix_iLn (by omega) (by omega) ?_
    refine wa_nil ?_
    intro a
    refine ⟨by simp, by simp, a, ns, _, by rw [rl (show ns.length = 6 by omega)]; rfl, by omega, by omega, h0, .h, rfl, _, _, _, _, _, rfl, rfl, ?_⟩
    exact hK
  refine ws_nil ?_
  refine ws_cons ?_
  refine ws_if ?_
  refine wt_cmp (d_eqA rm.eqU) ?_
  refine we_blt (b_len) ⟨gl_l_round_len, u_len c X0 G0⟩ rfl ?_
  refine wa_cons ?_
  refine we_nm nm_l_round_0 .h ?_
  refine wa_nil ?_
  first | refine len_iL ?_ | refine len_iT ?_ | refine len_iR ?_ | refine len_iO (by first | assumption | exact Has.upd (by assumption) | exact .h | exact .t (by assumption) | exact .t (Has.upd (by assumption)) | exact .t .h | exact .t (.t .h)) ?_ | refine len_lst ?_ | refine len_tup ?_
  refine we_int ?_
  first | refine eqA_int ?_ | refine eqA_iL ?_ | refine eqA_str ?_ | refine eqA_bl ?_ | refine eqA_bL ?_ | refine eqA_iT ?_
  refine ⟨_, rfl, ?_⟩
  first | refine tf (fun hif13 => ?_) (fun hif13 => ?_) | refine tfn (fun hif13 => ?_) (fun hif13 => ?_) | refine tb (fun hif13 => ?_) (fun hif13 => ?_)
  · skip
    refine ws_one ?_
    refine ws_ret ?_
    refine we_frzI ?_
    refine we_make (mk_Round c X0 G0) rm (by decide) gl_l_round_Round ?_
    refine wa_cons ?_
    refine we_ix ix_d ?_
    refine we_nm nm_l_round_0 .h ?_
    refine we_int ?_
    first | refine ixd_own (by first | assumption | exact Has.upd (by assumption) | exact .h | exact .t (by assumption) | exact .t (Has.upd (by assumption)) | exact .t .h | exact .t (.t .h)) rfl ?_ | refine ixd_lst rfl ?_ | refine ixd_tup rfl ?_ | refine ix_iL (by omega) (by omega) ?_ | refine ix_iT (by omega) (by omega) ?_ | refine ix_iR (by omega) (by omega) ?_ | refine ix_iO (by first | assumption | exact Has.upd (by assumption) | exact .h | exact .t (by assumption) | exact .t (Has.upd (by assumption)) | exact .t .h | exact .t (.t .h)) (by omega) (by omega) ?_ | refine ix_iLn (by omega) (by omega) ?_
    refine wa_cons ?_
    refine we_ix ix_d ?_
    refine we_nm nm_l_round_0 .h ?_
    refine we_int ?_
    first | refine ixd_own (by first | assumption | exact Has.upd (by assumption) | exact .h | exact .t (by assumption) | exact .t (Has.upd (by assumption)) | exact .t .h | exact .t (.t .h)) rfl ?_ | refine ixd_lst rfl ?_ | refine ixd_tup rfl ?_ | refine ix_iL (by omega) (by omega) ?_ | refine ix_iT (by omega) (by omega) ?_ | refine ix_iR (by omega) (by omega) ?_ | refine ix_iO (by first | assumption | exact Has.upd (by assumption) | exact .h | exact .t (by assumption) | exact .t (Has.upd (by assumption)) | exact .t .h | exact .t (.t .h)) (by omega) (by omega) ?_ | refine ix_iLn (by omega) (by omega) ?_
    refine wa_cons ?_
    refine we_ix ix_d ?_
    refine we_nm nm_l_round_0 .h ?_
    refine we_int ?_
    first | refine ixd_own (by first | assumption | exact Has.upd (by assumption) | exact .h | exact .t (by assumption) | exact .t (Has.upd (by assumption)) | exact .t .h | exact .t (.t .h)) rfl ?_ | refine ixd_lst rfl ?_ | refine ixd_tup rfl ?_ | refine ix_iL (by omega) (by omega) ?_ | refine ix_iT (by omega) (by omega) ?_ | refine ix_iR (by omega) (by omega) ?_ | refine ix_iO (by first | assumption | exact Has.upd (by assumption) | exact .h | exact .t (by assumption) | exact .t (Has.upd (by assumption)) | exact .t .h | exact .t (.t .h)) (by omega) (by omega) ?_ | refine ix_iLn (by omega) (by omega) ?_
    refine wa_cons ?_
    refine we_ix ix_d ?_
    refine we_nm nm_l_round_0 .h ?_
    refine we_int ?_
    first | refine ixd_own (by first | assumption | exact Has.upd (by assumption) | exact .h | exact .t (by assumption) | exact .t (Has.upd (by assumption)) | exact .t .h | exact .t (.t .h)) rfl ?_ | refine ixd_lst rfl ?_ | refine ixd_tup rfl ?_ | refine ix_iL (by omega) (by omega) ?_ | refine ix_iT (by omega) (by omega) ?_ | refine ix_iR (by omega) (by omega) ?_ | refine ix_iO (by first | assumption | exact Has.upd (by assumption) | exact .h | exact .t (by assumption) | exact .t (Has.upd (by assumption)) | exact .t .h | exact .t (.t .h)) (by omega) (by omega) ?_ | refine ix_iLn (by omega) (by omega) ?_
    refine wa_cons ?_
    refine we_ix ix_d ?_
    refine we_nm nm_l_round_0 .h ?_
    refine we_int ?_
    first | refine ixd_own (by first | assumption | exact Has.upd (by assumption) | exact .h | exact .t (by assumption) | exact .t (Has.upd (by assumption)) | exact .t .h | exact .t (.t .h)) rfl ?_ | refine ixd_lst rfl ?_ | refine ixd_tup rfl ?_ | refine ix_iL (by omega) (by omega) ?_ | refine ix_iT (by omega) (by omega) ?_ | refine ix_iR (by omega) (by omega) ?_ | refine ix_iO (by first | assumption | exact Has.upd (by assumption) | exact .h | exact .t (by assumption) | exact .t (Has.upd (by assumption)) | exact .t .h | exact .t (.t .h)) (by omega) (by omega) ?_ | refine ix_iLn (by omega) (by omega) ?_
    refine wa_cons ?_
    refine we_ix ix_d ?_
    refine we_nm nm_l_round_0 .h ?_
    refine we_int ?_
    first | refine ixd_own (by first | assumption | exact Has.upd (by assumption) | exact .h | exact .t (by assumption) | exact .t (Has.upd (by assumption)) | exact .t .h | exact .t (.t .h)) rfl ?_ | refine ixd_lst rfl ?_ | refine ixd_tup rfl ?_ | refine ix_iL (by omega) (by omega) ?_ | refine ix_iT (by omega) (by omega) ?_ | refine ix_iR (by omega) (by omega) ?_ | refine ix_iO (by first | assumption | exact Has.upd (by assumption) | exact .h | exact .t (by assumption) | exact .t (Has.upd (by assumption)) | exact .t .h | exact .t (.t .h)) (by omega) (by omega) ?_ | refine ix_iLn (by omega) (by omega) ?_
    refine wa_cons ?_
    refine we_ix ix_d ?_
    refine we_nm nm_l_round_0 .h ?_
    refine we_int ?_
    first | refine ixd_own (by first | assumption | exact Has.upd (by assumption) | exact .h | exact .t (by assumption) | exact .t (Has.upd (by assumption)) | exact .t .h | exact .t (.t .h)) rfl ?_ | refine ixd_lst rfl ?_ | refine ixd_tup rfl ?_ | refine ix_iL (by omega) (by omega) ?_ | refine ix_iT (by omega) (by omega) ?_ | refine ix_iR (by omega) (by omega) ?_ | refine ix_iO (by first | assumption | exact Has.upd (by assumption) | exact .h | exact .t (by assumption) | exact .t (Has.upd (by assumption)) | exact .t .h | exact .t (.t .h)) (by omega) (by omega) ?_ | refine ix_iLn (by omega) (by omega) ?_
    refine wa_nil ?_
    intro a
    refine ⟨by simp, by simp, a, ns, _, by rw [rl (show ns.length = 7 by omega)]; rfl, by omega, by omega, h0, .h, rfl, _, _, _, _, _, rfl, rfl, ?_⟩
    exact hK
  refine ws_nil ?_
  refine ws_cons ?_
  refine ws_if ?_
  refine wt_cmp (d_eqA rm.eqU) ?_
  refine we_blt (b_len) ⟨gl_l_round_len, u_len c X0 G0⟩ rfl ?_
  refine wa_cons ?_
  refine we_nm nm_l_round_0 .h ?_
  refine wa_nil ?_
  first | refine len_iL ?_ | refine len_iT ?_ | refine len_iR ?_ | refine len_iO (by first | assumption | exact Has.upd (by assumption) | exact .h | exact .t (by assumption) | exact .t (Has.upd (by assumption)) | exact .t .h | exact .t (.t .h)) ?_ | refine len_lst ?_ | refine len_tup ?_
  refine we_int ?_
  first | refine eqA_int ?_ | refine eqA_iL ?_ | refine eqA_str ?_ | refine eqA_bl ?_ | refine eqA_bL ?_ | refine eqA_iT ?_
  refine ⟨_, rfl, ?_⟩
  first | refine tf (fun hif15 => ?_) (fun hif15 => ?_) | refine tfn (fun hif15 => ?_) (fun hif15 => ?_) | refine tb (fun hif15 => ?_) (fun hif15 => ?_)
  · skip
    refine ws_one ?_
    refine ws_ret ?_
    refine we_frzI ?_
    refine we_make (mk_Round c X0 G0) rm (by decide) gl_l_round_Round ?_
    refine wa_cons ?_
    refine we_ix ix_d ?_
    refine we_nm nm_l_round_0 .h ?_
    refine we_int ?_
    first | refine ixd_own (by first | assumption | exact Has.upd (by assumption) | exact .h | exact .t (by assumption) | exact .t (Has.upd (by assumption)) | exact .t .h | exact .t (.t .h)) rfl ?_ | refine ixd_lst rfl ?_ | refine ixd_tup rfl ?_ | refine ix_iL (by omega) (by omega) ?_ | refine ix_iT (by omega) (by omega) ?_ | refine ix_iR (by omega) (by omega) ?_ | refine ix_iO (by first | assumption | exact Has.upd (by assumption) | exact .h | exact .t (by assumption) | exact .t (Has.upd (by assumption)) | exact .t .h | exact .t (.t .h)) (by omega) (by omega) ?_ | refine ix_iLn (by omega) (by omega) ?_
    refine wa_cons ?_
    refine we_ix ix_d ?_
    refine we_nm nm_l_round_0 .h ?_
    refine we_int ?_
    first | refine ixd_own (by first | assumption | exact Has.upd (by assumption) | exact .h | exact .t (by assumption) | exact .t (Has.upd (by assumption)) | exact .t .h | exact .t (.t .h)) rfl ?_ | refine ixd_lst rfl ?_ | refine ixd_tup rfl ?_ | refine ix_iL (by omega) (by omega) ?_ | refine ix_iT (by omega) (by omega) ?_ | refine ix_iR (by omega) (by omega) ?_ | refine ix_iO (by first | assumption | exact Has.upd (by assumption) | exact .h | exact .t (by assumption) | exact .t (Has.upd (by assumption)) | exact .t .h | exact .t (.t .h)) (by omega) (by omega) ?_ | refine ix_iLn (by omega) (by omega) ?_
    refine wa_cons ?_
    refine we_ix ix_d ?_
    refine we_nm nm_l_round_0 .h ?_
    refine we_int ?_
    first | refine ixd_own (by first | assumption | exact Has.upd (by assumption) | exact .h | exact .t (by assumption) | exact .t (Has.upd (by assumption)) | exact .t .h | exact .t (.t .h)) rfl ?_ | refine ixd_lst rfl ?_ | refine ixd_tup rfl ?_ | refine ix_iL (by omega) (by omega) ?_ | refine ix_iT (by omega) (by omega) ?_ | refine ix_iR (by omega) (by omega) ?_ | refine ix_iO (by first | assumption | exact Has.upd (by assumption) | exact .h | exact .t (by assumption) | exact .t (Has.upd (by assumption)) | exact .t .h | exact .t (.t .h)) (by omega) (by omega) ?_ | refine ix_iLn (by omega) (by omega) ?_
    refine wa_cons ?_
    refine we_ix ix_d ?_
    refine we_nm nm_l_round_0 .h ?_
    refine we_int ?_
    first | refine ixd_own (by first | assumption | exact Has.upd (by assumption) | exact .h | exact .t (by assumption) | exact .t (Has.upd (by assumption)) | exact .t .h | exact .t (.t .h)) rfl ?_ | refine ixd_lst rfl ?_ | refine ixd_tup rfl ?_ | refine ix_iL (by omega) (by omega) ?_ | refine ix_iT (by omega) (by omega) ?_ | refine ix_iR (by omega) (by omega) ?_ | refine ix_iO (by first | assumption | exact Has.upd (by assumption) | exact .h | exact .t (by assumption) | exact .t (Has.upd (by assumption)) | exact .t .h | exact .t (.t .h)) (by omega) (by omega) ?_ | refine ix_iLn (by omega) (by omega) ?_
    refine wa_cons ?_
    refine we_ix ix_d ?_
    refine we_nm nm_l_round_0 .h ?_
    refine we_int ?_
    first | refine ixd_own (by first | assumption | exact Has.upd (by assumption) | exact .h | exact .t (by assumption) | exact .t (Has.upd (by assumption)) | exact .t .h | exact .t (.t .h)) rfl ?_ | refine ixd_lst rfl ?_ | refine ixd_tup rfl ?_ | refine ix_iL (by omega) (by omega) ?_ | refine ix_iT (by omega) (by omega) ?_ | refine ix_iR (by omega) (by omega) ?_ | refine ix_iO (by first | assumption | exact Has.upd (by assumption) | exact .h | exact .t (by assumption) | exact .t (Has.upd (by assumption)) | exact .t .h | exact .t (.t .h)) (by omega) (by omega) ?_ | refine ix_iLn (by omega) (by omega) ?_
    refine wa_cons ?_
    refine we_ix ix_d ?_
    refine we_nm nm_l_round_0 .h ?_
    refine we_int ?_
    first | refine ixd_own (by first | assumption | exact Has.upd (by assumption) | exact .h | exact .t (by assumption) | exact .t (Has.upd (by assumption)) | exact .t .h | exact .t (.t .h)) rfl ?_ | refine ixd_lst rfl ?_ | refine ixd_tup rfl ?_ | refine ix_iL (by omega) (by omega) ?_ | refine ix_iT (by omega) (by omega) ?_ | refine ix_iR (by omega) (by omega) ?_ | refine ix_iO (by first | assumption | exact Has.upd (by assumption) | exact .h | exact .t (by assumption) | exact .t (Has.upd (by assumption)) | exact .t .h | exact .t (.t .h)) (by omega) (by omega) ?_ | refine ix_iLn (by omega) (by omega) ?_
    refine wa_cons ?_
    refine we_ix ix_d ?_
    refine we_nm nm_l_round_0 .h ?_
    refine we_int ?_
    first | refine ixd_own (by first | assumption | exact Has.upd (by assumption) | exact .h | exact .t (by assumption) | exact .t (Has.upd (by assumption)) | exact .t .h | exact .t (.t .h)) rfl ?_ | refine ixd_lst rfl ?_ | refine ixd_tup rfl ?_ | refine ix_iL (by omega) (by omega) ?_ | refine ix_iT (by omega) (by omega) ?_ | refine ix_iR (by omega) (by omega) ?_ | refine ix_iO (by first | assumption | exact Has.upd (by assumption) | exact .h | exact .t (by assumption) | exact .t (Has.upd (by assumption)) | exact .t .h | exact .t (.t .h)) (by omega) (by omega) ?_ | refine ix_iLn (by omega) (by omega) ?_
    refine wa_cons ?_
    refine we_ix ix_d ?_
    refine we_nm nm_l_round_0 .h ?_
    refine we_int ?_
    first | refine ixd_own (by first | assumption | exact Has.upd (by assumption) | exact .h | exact .t (by assumption) | exact .t (Has.upd (by assumption)) | exact .t .h | exact .t (.t .h)) rfl ?_ | refine ixd_lst rfl ?_ | refine ixd_tup rfl ?_ | refine ix_iL (by omega) (by omega) ?_ | refine ix_iT (by omega) (by omega) ?_ | refine ix_iR (by omega) (by omega) ?_ | refine ix_iO (by first | assumption | exact Has.upd (by assumption) | exact .h | exact .t (by assumption) | exact .t (Has.upd (by assumption)) | exact .t .h | exact .t (.t .h)) (by omega) (by omega) ?_ | refine ix_iLn (by omega) (by omega) ?_
    refine wa_nil ?_
    intro a
    refine ⟨by simp, by simp, a, ns, _, by rw [rl (show ns.length = 8 by omega)]; rfl, by omega, by omega, h0, .h, rfl, _, _, _, _, _, rfl, rfl, ?_⟩
    exact hK
  refine ws_nil ?_
  refine ws_cons ?_
  refine ws_if ?_
  refine wt_cmp (d_eqA rm.eqU) ?_
  refine we_blt (b_len) ⟨gl_l_round_len, u_len c X0 G0⟩ rfl ?_
  refine wa_cons ?_
  refine we_nm nm_l_round_0 .h ?_
  refine wa_nil ?_
  first | refine len_iL ?_ | refine len_iT ?_ | refine len_iR ?_ | refine len_iO (by first | assumption | exact Has.upd (by assumption) | exact .h | exact .t (by assumption) | exact .t (Has.upd (by assumption)) | exact .t .h | exact .t (.t .h)) ?_ | refine len_lst ?_ | refine len_tup ?_
  refine we_int ?_
  first | refine eqA_int ?_ | refine eqA_iL ?_ | refine eqA_str ?_ | refine eqA_bl ?_ | refine eqA_bL ?_ | refine eqA_iT ?_
  refine ⟨_, rfl, ?_⟩
  first | refine tf (fun hif17 => ?_) (fun hif17 => ?_) | refine tfn (fun hif17 => ?_) (fun hif17 => ?_) | refine tb (fun hif17 => ?_) (fun hif17 => ?_)
  · skip
    refine ws_one ?_
    refine ws_ret ?_
    refine we_frzI ?_
    refine we_make (mk_Round c X0 G0) rm (by decide) gl_l_round_Round ?_
    refine wa_cons ?_
    refine we_ix ix_d ?_
    refine we_nm nm_l_round_0 .h ?_
    refine we_int ?_
    first | refine ixd_own (by first | assumption | exact Has.upd (by assumption) | exact .h | exact .t (by assumption) | exact .t (Has.upd (by assumption)) | exact .t .h | exact .t (.t .h)) rfl ?_ | refine ixd_lst rfl ?_ | refine ixd_tup rfl ?_ | refine ix_iL (by omega) (by omega) ?_ | refine ix_iT (by omega) (by omega) ?_ | refine ix_iR (by omega) (by omega) ?_ | refine ix_iO (by first | assumption | exact Has.upd (by assumption) | exact .h | exact .t (by assumption) | exact .t (Has.upd (by assumption)) | exact .t .h | exact .t (.t .h)) (by omega) (by omega) ?_ | refine ix_iLn (by omega) (by omega) ?_
    refine wa_cons ?_
    refine we_ix ix_d ?_
    refine we_nm nm_l_round_0 .h ?_
    refine we_int ?_
    first | refine ixd_own (by first | assumption | exact Has.upd (by assumption) | exact .h | exact .t (by assumption) | exact .t (Has.upd (by assumption)) | exact .t .h | exact .t (.t .h)) rfl ?_ | refine ixd_lst rfl ?_ | refine ixd_tup rfl ?_ | refine ix_iL (by omega) (by omega) ?_ | refine ix_iT (by omega) (by omega) ?_ | refine ix_iR (by omega) (by omega) ?_ | refine ix_iO (by first | assumption | exact Has.upd (by assumption) | exact .h | exact .t (by assumption) | exact .t (Has.upd (by assumption)) | exact .t .h | exact .t (.t .h)) (by omega) (by omega) ?_ | refine ix_iLn (by omega) (by omega) ?_
    refine wa_cons ?_
    refine we_ix ix_d ?_
    refine we_nm nm_l_round_0 .h ?_
    refine we_int ?_
    first | refine ixd_own (by first | assumption | exact Has.upd (by assumption) | exact .h | exact .t (by assumption) | exact .t (Has.upd (by assumption)) | exact .t .h | exact .t (.t .h)) rfl ?_ | refine ixd_lst rfl ?_ | refine ixd_tup rfl ?_ | refine ix_iL (by omega) (by omega) ?_ | refine ix_iT (by omega) (by omega) ?_ | refine ix_iR (by omega) (by omega) ?_ | refine ix_iO (by first | assumption | exact Has.upd (by assumption) | exact .h | exact .t (by assumption) | exact .t (Has.upd (by assumption)) | exact .t .h | exact .t (.t .h)) (by omega) (by omega) ?_ | refine ix_iLn (by omega) (by omega) ?_
    refine wa_cons ?_
    refine we_ix ix_d ?_
    refine we_nm nm_l_round_0 .h ?_
    refine we_int ?_
    first | refine ixd_own (by first | assumption | exact Has.upd (by assumption) | exact .h | exact .t (by assumption) | exact .t (Has.upd (by assumption)) | exact .t .h | exact .t (.t .h)) rfl ?_ | refine ixd_lst rfl ?_ | refine ixd_tup rfl ?_ | refine ix_iL (by omega) (by omega) ?_ | refine ix_iT (by omega) (by omega) ?_ | refine ix_iR (by omega) (by omega) ?_ | refine ix_iO (by first | assumption | exact Has.upd (by assumption) | exact .h | exact .t (by assumption) | exact .t (Has.upd (by assumption)) | exact .t .h | exact .t (.t .h)) (by omega) (by omega) ?_ | refine ix_iLn (by omega) (by omega) ?_
    refine wa_cons ?_
    refine we_ix ix_d ?_
    refine we_nm nm_l_round_0 .h ?_
    refine we_int ?_
    first | refine ixd_own (by first | assumption | exact Has.upd (by assumption) | exact .h | exact .t (by assumption) | exact .t (Has.upd (by assumption)) | exact .t .h | exact .t (.t .h)) rfl ?_ | refine ixd_lst rfl ?_ | refine ixd_tup rfl ?_ | refine ix_iL (by omega) (by omega) ?_ | refine ix_iT (by omega) (by omega) ?_ | refine ix_iR (by omega) (by omega) ?_ | refine ix_iO (by first | assumption | exact Has.upd (by assumption) | exact .h | exact .t (by assumption) | exact .t (Has.upd (by assumption)) | exact .t .h | exact .t (.t .h)) (by omega) (by omega) ?_ | refine ix_iLn (by omega) (by omega) ?_
    refine wa_cons ?_
    refine we_ix ix_d ?_
    refine we_nm nm_l_round_0 .h ?_
    refine we_int ?_
    first | refine ixd_own (by first | assumption | exact Has.upd (by assumption) | exact .h | exact .t (by assumption) | exact .t (Has.upd (by assumption)) | exact .t .h | exact .t (.t .h)) rfl ?_ | refine ixd_lst rfl ?_ | refine ixd_tup rfl ?_ | refine ix_iL (by omega) (by omega) ?_ | refine ix_iT (by omega) (by omega) ?_ | refine ix_iR (by omega) (by omega) ?_ | refine ix_iO (by first | assumption | exact Has.upd (by assumption) | exact .h | exact .t (by assumption) | exact .t (Has.upd (by assumption)) | exact .t .h | exact .t (.t .h)) (by omega) (by omega) ?_ | refine ix_iLn (by omega) (by omega) ?_
    refine wa_cons ?_
    refine we_ix ix_d ?_
    refine we_nm nm_l_round_0 .h ?_
    refine we_int ?_
    first | refine ixd_own (by first | assumption | exact Has.upd (by assumption) | exact .h | exact .t (by assumption) | exact .t (Has.upd (by assumption)) | exact .t .h | exact .t (.t .h)) rfl ?_ | refine ixd_lst rfl ?_ | refine ixd_tup rfl ?_ | refine ix_iL (by omega) (by omega) ?_ | refine ix_iT (by omega) (by omega) ?_ | refine ix_iR (by omega) (by omega) ?_ | refine ix_iO (by first | assumption | exact Has.upd (by assumption) | exact .h | exact .t (by assumption) | exact .t (Has.upd (by assumption)) | exact .t .h | exact .t (.t .h)) (by omega) (by omega) ?_ | refine ix_iLn (by omega) (by omega) ?_
    refine wa_cons ?_
    refine we_ix ix_d ?_
    refine we_nm nm_l_round_0 .h ?_
    refine we_int ?_
    first | refine ixd_own (by first | assumption | exact Has.upd (by assumption) | exact .h | exact .t (by assumption) | exact .t (Has.upd (by assumption)) | exact .t .h | exact .t (.t .h)) rfl ?_ | refine ixd_lst rfl ?_ | refine ixd_tup rfl ?_ | refine ix_iL (by omega) (by omega) ?_ | refine ix_iT (by omega) (by omega) ?_ | refine ix_iR (by omega) (by omega) ?_ | refine ix_iO (by first | assumption | exact Has.upd (by assumption) | exact .h | exact .t (by assumption) | exact .t (Has.upd (by assumption)) | exact .t .h | exact .t (.t .h)) (by omega) (by omega) ?_ | refine ix_iLn (by omega) (by omega) ?_
    refine wa_cons ?_
    refine we_ix ix_d ?_
    refine we_nm nm_l_round_0 .h ?_
    refine we_int ?_
    first | refine ixd_own (by first | assumption | exact Has.upd (by assumption) | exact .h | exact .t (by assumption) | exact .t (Has.upd (by assumption)) | exact .t .h | exact .t (.t .h)) rfl ?_ | refine ixd_lst rfl ?_ | refine ixd_tup rfl ?_ | refine ix_iL (by omega) (by omega) ?_ | refine ix_iT (by omega) (by omega) ?_ | refine ix_iR (by omega) (by omega) ?_ | refine ix_iO (by first | assumption | exact Has.upd (by assumption) | exact .h | exact .t (by assumption) | exact .t (Has.upd (by assumption)) | exact .t .h | exact .t (.t .h)) (by omega) (by omega) ?_ | refine ix_iLn (by omega) (by omega) ?_
    refine wa_nil ?_
    intro a
    refine ⟨by simp, by simp, a, ns, _, by rw [rl (show ns.length = 9 by omega)]; rfl, by omega, by omega, h0, .h, rfl, _, _, _, _, _, rfl, rfl, ?_⟩
    exact hK
  refine ws_nil ?_
  refine ws_cons ?_
  refine ws_if ?_
  refine wt_cmp (d_eqA rm.eqU) ?_
  refine we_blt (b_len) ⟨gl_l_round_len, u_len c X0 G0⟩ rfl ?_
  refine wa_cons ?_
  refine we_nm nm_l_round_0 .h ?_
  refine wa_nil ?_
  first | refine len_iL ?_ | refine len_iT ?_ | refine len_iR ?_ | refine len_iO (by first | assumption | exact Has.upd (by assumption) | exact .h | exact .t (by assumption) | exact .t (Has.upd (by assumption)) | exact .t .h | exact .t (.t .h)) ?_ | refine len_lst ?_ | refine len_tup ?_
  refine we_int ?_
  first | refine eqA_int ?_ | refine eqA_iL ?_ | refine eqA_str ?_ | refine eqA_bl ?_ | refine eqA_bL ?_ | refine eqA_iT ?_
  refine ⟨_, rfl, ?_⟩
  first | refine tf (fun hif19 => ?_) (fun hif19 => ?_) | refine tfn (fun hif19 => ?_) (fun hif19 => ?_) | refine tb (fun hif19 => ?_) (fun hif19 => ?_)
  · skip
    refine ws_one ?_
    refine ws_ret ?_
    refine we_frzI ?_
    refine we_make (mk_Round c X0 G0) rm (by decide) gl_l_round_Round ?_
    refine wa_cons ?_
    refine we_ix ix_d ?_
    refine we_nm nm_l_round_0 .h ?_
    refine we_int ?_
    first | refine ixd_own (by first | assumption | exact Has.upd (by assumption) | exact .h | exact .t (by assumption) | exact .t (Has.upd (by assumption)) | exact .t .h | exact .t (.t .h)) rfl ?_ | refine ixd_lst rfl ?_ | refine ixd_tup rfl ?_ | refine ix_iL (by omega) (by omega) ?_ | refine ix_iT (by omega) (by omega) ?_ | refine ix_iR (by omega) (by omega) ?_ | refine ix_iO (by first | assumption | exact Has.upd (by assumption) | exact .h | exact .t (by assumption) | exact .t (Has.upd (by assumption)) | exact .t .h | exact .t (.t .h)) (by omega) (by omega) ?_ | refine ix_iLn (by omega) (by omega) ?_
    refine wa_cons ?_
    refine we_ix ix_d ?_
    refine we_nm nm_l_round_0 .h ?_
    refine we_int ?_
    first | refine ixd_own (by first | assumption | exact Has.upd (by assumption) | exact .h | exact .t (by assumption) | exact .t (Has.upd (by assumption)) | exact .t .h | exact .t (.t .h)) rfl ?_ | refine ixd_lst rfl ?_ | refine ixd_tup rfl ?_ | refine ix_iL (by omega) (by omega) ?_ | refine ix_iT (by omega) (by omega) ?_ | refine ix_iR (by omega) (by omega) ?_ | refine ix_iO (by first | assumption | exact Has.upd (by assumption) | exact .h | exact .t (by assumption) | exact .t (Has.upd (by assumption)) | exact .t .h | exact .t (.t .h)) (by omega) (by omega) ?_ | refine ix_iLn (by omega) (by omega) ?_
    refine wa_cons ?_
    refine we_ix ix_d ?_
    refine we_nm nm_l_round_0 .h ?_
    refine we_int ?_
    first | refine ixd_own (by first | assumption | exact Has.upd (by assumption) | exact .h | exact .t (by assumption) | exact .t (Has.upd (by assumption)) | exact .t .h | exact .t (.t .h)) rfl ?_ | refine ixd_lst rfl ?_ | refine ixd_tup rfl ?_ | refine ix_iL (by omega) (by omega) ?_ | refine ix_iT (by omega) (by omega) ?_ | refine ix_iR (by omega) (by omega) ?_ | refine ix_iO (by first | assumption | exact Has.upd (by assumption) | exact .h | exact .t (by assumption) | exact .t (Has.upd (by assumption)) | exact .t .h | exact .t (.t .h)) (by omega) (by omega) ?_ | refine ix_iLn (by omega) (by omega) ?_
    refine wa_cons ?_
    refine we_ix ix_d ?_
    refine we_nm nm_l_round_0 .h ?_
    refine we_int ?_
    first | refine ixd_own (by first | assumption | exact Has.upd (by assumption) | exact .h | exact .t (by assumption) | exact .t (Has.upd (by assumption)) | exact .t .h | exact .t (.t .h)) rfl ?_ | refine ixd_lst rfl ?_ | refine ixd_tup rfl ?_ | refine ix_iL (by omega) (by omega) ?_ | refine ix_iT (by omega) (by omega) ?_ | refine ix_iR (by omega) (by omega) ?_ | refine ix_iO (by first | assumption | exact Has.upd (by assumption) | exact .h | exact .t (by assumption) | exact .t (Has.upd (by assumption)) | exact .t .h | exact .t (.t .h)) (by omega) (by omega) ?_ | refine ix_iLn (by omega) (by omega) ?_
    refine wa_cons ?_
    refine we_ix ix_d ?_
    refine we_nm nm_l_round_0 .h ?_
    refine we_int ?_
    first | refine ixd_own (by first | assumption | exact Has.upd (by assumption) | exact .h | exact .t (by assumption) | exact .t (Has.upd (by assumption)) | exact .t .h | exact .t (.t .h)) rfl ?_ | refine ixd_lst rfl ?_ | refine ixd_tup rfl ?_ | refine ix_iL (by omega) (by omega) ?_ | refine ix_iT (by omega) (by omega) ?_ | refine ix_iR (by omega) (by omega) ?_ | refine ix_iO (by first | assumption | exact Has.upd (by assumption) | exact .h | exact .t (by assumption) | exact .t (Has.upd (by assumption)) | exact .t .h | exact .t (.t .h)) (by omega) (by omega) ?_ | refine ix_iLn (by omega) (by omega) ?_
    refine wa_cons ?_
    refine we_ix ix_d ?_
    refine we_nm nm_l_round_0 .h ?_
    refine we_int ?_
    first | refine ixd_own (by first | assumption | exact Has.upd (by assumption) | exact .h | exact .t (by assumption) | exact .t (Has.upd (by assumption)) | exact .t .h | exact .t (.t .h)) rfl ?_ | refine ixd_lst rfl ?_ | refine ixd_tup rfl ?_ | refine ix_iL (by omega) (by omega) ?_ | refine ix_iT (by omega) (by omega) ?_ | refine ix_iR (by omega) (by omega) ?_ | refine ix_iO (by first | assumption | exact Has.upd (by assumption) | exact .h | exact .t (by assumption) | exact .t (Has.upd (by assumption)) | exact .t .h | exact .t (.t .h)) (by omega) (by omega) ?_ | refine ix_iLn (by omega) (by omega) ?_
    refine wa_cons ?_
    refine we_ix ix_d ?_
    refine we_nm nm_l_round_0 .h ?_
    refine we_int ?_
    first | refine ixd_own (by first | assumption | exact Has.upd (by assumption) | exact .h | exact .t (by assumption) | exact .t (Has.upd (by assumption)) | exact .t .h | exact .t (.t .h)) rfl ?_ | refine ixd_lst rfl ?_ | refine ixd_tup rfl ?_ | refine ix_iL (by omega) (by omega) ?_ | refine ix_iT (by omega) (by omega) ?_ | refine ix_iR (by omega) (by omega) ?_ | refine ix_iO (by first | assumption | exact Has.upd (by assumption) | exact .h | exact .t (by assumption) | exact .t (Has.upd (by assumption)) | exact .t .h | exact .t (.t .h)) (by omega) (by omega) ?_ | refine ix_iLn (by omega) (by omega) ?_
    refine wa_cons ?_
    refine we_ix ix_d ?_
    refine we_nm nm_l_round_0 .h ?_
    refine we_int ?_
    first | refine ixd_own (by first | assumption | exact Has.upd (by assumption) | exact .h | exact .t (by assumption) | exact .t (Has.upd (by assumption)) | exact .t .h | exact .t (.t .h)) rfl ?_ | refine ixd_lst rfl ?_ | refine ixd_tup rfl ?_ | refine ix_iL (by omega) (by omega) ?_ | refine ix_iT (by omega) (by omega) ?_ | refine ix_iR (by omega) (by omega) ?_ | refine ix_iO (by first | assumption | exact Has.upd (by assumption) | exact .h | exact .t (by assumption) | exact .t (Has.upd (by assumption)) | exact .t .h | exact .t (.t .h)) (by omega) (by omega) ?_ | refine ix_iLn (by omega) (by omega) ?_
    refine wa_cons ?_
    refine we_ix ix_d ?_
    refine we_nm nm_l_round_0 .h ?_
    refine we_int ?_
    first | refine ixd_own (by first | assumption | exact Has.upd (by assumption) | exact .h | exact .t (by assumption) | exact .t (Has.upd (by assumption)) | exact .t .h | exact .t (.t .h)) rfl ?_ | refine ixd_lst rfl ?_ | refine ixd_tup rfl ?_ | refine ix_iL (by omega) (by omega) ?_ | refine ix_iT (by omega) (by omega) ?_ | refine ix_iR (by omega) (by omega) ?_ | refine ix_iO (by first | assumption | exact Has.upd (by assumption) | exact .h | exact .t (by assumption) | exact .t (Has.upd (by assumption)) | exact .t .h | exact .t (.t .h)) (by omega) (by omega) ?_ | refine ix_iLn (by omega) (by omega) ?_
    refine wa_cons ?_
    refine we_ix ix_d ?_
    refine we_nm nm_l_round_0 .h ?_
    refine we_int ?_
    first | refine ixd_own (by first | assumption | exact Has.upd (by assumption) | exact .h | exact .t (by assumption) | exact .t (Has.upd (by assumption)) | exact .t .h | exact .t (.t .h)) rfl ?_ | refine ixd_lst rfl ?_ | refine ixd_tup rfl ?_ | refine ix_iL (by omega) (by omega) ?_ | refine ix_iT (by omega) (by omega) ?_ | refine ix_iR (by omega) (by omega) ?_ | refine ix_iO (by first | assumption | exact Has.upd (by assumption) | exact .h | exact .t (by assumption) | exact .t (Has.upd (by assumption)) | exact .t .h | exact .t (.t .h)) (by omega) (by omega) ?_ | refine ix_iLn (by omega) (by omega) ?_
    refine wa_nil ?_
    intro a
    refine ⟨by simp, by simp, a, ns, _, by rw [rl (show ns.length = 10 by omega)]; rfl, by omega, by omega, h0, .h, rfl, _, _, _, _, _, rfl, rfl, ?_⟩
    exact hK
  refine ws_nil ?_
  refine ws_cons ?_
  refine ws_if ?_
  refine wt_cmp (d_eqA rm.eqU) ?_
  refine we_blt (b_len) ⟨gl_l_round_len, u_len c X0 G0⟩ rfl ?_
  refine wa_cons ?_
  refine we_nm nm_l_round_0 .h ?_
  refine wa_nil ?_
  first | refine len_iL ?_ | refine len_iT ?_ | refine len_iR ?_ | refine len_iO (by first | assumption | exact Has.upd (by assumption) | exact .h | exact .t (by assumption) | exact .t (Has.upd (by assumption)) | exact .t .h | exact .t (.t .h)) ?_ | refine len_lst ?_ | refine len_tup ?_
  refine we_int ?_
  first | refine eqA_int ?_ | refine eqA_iL ?_ | refine eqA_str ?_ | refine eqA_bl ?_ | refine eqA_bL ?_ | refine eqA_iT ?_
  refine ⟨_, rfl, ?_⟩
  first | refine tf (fun hif21 => ?_) (fun hif21 => ?_) | refine tfn (fun hif21 => ?_) (fun hif21 => ?_) | refine tb (fun hif21 => ?_) (fun hif21 => ?_)
  · skip
    refine ws_one ?_
    refine ws_ret ?_
    refine we_frzI ?_
    refine we_make (mk_Round c X0 G0) rm (by decide) gl_l_round_Round ?_
    refine wa_cons ?_
    refine we_ix ix_d ?_
    refine we_nm nm_l_round_0 .h ?_
    refine we_int ?_
    first | refine ixd_own (by first | assumption | exact Has.upd (by assumption) | exact .h | exact .t (by assumption) | exact .t (Has.upd (by assumption)) | exact .t .h | exact .t (.t .h)) rfl ?_ | refine ixd_lst rfl ?_ | refine ixd_tup rfl ?_ | refine ix_iL (by omega) (by omega) ?_ | refine ix_iT (by omega) (by omega) ?_ | refine ix_iR (by omega) (by omega) ?_ | refine ix_iO (by first | assumption | exact Has.upd (by assumption) | exact .h | exact .t (by assumption) | exact .t (Has.upd (by assumption)) | exact .t .h | exact .t (.t .h)) (by omega) (by omega) ?_ | refine ix_iLn (by omega) (by omega) ?_
    refine wa_cons ?_
    refine we_ix ix_d ?_
    refine we_nm nm_l_round_0 .h ?_
    refine we_int ?_
    first | refine ixd_own (by first | assumption | exact Has.upd (by assumption) | exact .h | exact .t (by assumption) | exact .t (Has.upd (by assumption)) | exact .t .h | exact .t (.t .h)) rfl ?_ | refine ixd_lst rfl ?_ | refine ixd_tup rfl ?_ | refine ix_iL (by omega) (by omega) ?_ | refine ix_iT (by omega) (by omega) ?_ | refine ix_iR (by omega) (by omega) ?_ | refine ix_iO (by first | assumption | exact Has.upd (by assumption) | exact .h | exact .t (by assumption) | exact .t (Has.upd (by assumption)) | exact .t .h | exact .t (.t .h)) (by omega) (by omega) ?_ | refine ix_iLn (by omega) (by omega) ?_
    refine wa_cons ?_
    refine we_ix ix_d ?_
    refine we_nm nm_l_round_0 .h ?_
    refine we_int ?_
    first | refine ixd_own (by first | assumption | exact Has.upd (by assumption) | exact .h | exact .t (by assumption) | exact .t (Has.upd (by assumption)) | exact .t .h | exact .t (.t .h)) rfl ?_ | refine ixd_lst rfl ?_ | refine ixd_tup rfl ?_ | refine ix_iL (by omega) (by omega) ?_ | refine ix_iT (by omega) (by omega) ?_ | refine ix_iR (by omega) (by omega) ?_ | refine ix_iO (by first | assumption | exact Has.upd (by assumption) | exact .h | exact .t (by assumption) | exact .t (Has.upd (by assumption)) | exact .t .h | exact .t (.t .h)) (by omega) (by omega) ?_ | refine ix_iLn (by omega) (by omega) ?_
    refine wa_cons ?_
    refine we_ix ix_d ?_
    refine we_nm nm_l_round_0 .h ?_
    refine we_int ?_
    first | refine ixd_own (by first | assumption | exact Has.upd (by assumption) | exact .h | exact .t (by assumption) | exact .t (Has.upd (by assumption)) | exact .t .h | exact .t (.t .h)) rfl ?_ | refine ixd_lst rfl ?_ | refine ixd_tup rfl ?_ | refine ix_iL (by omega) (by omega) ?_ | refine ix_iT (by omega) (by omega) ?_ | refine ix_iR (by omega) (by omega) ?_ | refine ix_iO (by first | assumption | exact Has.upd (by assumption) | exact .h | exact .t (by assumption) | exact .t (Has.upd (by assumption)) | exact .t .h | exact .t (.t .h)) (by omega) (by omega) ?_ | refine ix_iLn (by omega) (by omega) ?_
    refine wa_cons ?_
    refine we_ix ix_d ?_
    refine we_nm nm_l_round_0 .h ?_
    refine we_int ?_
    first | refine ixd_own (by first | assumption | exact Has.upd (by assumption) | exact .h | exact .t (by assumption) | exact .t (Has.upd (by assumption)) | exact .t .h | exact .t (.t .h)) rfl ?_ | refine ixd_lst rfl ?_ | refine ixd_tup rfl ?_ | refine ix_iL (by omega) (by omega) ?_ | refine ix_iT (by omega) (by omega) ?_ | refine ix_iR (by omega) (by omega) ?_ | refine ix_iO (by first | assumption | exact Has.upd (by assumption) | exact .h | exact .t (by assumption) | exact .t (Has.upd (by assumption)) | exact .t .h | exact .t (.t .h)) (by omega) (by omega) ?_ | refine ix_iLn (by omega) (by omega) ?_
    refine wa_cons ?_
    refine we_ix ix_d ?_
    refine we_nm nm_l_round_0 .h ?_
    refine we_int ?_
    first | refine ixd_own (by first | assumption | exact Has.upd (by assumption) | exact .h | exact .t (by assumption) | exact .t (Has.upd (by assumption)) | exact .t .h | exact .t (.t .h)) rfl ?_ | refine ixd_lst rfl ?_ | refine ixd_tup rfl ?_ | refine ix_iL (by omega) (by omega) ?_ | refine ix_iT (by omega) (by omega) ?_ | refine ix_iR (by omega) (by omega) ?_ | refine ix_iO (by first | assumption | exact Has.upd (by assumption) | exact .h | exact .t (by assumption) | exact .t (Has.upd (by assumption)) | exact .t .h | exact .t (.t .h)) (by omega) (by omega) ?_ | refine ix_iLn (by omega) (by omega) ?_
    refine wa_cons ?_
    refine we_ix ix_d ?_
    refine we_nm nm_l_round_0 .h ?_
    refine we_int ?_
    first | refine ixd_own (by first | assumption | exact Has.upd (by assumption) | exact .h | exact .t (by assumption) | exact .t (Has.upd (by assumption)) | exact .t .h | exact .t (.t .h)) rfl ?_ | refine ixd_lst rfl ?_ | refine ixd_tup rfl ?_ | refine ix_iL (by omega) (by omega) ?_ | refine ix_iT (by omega) (by omega) ?_ | refine ix_iR (by omega) (by omega) ?_ | refine ix_iO (by first | assumption | exact Has.upd (by assumption) | exact .h | exact .t (by assumption) | exact .t (Has.upd (by assumption)) | exact .t .h | exact .t (.t .h)) (by omega) (by omega) ?_ | refine ix_iLn (by omega) (by omega) ?_
    refine wa_cons ?_
    refine we_ix ix_d ?_
    refine we_nm nm_l_round_0 .h ?_
    refine we_int ?_
    first | refine ixd_own (by first | assumption | exact Has.upd (by assumption) | exact .h | exact .t (by assumption) | exact .t (Has.upd (by assumption)) | exact .t .h | exact .t (.t .h)) rfl ?_ | refine ixd_lst rfl ?_ | refine ixd_tup rfl ?_ | refine ix_iL (by omega) (by omega) ?_ | refine ix_iT (by omega) (by omega) ?_ | refine ix_iR (by omega) (by omega) ?_ | refine ix_iO (by first | assumption | exact Has.upd (by assumption) | exact .h | exact .t (by assumption) | exact .t (Has.upd (by assumption)) | exact .t .h | exact .t (.t .h)) (by omega) (by omega) ?_ | refine ix_iLn (by omega) (by omega) ?_
    refine wa_cons ?_
    refine we_ix ix_d ?_
    refine we_nm nm_l_round_0 .h ?_
    refine we_int ?_
    first | refine ixd_own (by first | assumption | exact Has.upd (by assumption) | exact .h | exact .t (by assumption) | exact .t (Has.upd (by assumption)) | exact .t .h | exact .t (.t .h)) rfl ?_ | refine ixd_lst rfl ?_ | refine ixd_tup rfl ?_ | refine ix_iL (by omega) (by omega) ?_ | refine ix_iT (by omega) (by omega) ?_ | refine ix_iR (by omega) (by omega) ?_ | refine ix_iO (by first | assumption | exact Has.upd (by assumption) | exact .h | exact .t (by assumption) | exact .t (Has.upd (by assumption)) | exact .t .h | exact .t (.t .h)) (by omega) (by omega) ?_ | refine ix_iLn (by omega) (by omega) ?_
    refine wa_cons ?_
    refine we_ix ix_d ?_
    refine we_nm nm_l_round_0 .h ?_
    refine we_int ?_
    first | refine ixd_own (by first | assumption | exact Has.upd (by assumption) | exact .h | exact .t (by assumption) | exact .t (Has.upd (by assumption)) | exact .t .h | exact .t (.t .h)) rfl ?_ | refine ixd_lst rfl ?_ | refine ixd_tup rfl ?_ | refine ix_iL (by omega) (by omega) ?_ | refine ix_iT (by omega) (by omega) ?_ | refine ix_iR (by omega) (by omega) ?_ | refine ix_iO (by first | assumption | exact Has.upd (by assumption) | exact .h | exact .t (by assumption) | exact .t (Has.upd (by assumption)) | exact .t .h | exact .t (.t .h)) (by omega) (by omega) ?_ | refine ix_iLn (by omega) (by omega) ?_
    refine wa_cons ?_
    refine we_ix ix_d ?_
    refine we_nm nm_l_round_0 .h ?_
    refine we_int ?_
    first | refine ixd_own (by first | assumption | exact Has.upd (by assumption) | exact .h | exact .t (by assumption) | exact .t (Has.upd (by assumption)) | exact .t .h | exact .t (.t .h)) rfl ?_ | refine ixd_lst rfl ?_ | refine ixd_tup rfl ?_ | refine ix_iL (by omega) (by omega) ?_ | refine ix_iT (by omega) (by omega) ?_ | refine ix_iR (by omega) (by omega) ?_ | refine ix_iO (by first | assumption | exact Has.upd (by assumption) | exact .h | exact .t (by assumption) | exact .t (Has.upd (by assumption)) | exact .t .h | exact .t (.t .h)) (by omega) (by omega) ?_ | refine ix_iLn (by omega) (by omega) ?_
    refine wa_nil ?_
    intro a
    refine ⟨by simp, by simp, a, ns, _, by rw [rl (show ns.length = 11 by omega)]; rfl, by omega, by omega, h0, .h, rfl, _, _, _, _, _, rfl, rfl, ?_⟩
    exact hK
  refine ws_nil ?_
  refine ws_one ?_
  refine ws_ret ?_
  refine we_frzI ?_
  refine we_make (mk_Round c X0 G0) rm (by decide) gl_l_round_Round ?_
  refine wa_cons ?_
  refine we_ix ix_d ?_
  refine we_nm nm_l_round_0 .h ?_
  refine we_int ?_
  first | refine ixd_own (by first | assumption | exact Has.upd (by assumption) | exact .h | exact .t (by assumption) | exact .t (Has.upd (by assumption)) | exact .t .h | exact .t (.t .h)) rfl ?_ | refine ixd_lst rfl ?_ | refine ixd_tup rfl ?_ | refine ix_iL (by omega) (by omega) ?_ | refine ix_iT (by omega) (by omega) ?_ | refine ix_iR (by omega) (by omega) ?_ | refine ix_iO (by first | assumption | exact Has.upd (by assumption) | exact .h | exact .t (by assumption) | exact .t (Has.upd (by assumption)) | exact .t .h | exact .t (.t .h)) (by omega) (by omega) ?_ | refine ix_iLn (by omega) (by omega) ?_
  refine wa_cons ?_
  refine we_ix ix_d ?_
  refine we_nm nm_l_round_0 .h ?_
  refine we_int ?_
  first | refine ixd_own (by first | assumption | exact Has.upd (by assumption) | exact .h | exact .t (by assumption) | exact .t (Has.upd (by assumption)) | exact .t .h | exact .t (.t .h)) rfl ?_ | refine ixd_lst rfl ?_ | refine ixd_tup rfl ?_ | refine ix_iL (by omega) (by omega) ?_ | refine ix_iT (by omega) (by omega) ?_ | refine ix_iR (by omega) (by omega) ?_ | refine ix_iO (by first | assumption | exact Has.upd (by assumption) | exact .h | exact .t (by assumption) | exact .t (Has.upd (by assumption)) | exact .t .h | exact .t (.t .h)) (by omega) (by omega) ?_ | refine ix_iLn (by omega) (by omega) ?_
  refine wa_cons ?_
  refine we_ix ix_d ?_
  refine we_nm nm_l_round_0 .h ?_
  refine we_int ?_
  first | refine ixd_own (by first | assumption | exact Has.upd (by assumption) | exact .h | exact .t (by assumption) | exact .t (Has.upd (by assumption)) | exact .t .h | exact .t (.t .h)) rfl ?_ | refine ixd_lst rfl ?_ | refine ixd_tup rfl ?_ | refine ix_iL (by omega) (by omega) ?_ | refine ix_iT (by omega) (by omega) ?_ | refine ix_iR (by omega) (by omega) ?_ | refine ix_iO (by first | assumption | exact Has.upd (by assumption) | exact .h | exact .t (by assumption) | exact .t (Has.upd (by assumption)) | exact .t .h | exact .t (.t .h)) (by omega) (by omega) ?_ | refine ix_iLn (by omega) (by omega) ?_
  refine wa_cons ?_
  refine we_ix ix_d ?_
  refine we_nm nm_l_round_0 .h ?_
  refine we_int ?_
  first | refine ixd_own (by first | assumption | exact Has.upd (by assumption) | exact .h | exact .t (by assumption) | exact .t (Has.upd (by assumption)) | exact .t .h | exact .t (.t .h)) rfl ?_ | refine ixd_lst rfl ?_ | refine ixd_tup rfl ?_ | refine ix_iL (by omega) (by omega) ?_ | refine ix_iT (by omega) (by omega) ?_ | refine ix_iR (by omega) (by omega) ?_ | refine ix_iO (by first | assumption | exact Has.upd (by assumption) | exact .h | exact .t (by assumption) | exact .t (Has.upd (by assumption)) | exact .t .h | exact .t (.t .h)) (by omega) (by omega) ?_ | refine ix_iLn (by omega) (by omega) ?_
  refine wa_cons ?_
  refine we_ix ix_d ?_
  refine we_nm nm_l_round_0 .h ?_
  refine we_int ?_
  first | refine ixd_own (by first | assumption | exact Has.upd (by assumption) | exact .h | exact .t (by assumption) | exact .t (Has.upd (by assumption)) | exact .t .h | exact .t (.t .h)) rfl ?_ | refine ixd_lst rfl ?_ | refine ixd_tup rfl ?_ | refine ix_iL (by omega) (by omega) ?_ | refine ix_iT (by omega) (by omega) ?_ | refine ix_iR (by omega) (by omega) ?_ | refine ix_iO (by first | assumption | exact Has.upd (by assumption) | exact .h | exact .t (by assumption) | exact .t (Has.upd (by assumption)) | exact .t .h | exact .t (.t .h)) (by omega) (by omega) ?_ | refine ix_iLn (by omega) (by omega) ?_
  refine wa_cons ?_
  refine we_ix ix_d ?_
  refine we_nm nm_l_round_0 .h ?_
  refine we_int ?_
  first | refine ixd_own (by first | assumption | exact Has.upd (by assumption) | exact .h | exact .t (by assumption) | exact .t (Has.upd (by assumption)) | exact .t .h | exact .t (.t .h)) rfl ?_ | refine ixd_lst rfl ?_ | refine ixd_tup rfl ?_ | refine ix_iL (by omega) (by omega) ?_ | refine ix_iT (by omega) (by omega) ?_ | refine ix_iR (by omega) (by omega) ?_ | refine ix_iO (by first | assumption | exact Has.upd (by assumption) | exact .h | exact .t (by assumption) | exact .t (Has.upd (by assumption)) | exact .t .h | exact .t (.t .h)) (by omega) (by omega) ?_ | refine ix_iLn (by omega) (by omega) ?_
  refine wa_cons ?_
  refine we_ix ix_d ?_
  refine we_nm nm_l_round_0 .h ?_
  refine we_int ?_
  first | refine ixd_own (by first | assumption | exact Has.upd (by assumption) | exact .h | exact .t (by assumption) | exact .t (Has.upd (by assumption)) | exact .t .h | exact .t (.t .h)) rfl ?_ | refine ixd_lst rfl ?_ | refine ixd_tup rfl ?_ | refine ix_iL (by omega) (by omega) ?_ | refine ix_iT (by omega) (by omega) ?_ | refine ix_iR (by omega) (by omega) ?_ | refine ix_iO (by first | assumption | exact Has.upd (by assumption) | exact .h | exact .t (by assumption) | exact .t (Has.upd (by assumption)) | exact .t .h | exact .t (.t .h)) (by omega) (by omega) ?_ | refine ix_iLn (by omega) (by omega) ?_
  refine wa_cons ?_
  refine we_ix ix_d ?_
  refine we_nm nm_l_round_0 .h ?_
  refine we_int ?_
  first | refine ixd_own (by first | assumption | exact Has.upd (by assumption) | exact .h | exact .t (by assumption) | exact .t (Has.upd (by assumption)) | exact .t .h | exact .t (.t .h)) rfl ?_ | refine ixd_lst rfl ?_ | refine ixd_tup rfl ?_ | refine ix_iL (by omega) (by omega) ?_ | refine ix_iT (by omega) (by omega) ?_ | refine ix_iR (by omega) (by omega) ?_ | refine ix_iO (by first | assumption | exact Has.upd (by assumption) | exact .h | exact .t (by assumption) | exact .t (Has.upd (by assumption)) | exact .t .h | exact .t (.t .h)) (by omega) (by omega) ?_ | refine ix_iLn (by omega) (by omega) ?_
  refine wa_cons ?_
  refine we_ix ix_d ?_
  refine we_nm nm_l_round_0 .h ?_
  refine we_int ?_
  first | refine ixd_own (by first | assumption | exact Has.upd (by assumption) | exact .h | exact .t (by assumption) | exact .t (Has.upd (by assumption)) | exact .t .h | exact .t (.t .h)) rfl ?_ | refine ixd_lst rfl ?_ | refine ixd_tup rfl ?_ | refine ix_iL (by omega) (by omega) ?_ | refine ix_iT (by omega) (by omega) ?_ | refine ix_iR (by omega) (by omega) ?_ | refine ix_iO (by first | assumption | exact Has.upd (by assumption) | exact .h | exact .t (by assumption) | exact .t (Has.upd (by assumption)) | exact .t .h | exact .t (.t .h)) (by omega) (by omega) ?_ | refine ix_iLn (by omega) (by omega) ?_
  refine wa_cons ?_
  refine we_ix ix_d ?_
  refine we_nm nm_l_round_0 .h ?_
  refine we_int ?_
  first | refine ixd_own (by first | assumption | exact Has.upd (by assumption) | exact .h | exact .t (by assumption) | exact .t (Has.upd (by assumption)) | exact .t .h | exact .t (.t .h)) rfl ?_ | refine ixd_lst rfl ?_ | refine ixd_tup rfl ?_ | refine ix_iL (by omega) (by omega) ?_ | refine ix_iT (by omega) (by omega) ?_ | refine ix_iR (by omega) (by omega) ?_ | refine ix_iO (by first | assumption | exact Has.upd (by assumption) | exact .h | exact .t (by assumption) | exact .t (Has.upd (by assumption)) | exact .t .h | exact .t (.t .h)) (by omega) (by omega) ?_ | refine ix_iLn (by omega) (by omega) ?_
  refine wa_cons ?_
  refine we_ix ix_d ?_
  refine we_nm nm_l_round_0 .h ?_
  refine we_int ?_
  first | refine ixd_own (by first | assumption | exact Has.upd (by assumption) | exact .h | exact .t (by assumption) | exact .t (Has.upd (by assumption)) | exact .t .h | exact .t (.t .h)) rfl ?_ | refine ixd_lst rfl ?_ | refine ixd_tup rfl ?_ | refine ix_iL (by omega) (by omega) ?_ | refine ix_iT (by omega) (by omega) ?_ | refine ix_iR (by omega) (by omega) ?_ | refine ix_iO (by first | assumption | exact Has.upd (by assumption) | exact .h | exact .t (by assumption) | exact .t (Has.upd (by assumption)) | exact .t .h | exact .t (.t .h)) (by omega) (by omega) ?_ | refine ix_iLn (by omega) (by omega) ?_
  refine wa_cons ?_
  refine we_ix ix_d ?_
  refine we_nm nm_l_round_0 .h ?_
  refine we_int ?_
  first | refine ixd_own (by first | assumption | exact Has.upd (by assumption) | exact .h | exact .t (by assumption) | exact .t (Has.upd (by assumption)) | exact .t .h | exact .t (.t .h)) rfl ?_ | refine ixd_lst rfl ?_ | refine ixd_tup rfl ?_ | refine ix_iL (by omega) (by omega) ?_ | refine ix_iT (by omega) (by omega) ?_ | refine ix_iR (by omega) (by omega) ?_ | refine ix_iO (by first | assumption | exact Has.upd (by assumption) | exact .h | exact .t (by assumption) | exact .t (Has.upd (by assumption)) | exact .t .h | exact .t (.t .h)) (by omega) (by omega) ?_ | refine ix_iLn (by omega) (by omega) ?_
  refine wa_nil ?_
  intro a
  refine ⟨by simp, by simp, a, ns, _, by rw [rl (show ns.length = 12 by omega)]; rfl, by omega, by omega, h0, .h, rfl, _, _, _, _, _, rfl, rfl, ?_⟩
  exact hK
theorem fb_l_round : ∃ fd, FnB P w K mg base 5 (f_l_round.ad K) fd ["_law_row_here"] (sp_l_round K) ∧ FnG P w K mg base 5 (f_l_round.ad K) (fun ds L Ex Kk => ds.length = 1 ∧ sp_l_round K ds L Ex Kk) ∧ PySem.W.keepIn K (.ref (f_l_round.ad K)) = true := by
  obtain ⟨fd, Fd⟩ := c.dfn 17 (t := f_l_round) rfl
  have B := fn_body (P := P) (w := w) (mg := mg) (base := base) (sp := sp_l_round K) (k := 4) Fd sc_l_round (fun cdv A outer s H E rm ds L Ex Kk hl h => b_l_round c X0 G0 rm h)
  have bN : Binds K fd ["_law_row_here"] [] := FunD.bindsN Fd fun _ _ _ _ _ _ us hl => match us, hl with | [_], _ => rfl
  exact ⟨fd, B, FnB.pos0 B bN, Fd.kp⟩
theorem fg_l_round : FnG P w K mg base 5 (f_l_round.ad K) (fun ds L Ex Kk => ds.length = 1 ∧ sp_l_round K ds L Ex Kk) := by
  obtain ⟨fd, _, z, _⟩ := fb_l_round c X0 G0
  exact z
theorem cl_l_round : Cl P w K mg base 5 "_law_round" (fun ds L Ex Kk => ds.length = 1 ∧ sp_l_round K ds L Ex Kk) := by
  obtain ⟨fd, _, z, kp⟩ := fb_l_round c X0 G0
  exact ⟨⟨_, z, g_l_round c X0 G0, kp⟩, rfl⟩
end
/-! ### _law_sum -/
theorem sc_l_sum : FnScope ["_law_row_here", "_law_start", "_law_count_here", "_law_size", "_law_found", "_law_k"] ["_law_row_here", "_law_start", "_law_count_here"] (defScope s_l_sum) := ⟨rfl, rfl, rfl, by decide +kernel, rfl, by decide +kernel, by decide +kernel⟩
abbrev X_l_sum (P : Program) (w : World) (K : PySem.W.Frag) (mg : Str → Option Value) (base : Heap) (f : Addr) (cdv : Value) (A : Around) (outer : List Env) (s : Shared) (H : Hp) (E : XK) : Cx := cxD P w K mg base ["_law_row_here", "_law_start", "_law_count_here", "_law_size", "_law_found", "_law_k"] "_law_sum" (defScope s_l_sum) f cdv A outer s H E
def sp_l_sum (K : PySem.W.Frag) : TSp := fun ds L Ex Kk => ∃ (ns : List Int) (s n : Int), ds = [.lst (ns.map Dt.int), .int s, .int n] ∧ ns ≠ [] ∧ ns.length ≤ 12 ∧ (∀ x ∈ ns, 0 ≤ x ∧ x ≤ 10 ^ 60) ∧ 0 ≤ s ∧ 0 ≤ n ∧ n ≤ 10 ^ 60 ∧ Kk (.int (win ns s n)) L
section
variable {P : Program} {w : World} {K : PySem.W.Frag} {mg : Str → Option Value} {base : Heap} {f : Addr} {cdv : Value} {A : Around} {outer : List Env} {s : Shared} {H : Hp} {E : XK} {h : Heap}
theorem nm_l_sum_0 : Nm (X_l_sum P w K mg base f cdv A outer s H E) "_law_row_here" 0 := ⟨rfl, by first | exact .inl rfl | exact .inr (.inl rfl) | exact .inr (.inr rfl), rfl, rfl⟩
theorem nm_l_sum_1 : Nm (X_l_sum P w K mg base f cdv A outer s H E) "_law_start" 1 := ⟨rfl, by first | exact .inl rfl | exact .inr (.inl rfl) | exact .inr (.inr rfl), rfl, rfl⟩
theorem nm_l_sum_2 : Nm (X_l_sum P w K mg base f cdv A outer s H E) "_law_count_here" 2 := ⟨rfl, by first | exact .inl rfl | exact .inr (.inl rfl) | exact .inr (.inr rfl), rfl, rfl⟩
theorem nm_l_sum_3 : Nm (X_l_sum P w K mg base f cdv A outer s H E) "_law_size" 3 := ⟨rfl, by first | exact .inl rfl | exact .inr (.inl rfl) | exact .inr (.inr rfl), rfl, rfl⟩
theorem nm_l_sum_4 : Nm (X_l_sum P w K mg base f cdv A outer s H E) "_law_found" 4 := ⟨rfl, by first | exact .inl rfl | exact .inr (.inl rfl) | exact .inr (.inr rfl), rfl, rfl⟩
theorem nm_l_sum_5 : Nm (X_l_sum P w K mg base f cdv A outer s H E) "_law_k" 5 := ⟨rfl, by first | exact .inl rfl | exact .inr (.inl rfl) | exact .inr (.inr rfl), rfl, rfl⟩
theorem ns_l_sum_3 : Ns (X_l_sum P w K mg base f cdv A outer s H E) "_law_size" 3 := ⟨sc_l_sum.nd, rfl, by first | exact .inl rfl | exact .inr rfl, .inl rfl⟩
theorem ns_l_sum_4 : Ns (X_l_sum P w K mg base f cdv A outer s H E) "_law_found" 4 := ⟨sc_l_sum.nd, rfl, by first | exact .inl rfl | exact .inr rfl, .inl rfl⟩
theorem ns_l_sum_5 : Ns (X_l_sum P w K mg base f cdv A outer s H E) "_law_k" 5 := ⟨sc_l_sum.nd, rfl, by first | exact .inl rfl | exact .inr rfl, .inl rfl⟩
theorem gl_l_sum_int : Gl (X_l_sum P w K mg base f cdv A outer s H E) "int" := rfl
theorem gl_l_sum_len : Gl (X_l_sum P w K mg base f cdv A outer s H E) "len" := rfl
theorem gl_l_sum_range : Gl (X_l_sum P w K mg base f cdv A outer s H E) "range" := rfl
theorem gl_l_sum_sum : Gl (X_l_sum P w K mg base f cdv A outer s H E) "sum" := rfl
end
section
variable {P : Program} {w : World} {K : PySem.W.Frag} {mg : Str → Option Value} {base : Heap} {f : Addr} {cdv : Value} {A : Around} {outer : List Env} {s : Shared} {H : Hp} {E : XK} {h : Heap} (c : SaysM fa fn K) (X0 : K.In h) (G0 : h.Ns mainGlobals mg)
include c X0 G0
theorem b_l_sum (rm : Rm 5 (X_l_sum P w K mg base f cdv A outer s H E).A) {ds : List Dt} {L : Cells} {Ex : XD} {Kk : KD} (h : sp_l_sum K ds L Ex Kk) : WSs (X_l_sum P w K mg base f cdv A outer s H E) (defBody s_l_sum) (gIn ["_law_row_here", "_law_start", "_law_count_here", "_law_size", "_law_found", "_law_k"] ds) L Ex { nx := fun _ L' => Kk .non L', rt := Kk } := by
  obtain ⟨ns, st, n, rfl, hne, h12, hx, hs, hn, hn2, hK⟩ := h
  have hp := len_pos hne
  have hr := Int.emod_nonneg n (Int.ne_of_gt hp)
  have hr2 := Int.emod_lt_of_pos n hp
  have hd := Int.ediv_nonneg hn (Int.le_of_lt hp)
  have hd2 := Int.ediv_le_self (b := ns.length) hn
  have hsm := sum_bnd hx h12 (by decide)
  change WSs _ _ [some _, some _, some _, none, none, none] _ _ _
  refine ws_cons ?_
  refine ws_set ns_l_sum_3 ?_
  refine we_blt (b_len) ⟨gl_l_sum_len, u_len c X0 G0⟩ rfl ?_
  refine wa_cons ?_
  refine we_nm nm_l_sum_0 .h ?_
  refine wa_nil ?_
  first | refine len_iL ?_ | refine len_iT ?_ | refine len_iR ?_ | refine len_iO (by first | assumption | exact Has.upd (by assumption) | exact .h | exact .t (by assumption) | exact .t (Has.upd (by assumption)) | exact .t .h | exact .t (.t .h)) ?_ | refine len_lst ?_ | refine len_tup ?_
  refine ⟨_, (.t (.t (.t .h))), ?_⟩
  refine ws_cons ?_
  refine ws_set ns_l_sum_4 ?_
  refine we_bin d_mulW ?_
  refine we_bin d_fdivW ?_
  refine we_nm nm_l_sum_2 (.t (.t .h)) ?_
  refine we_nm nm_l_sum_3 (.t (.t (.t .h))) ?_
  refine rIIc (cdw (by omega) (by omega)) ?_
  refine we_blt (b_sum rfl) ⟨gl_l_sum_sum, u_sum c X0 G0⟩ rfl ?_
  refine wa_cons ?_
  refine we_nm nm_l_sum_0 .h ?_
  refine wa_nil ?_
  first | refine sum_lst ?_ | refine sum_rdl ?_ | refine sum_tup ?_
  refine rIIc (cmw ⟨by omega, by omega⟩ ⟨by omega, by omega⟩) ?_
  refine ⟨_, (.t (.t (.t (.t .h)))), ?_⟩
  refine ws_cons ?_
  refine ws_for rfl passOwn ?_
  refine wi_range1 ⟨gl_l_sum_range, u_range c X0 G0⟩ ?_
  refine wa_cons ?_
  refine we_bin d_mod ?_
  refine we_bty (b_int) ⟨gl_l_sum_int, u_int c X0 G0⟩ rfl ?_
  refine wa_cons ?_
  refine we_nm nm_l_sum_2 (.t (.t .h)) ?_
  refine wa_nil ?_
  first | refine int_int ?_ | refine int_bl ?_
  refine we_nm nm_l_sum_3 (.t (.t (.t .h))) ?_
  refine rIIc (by omega) ?_
  refine wa_nil ?_
  refine ⟨_, rfl, ⟨by first | omega | (split <;> omega) | (split <;> split <;> omega), by first | omega | (split <;> omega) | (split <;> split <;> omega)⟩, ?_⟩
  refine ⟨fun i Γ1 L1 => (∃ o, Γ1 = [some (.lst (ns.map Dt.int)), some (.int st), some (.int n), some (.int ns.length), some (.int (n / ns.length * ns.sum + psum ns st i)), o]) ∧ L1 = L, ⟨⟨_, by rw [psum, Int.add_zero]⟩, rfl⟩, ?_, ?_⟩
  · skip
    rintro i d Γ1 L1 hd ⟨⟨o, rfl⟩, rfl⟩
    obtain ⟨hi, rfl⟩ := rngD_at hd
    have hj := Int.emod_nonneg (st + (0 + (i : Int))) (Int.ne_of_gt hp)
    have hj2 := Int.emod_lt_of_pos (st + (0 + (i : Int))) hp
    refine wg_name ns_l_sum_5 (.t (.t (.t (.t (.t .h))))) ?_
    refine ws_one ?_
    refine ws_set ns_l_sum_4 ?_
    refine we_bin d_plus ?_
    refine we_nm nm_l_sum_4 (.t (.t (.t (.t .h)))) ?_
    refine we_ix ix_d ?_
    refine we_nm nm_l_sum_0 .h ?_
    refine we_bin d_mod ?_
    refine we_bty (b_int) ⟨gl_l_sum_int, u_int c X0 G0⟩ rfl ?_
    refine wa_cons ?_
    refine we_bin d_plus ?_
    refine we_nm nm_l_sum_1 (.t .h) ?_
    refine we_nm nm_l_sum_5 (.t (.t (.t (.t (.t .h))))) ?_
    first | refine plus_int ?_ | refine plus_iL (by (try simp only [List.length_append, List.length_cons, List.length_nil]); omega) ?_ | refine plus_iT (by omega) ?_ | refine plus_iL1 (by omega) ?_
    refine wa_nil ?_
    first | refine int_int ?_ | refine int_bl ?_
    refine we_nm nm_l_sum_3 (.t (.t (.t .h))) ?_
    refine rIIc (by omega) ?_
    first | refine ixd_own (by first | assumption | exact Has.upd (by assumption) | exact .h | exact .t (by assumption) | exact .t (Has.upd (by assumption)) | exact .t .h | exact .t (.t .h)) rfl ?_ | refine ixd_lst rfl ?_ | refine ixd_tup rfl ?_ | refine ix_iL (by omega) (by omega) ?_ | refine ix_iT (by omega) (by omega) ?_ | refine ix_iR (by omega) (by omega) ?_ | refine ix_iO (by first | assumption | exact Has.upd (by assumption) | exact .h | exact .t (by assumption) | exact .t (Has.upd (by assumption)) | exact .t .h | exact .t (.t .h)) (by omega) (by omega) ?_ | refine ix_iLn (by omega) (by omega) ?_
    first | refine plus_int ?_ | refine plus_iL (by (try simp only [List.length_append, List.length_cons, List.length_nil]); omega) ?_ | refine plus_iT (by omega) ?_ | refine plus_iL1 (by omega) ?_
    refine ⟨_, (.t (.t (.t (.t .h)))), ?_⟩
    exact ⟨⟨_, by simp only [psum, Int.zero_add, Int.add_assoc]; rfl⟩, rfl⟩
  rintro Γ1 L1 ⟨⟨o, rfl⟩, rfl⟩
  rw [rngD_len, ← win_eq hne hs hn]
  refine ws_one ?_
  refine ws_ret ?_
  refine we_nm nm_l_sum_4 (.t (.t (.t (.t .h)))) ?_
  exact hK
theorem fb_l_sum : ∃ fd, FnB P w K mg base 6 (f_l_sum.ad K) fd ["_law_row_here", "_law_start", "_law_count_here"] (sp_l_sum K) ∧ FnG P w K mg base 6 (f_l_sum.ad K) (fun ds L Ex Kk => ds.length = 3 ∧ sp_l_sum K ds L Ex Kk) ∧ PySem.W.keepIn K (.ref (f_l_sum.ad K)) = true := by
  obtain ⟨fd, Fd⟩ := c.dfn 18 (t := f_l_sum) rfl
  have B := fn_body (P := P) (w := w) (mg := mg) (base := base) (sp := sp_l_sum K) (k := 5) Fd sc_l_sum (fun cdv A outer s H E rm ds L Ex Kk hl h => b_l_sum c X0 G0 rm h)
  have bN : Binds K fd ["_law_row_here", "_law_start", "_law_count_here"] [] := FunD.bindsN Fd fun _ _ _ _ _ _ us hl => match us, hl with | [_, _, _], _ => rfl
  exact ⟨fd, B, FnB.pos0 B bN, Fd.kp⟩
theorem fg_l_sum : FnG P w K mg base 6 (f_l_sum.ad K) (fun ds L Ex Kk => ds.length = 3 ∧ sp_l_sum K ds L Ex Kk) := by
  obtain ⟨fd, _, z, _⟩ := fb_l_sum c X0 G0
  exact z
theorem cl_l_sum : Cl P w K mg base 6 "_law_sum" (fun ds L Ex Kk => ds.length = 3 ∧ sp_l_sum K ds L Ex Kk) := by
  obtain ⟨fd, _, z, kp⟩ := fb_l_sum c X0 G0
  exact ⟨⟨_, z, g_l_sum c X0 G0, kp⟩, rfl⟩
end
/-! ### _law_moved -/
theorem sc_l_moved : FnScope ["_law_row_here", "_law_phase", "_law_k"] ["_law_row_here", "_law_phase"] (defScope s_l_moved) := ⟨rfl, rfl, rfl, by decide +kernel, rfl, by decide +kernel, by decide +kernel⟩
abbrev X_l_moved (P : Program) (w : World) (K : PySem.W.Frag) (mg : Str → Option Value) (base : Heap) (f : Addr) (cdv : Value) (A : Around) (outer : List Env) (s : Shared) (H : Hp) (E : XK) : Cx := cxD P w K mg base ["_law_row_here", "_law_phase", "_law_k"] "_law_moved" (defScope s_l_moved) f cdv A outer s H E
def sp_l_moved (K : PySem.W.Frag) : TSp := fun ds L Ex Kk => ∃ (ns : List Int) (t : Int), ds = [.lst (ns.map Dt.int), .int t] ∧ ns ≠ [] ∧ ns.length ≤ 1000 ∧ 0 ≤ t ∧ Kk (.lst ((rot ns t).map Dt.int)) L
section
variable {P : Program} {w : World} {K : PySem.W.Frag} {mg : Str → Option Value} {base : Heap} {f : Addr} {cdv : Value} {A : Around} {outer : List Env} {s : Shared} {H : Hp} {E : XK} {h : Heap}
theorem nm_l_moved_0 : Nm (X_l_moved P w K mg base f cdv A outer s H E) "_law_row_here" 0 := ⟨rfl, by first | exact .inl rfl | exact .inr (.inl rfl) | exact .inr (.inr rfl), rfl, rfl⟩
theorem gl_l_moved_len : Gl (X_l_moved P w K mg base f cdv A outer s H E) "len" := rfl
theorem gl_l_moved_range : Gl (X_l_moved P w K mg base f cdv A outer s H E) "range" := rfl
end
section
variable {P : Program} {w : World} {K : PySem.W.Frag} {mg : Str → Option Value} {base : Heap} {f : Addr} {cdv : Value} {A : Around} {outer : List Env} {s : Shared} {H : Hp} {E : XK} {h : Heap} (c : SaysM fa fn K) (X0 : K.In h) (G0 : h.Ns mainGlobals mg)
include c X0 G0
theorem b_l_moved (rm : Rm 5 (X_l_moved P w K mg base f cdv A outer s H E).A) {ds : List Dt} {L : Cells} {Ex : XD} {Kk : KD} (h : sp_l_moved K ds L Ex Kk) : WSs (X_l_moved P w K mg base f cdv A outer s H E) (defBody s_l_moved) (gIn ["_law_row_here", "_law_phase", "_law_k"] ds) L Ex { nx := fun _ L' => Kk .non L', rt := Kk } := by
  obtain ⟨ns, t, rfl, hne, hl, h0, hK⟩ := h
  have hp := len_pos hne
  change WSs _ _ [some _, some _, none] _ _ _
  refine ws_one ?_
  refine ws_ret ?_
  refine we_lc (own := [("_law_k", 2)]) (j := 2) rfl sc_l_moved.nd (blkOk_by (N := ["_law_row_here", "_law_phase", "_law_k"]) (sc := defScope s_l_moved) (by decide +kernel)) (by decide) (fun _ _ _ _ _ => ⟨sc_l_moved.nd, rfl, by first | exact .inl rfl | exact .inr rfl, by first | exact .inr rfl | exact .inl rfl⟩) ?_
  refine wi_range1 ⟨gl_l_moved_range, u_range c X0 G0⟩ ?_
  refine wa_cons ?_
  refine we_blt (b_len) ⟨gl_l_moved_len, u_len c X0 G0⟩ rfl ?_
  refine wa_cons ?_
  refine we_nm nm_l_moved_0 .h ?_
  refine wa_nil ?_
  first | refine len_iL ?_ | refine len_iT ?_ | refine len_iR ?_ | refine len_iO (by first | assumption | exact Has.upd (by assumption) | exact .h | exact .t (by assumption) | exact .t (Has.upd (by assumption)) | exact .t .h | exact .t (.t .h)) ?_ | refine len_lst ?_ | refine len_tup ?_
  refine wa_nil ?_
  refine ⟨_, rfl, ⟨by first | omega | (split <;> omega) | (split <;> split <;> omega), by first | omega | (split <;> omega) | (split <;> split <;> omega)⟩, ?_⟩
  refine lc_rs (rs := (rot ns t).map Dt.int) (by simp [rngD_len, rot_len hne]) (by simp [rngD_len]; omega) (fun i d acc D hd => ?_) ?_
  · skip
    obtain ⟨hi, rfl⟩ := rngD_at hd
    have hj := Int.emod_nonneg (t + (0 + (i : Int))) (Int.ne_of_gt hp)
    have hj2 := Int.emod_lt_of_pos (t + (0 + (i : Int))) hp
    refine ⟨_, .t (.t .h), ?_⟩
    intro s0 H0 C0 cl0 fp0
    refine we_ix ix_d ?_
    refine we_nm (i := 0) ⟨rfl, by first | exact .inr (.inr rfl) | exact .inl rfl | exact .inr (.inl rfl), rfl, rfl⟩ .h ?_
    refine we_bin d_mod ?_
    refine we_bty (b_int) ⟨(by rfl), u_int c X0 G0⟩ rfl ?_
    refine wa_cons ?_
    refine we_bin d_plus ?_
    refine we_nm (i := 1) ⟨rfl, by first | exact .inr (.inr rfl) | exact .inl rfl | exact .inr (.inl rfl), rfl, rfl⟩ (.t .h) ?_
    refine we_nm (i := 2) ⟨rfl, by first | exact .inr (.inr rfl) | exact .inl rfl | exact .inr (.inl rfl), rfl, rfl⟩ (.t (.t .h)) ?_
    first | refine plus_int ?_ | refine plus_iL (by (try simp only [List.length_append, List.length_cons, List.length_nil]); omega) ?_ | refine plus_iT (by omega) ?_ | refine plus_iL1 (by omega) ?_
    refine wa_nil ?_
    first | refine int_int ?_ | refine int_bl ?_
    refine we_blt (b_len) ⟨(by rfl), u_len c X0 G0⟩ rfl ?_
    refine wa_cons ?_
    refine we_nm (i := 0) ⟨rfl, by first | exact .inr (.inr rfl) | exact .inl rfl | exact .inr (.inl rfl), rfl, rfl⟩ .h ?_
    refine wa_nil ?_
    first | refine len_iL ?_ | refine len_iT ?_ | refine len_iR ?_ | refine len_iO (by first | assumption | exact Has.upd (by assumption) | exact .h | exact .t (by assumption) | exact .t (Has.upd (by assumption)) | exact .t .h | exact .t (.t .h)) ?_ | refine len_lst ?_ | refine len_tup ?_
    refine rIIc (by omega) ?_
    first | refine ixd_own (by first | assumption | exact Has.upd (by assumption) | exact .h | exact .t (by assumption) | exact .t (Has.upd (by assumption)) | exact .t .h | exact .t (.t .h)) rfl ?_ | refine ixd_lst rfl ?_ | refine ixd_tup rfl ?_ | refine ix_iL (by omega) (by omega) ?_ | refine ix_iT (by omega) (by omega) ?_ | refine ix_iR (by omega) (by omega) ?_ | refine ix_iO (by first | assumption | exact Has.upd (by assumption) | exact .h | exact .t (by assumption) | exact .t (Has.upd (by assumption)) | exact .t .h | exact .t (.t .h)) (by omega) (by omega) ?_ | refine ix_iLn (by omega) (by omega) ?_
    refine ⟨?_, rfl⟩
    rw [List.getElem?_map, rot_get h0 (by omega), Int.zero_add]
    rfl
  exact hK
theorem fb_l_moved : ∃ fd, FnB P w K mg base 6 (f_l_moved.ad K) fd ["_law_row_here", "_law_phase"] (sp_l_moved K) ∧ FnG P w K mg base 6 (f_l_moved.ad K) (fun ds L Ex Kk => ds.length = 2 ∧ sp_l_moved K ds L Ex Kk) ∧ PySem.W.keepIn K (.ref (f_l_moved.ad K)) = true := by
  obtain ⟨fd, Fd⟩ := c.dfn 19 (t := f_l_moved) rfl
  have B := fn_body (P := P) (w := w) (mg := mg) (base := base) (sp := sp_l_moved K) (k := 5) Fd sc_l_moved (fun cdv A outer s H E rm ds L Ex Kk hl h => b_l_moved c X0 G0 rm h)
  have bN : Binds K fd ["_law_row_here", "_law_phase"] [] := FunD.bindsN Fd fun _ _ _ _ _ _ us hl => match us, hl with | [_, _], _ => rfl
  exact ⟨fd, B, FnB.pos0 B bN, Fd.kp⟩
theorem fg_l_moved : FnG P w K mg base 6 (f_l_moved.ad K) (fun ds L Ex Kk => ds.length = 2 ∧ sp_l_moved K ds L Ex Kk) := by
  obtain ⟨fd, _, z, _⟩ := fb_l_moved c X0 G0
  exact z
theorem cl_l_moved : Cl P w K mg base 6 "_law_moved" (fun ds L Ex Kk => ds.length = 2 ∧ sp_l_moved K ds L Ex Kk) := by
  obtain ⟨fd, _, z, kp⟩ := fb_l_moved c X0 G0
  exact ⟨⟨_, z, g_l_moved c X0 G0, kp⟩, rfl⟩
end
/-! ### _law_has -/
theorem sc_l_has : FnScope ["_law_made", "_law_row_here", "_law_told", "_law_one"] ["_law_made", "_law_row_here"] (defScope s_l_has) := ⟨rfl, rfl, rfl, by decide +kernel, rfl, by decide +kernel, by decide +kernel⟩
abbrev X_l_has (P : Program) (w : World) (K : PySem.W.Frag) (mg : Str → Option Value) (base : Heap) (f : Addr) (cdv : Value) (A : Around) (outer : List Env) (s : Shared) (H : Hp) (E : XK) : Cx := cxD P w K mg base ["_law_made", "_law_row_here", "_law_told", "_law_one"] "_law_has" (defScope s_l_has) f cdv A outer s H E
def sp_l_has (K : PySem.W.Frag) : TSp := fun ds L Ex Kk => ∃ (ns ms : List Int), ds = [rd K ns, .lst (ms.map Dt.int)] ∧ ns.length ≤ 1000 ∧ Kk (.bl (decide (ns = ms))) L
section
variable {P : Program} {w : World} {K : PySem.W.Frag} {mg : Str → Option Value} {base : Heap} {f : Addr} {cdv : Value} {A : Around} {outer : List Env} {s : Shared} {H : Hp} {E : XK} {h : Heap}
theorem nm_l_has_0 : Nm (X_l_has P w K mg base f cdv A outer s H E) "_law_made" 0 := ⟨rfl, by first | exact .inl rfl | exact .inr (.inl rfl) | exact .inr (.inr rfl), rfl, rfl⟩
theorem nm_l_has_1 : Nm (X_l_has P w K mg base f cdv A outer s H E) "_law_row_here" 1 := ⟨rfl, by first | exact .inl rfl | exact .inr (.inl rfl) | exact .inr (.inr rfl), rfl, rfl⟩
theorem nm_l_has_2 : Nm (X_l_has P w K mg base f cdv A outer s H E) "_law_told" 2 := ⟨rfl, by first | exact .inl rfl | exact .inr (.inl rfl) | exact .inr (.inr rfl), rfl, rfl⟩
theorem ns_l_has_2 : Ns (X_l_has P w K mg base f cdv A outer s H E) "_law_told" 2 := ⟨sc_l_has.nd, rfl, by first | exact .inl rfl | exact .inr rfl, .inl rfl⟩
theorem gl_l_has_Round : Gl (X_l_has P w K mg base f cdv A outer s H E) "Round" := rfl
theorem gl_l_has_all : Gl (X_l_has P w K mg base f cdv A outer s H E) "all" := rfl
theorem gl_l_has_isinstance : Gl (X_l_has P w K mg base f cdv A outer s H E) "isinstance" := rfl
theorem gl_l_has_len : Gl (X_l_has P w K mg base f cdv A outer s H E) "len" := rfl
theorem gl_l_has_list : Gl (X_l_has P w K mg base f cdv A outer s H E) "list" := rfl
end
section
variable {P : Program} {w : World} {K : PySem.W.Frag} {mg : Str → Option Value} {base : Heap} {f : Addr} {cdv : Value} {A : Around} {outer : List Env} {s : Shared} {H : Hp} {E : XK} {h : Heap} (c : SaysM fa fn K) (X0 : K.In h) (G0 : h.Ns mainGlobals mg)
include c X0 G0
theorem b_l_has (rm : Rm 2 (X_l_has P w K mg base f cdv A outer s H E).A) {ds : List Dt} {L : Cells} {Ex : XD} {Kk : KD} (h : sp_l_has K ds L Ex Kk) : WSs (X_l_has P w K mg base f cdv A outer s H E) (defBody s_l_has) (gIn ["_law_made", "_law_row_here", "_law_told", "_law_one"] ds) L Ex { nx := fun _ L' => Kk .non L', rt := Kk } := by
  obtain ⟨ns, ms, rfl, hl, hK⟩ := h
  change WSs _ _ [some _, some _, none, none] _ _ _
  refine ws_cons ?_
  refine ws_if ?_
  refine wt_of ?_
  refine ww_or ?_
  refine wt_not ?_
  refine wt_val ?_
  refine we_blt (b_isi) ⟨gl_l_has_isinstance, u_isinstance c X0 G0⟩ rfl ?_
  refine wa_cons ?_
  refine we_nm nm_l_has_0 .h ?_
  refine wa_cons ?_
  refine we_glo gl_l_has_Round (g_Round c X0 G0) ?_
  refine wa_nil ?_
  refine ⟨_, _, _, _, _, rfl, .own _, .ins (ins_Round c), ki_Round c, ?_⟩
  refine ⟨_, rfl, ?_⟩
  refine t_f rfl ?_
  refine ww_or1 ?_
  refine wt_cmp (d_neA rm.eqU) ?_
  refine we_blt (b_lenO (sx_Round_Dlen c X0 G0) rm (by decide)) ⟨gl_l_has_len, u_len c X0 G0⟩ rfl ?_
  refine wa_cons ?_
  refine we_nm nm_l_has_0 .h ?_
  refine wa_nil ?_
  refine ⟨_, rfl, rd_ins, rfl, _, rfl, _, rfl, by omega, ?_⟩
  refine we_blt (b_len) ⟨gl_l_has_len, u_len c X0 G0⟩ rfl ?_
  refine wa_cons ?_
  refine we_nm nm_l_has_1 (.t .h) ?_
  refine wa_nil ?_
  first | refine len_iL ?_ | refine len_iT ?_ | refine len_iR ?_ | refine len_iO (by first | assumption | exact Has.upd (by assumption) | exact .h | exact .t (by assumption) | exact .t (Has.upd (by assumption)) | exact .t .h | exact .t (.t .h)) ?_ | refine len_lst ?_ | refine len_tup ?_
  first | refine neA_int ?_ | refine neA_iL ?_ | refine neA_str ?_ | refine neA_bl ?_ | refine neA_bL ?_ | refine neA_iT ?_
  refine ⟨_, rfl, ?_⟩
  first | refine tf (fun hif1 => ?_) (fun hif1 => ?_) | refine tfn (fun hif1 => ?_) (fun hif1 => ?_) | refine tb (fun hif1 => ?_) (fun hif1 => ?_)
  · skip
    refine ws_one ?_
    refine ws_ret ?_
    refine we_bl ?_
    rw [decide_eq_false (fun e : ns = ms => hif1 (by rw [e]))] at hK
    exact hK
  refine ws_nil ?_
  refine ws_cons ?_
  refine ws_set ns_l_has_2 ?_
  refine we_frzL ?_
  refine we_prop (pr_Round_budgets c X0 G0) rm (by decide) ?_
  refine we_nm nm_l_has_0 .h ?_
  refine ⟨rd_ins, ?_⟩
  refine ⟨rfl, ?_⟩
  refine ⟨_, rfl, fun a => ⟨_, _, _, rfl, rfl, ?_⟩⟩
  refine ⟨_, (.t (.t .h)), ?_⟩
  refine ws_cons ?_
  refine ws_if ?_
  refine wt_of ?_
  refine ww_or ?_
  refine wt_not ?_
  refine wt_val ?_
  refine we_blt (b_isi) ⟨gl_l_has_isinstance, u_isinstance c X0 G0⟩ rfl ?_
  refine wa_cons ?_
  refine we_nm nm_l_has_2 (.t (.t .h)) ?_
  refine wa_cons ?_
  refine we_btn ⟨gl_l_has_list, u_list c X0 G0⟩ rfl ?_
  refine wa_nil ?_
  refine ⟨_, _, _, _, _, rfl, .ty _, .lst (.inl rfl), kit_list, ?_⟩
  refine ⟨_, rfl, ?_⟩
  refine t_f rfl ?_
  refine ww_or1 ?_
  refine wt_cmp (d_neA rm.eqU) ?_
  refine we_blt (b_len) ⟨gl_l_has_len, u_len c X0 G0⟩ rfl ?_
  refine wa_cons ?_
  refine we_nm nm_l_has_2 (.t (.t .h)) ?_
  refine wa_nil ?_
  first | refine len_iL ?_ | refine len_iT ?_ | refine len_iR ?_ | refine len_iO (by first | assumption | exact Has.upd (by assumption) | exact .h | exact .t (by assumption) | exact .t (Has.upd (by assumption)) | exact .t .h | exact .t (.t .h)) ?_ | refine len_lst ?_ | refine len_tup ?_
  refine we_blt (b_len) ⟨gl_l_has_len, u_len c X0 G0⟩ rfl ?_
  refine wa_cons ?_
  refine we_nm nm_l_has_1 (.t .h) ?_
  refine wa_nil ?_
  first | refine len_iL ?_ | refine len_iT ?_ | refine len_iR ?_ | refine len_iO (by first | assumption | exact Has.upd (by assumption) | exact .h | exact .t (by assumption) | exact .t (Has.upd (by assumption)) | exact .t .h | exact .t (.t .h)) ?_ | refine len_lst ?_ | refine len_tup ?_
  first | refine neA_int ?_ | refine neA_iL ?_ | refine neA_str ?_ | refine neA_bl ?_ | refine neA_bL ?_ | refine neA_iT ?_
  refine ⟨_, rfl, ?_⟩
  refine t_nn (by omega) ?_
  refine ws_nil ?_
  refine ws_one ?_
  refine ws_ret ?_
  refine we_and ?_
  refine we_blt (b_all rfl) ⟨gl_l_has_all, u_all c X0 G0⟩ rfl ?_
  refine wa_cons ?_
  refine we_lc (own := [("_law_one", 3)]) (j := 3) rfl sc_l_has.nd (blkOk_by (N := ["_law_made", "_law_row_here", "_law_told", "_law_one"]) (sc := defScope s_l_has) (by decide +kernel)) (by decide) (fun _ _ _ _ _ => ⟨sc_l_has.nd, rfl, by first | exact .inl rfl | exact .inr rfl, by first | exact .inr rfl | exact .inl rfl⟩) ?_
  refine wi_list ?_
  refine we_nm nm_l_has_2 (.t (.t .h)) ?_
  refine ⟨_, .inl rfl, ?_⟩
  refine lc_rs (rs := (ns.map fun _ => true).map Dt.bl) (by simp) (by simp; omega) (fun i d acc D hd => ?_) ?_
  · skip
    obtain ⟨hi, rfl⟩ := at_map hd
    refine ⟨_, (.t (.t (.t .h))), ?_⟩
    intro s0 H0 C0 cl0 fp0
    refine we_call (cl_l_is_number c X0 G0) rm (by decide) (by rfl) ?_
    refine wa_cons ?_
    refine we_nm (i := 3) ⟨rfl, by first | exact .inr (.inr rfl) | exact .inl rfl | exact .inr (.inl rfl), rfl, rfl⟩ (.t (.t (.t .h))) ?_
    refine wa_nil ?_
    refine ⟨rfl, ?_⟩
    refine ⟨_, rfl, ?_⟩
    refine ⟨?_, rfl⟩
    simp [hi]
  refine wa_nil ?_
  refine all_of (b := true) (by simp) ?_
  refine ⟨_, rfl, ?_⟩
  refine t_t rfl ?_
  refine we_one ?_
  refine we_cmp (d_eqA rm.eqU) ?_
  refine we_nm nm_l_has_2 (.t (.t .h)) ?_
  refine we_nm nm_l_has_1 (.t .h) ?_
  first | refine eqA_int ?_ | refine eqA_iL ?_ | refine eqA_str ?_ | refine eqA_bl ?_ | refine eqA_bL ?_ | refine eqA_iT ?_
  exact hK
theorem fb_l_has : ∃ fd, FnB P w K mg base 3 (f_l_has.ad K) fd ["_law_made", "_law_row_here"] (sp_l_has K) ∧ FnG P w K mg base 3 (f_l_has.ad K) (fun ds L Ex Kk => ds.length = 2 ∧ sp_l_has K ds L Ex Kk) ∧ PySem.W.keepIn K (.ref (f_l_has.ad K)) = true := by
  obtain ⟨fd, Fd⟩ := c.dfn 20 (t := f_l_has) rfl
  have B := fn_body (P := P) (w := w) (mg := mg) (base := base) (sp := sp_l_has K) (k := 2) Fd sc_l_has (fun cdv A outer s H E rm ds L Ex Kk hl h => b_l_has c X0 G0 rm h)
  have bN : Binds K fd ["_law_made", "_law_row_here"] [] := FunD.bindsN Fd fun _ _ _ _ _ _ us hl => match us, hl with | [_, _], _ => rfl
  exact ⟨fd, B, FnB.pos0 B bN, Fd.kp⟩
theorem fg_l_has : FnG P w K mg base 3 (f_l_has.ad K) (fun ds L Ex Kk => ds.length = 2 ∧ sp_l_has K ds L Ex Kk) := by
  obtain ⟨fd, _, z, _⟩ := fb_l_has c X0 G0
  exact z
theorem cl_l_has : Cl P w K mg base 3 "_law_has" (fun ds L Ex Kk => ds.length = 2 ∧ sp_l_has K ds L Ex Kk) := by
  obtain ⟨fd, _, z, kp⟩ := fb_l_has c X0 G0
  exact ⟨⟨_, z, g_l_has c X0 G0, kp⟩, rfl⟩
end
/-! ### _law_count -/
theorem sc_l_count : FnScope ["_law_bag_here", "_law_size", "_law_count_here", "_law_way"] ["_law_bag_here", "_law_size"] (defScope s_l_count) := ⟨rfl, rfl, rfl, by decide +kernel, rfl, by decide +kernel, by decide +kernel⟩
abbrev X_l_count (P : Program) (w : World) (K : PySem.W.Frag) (mg : Str → Option Value) (base : Heap) (f : Addr) (cdv : Value) (A : Around) (outer : List Env) (s : Shared) (H : Hp) (E : XK) : Cx := cxD P w K mg base ["_law_bag_here", "_law_size", "_law_count_here", "_law_way"] "_law_count" (defScope s_l_count) f cdv A outer s H E
def sp_l_count (K : PySem.W.Frag) : TSp := fun ds L Ex Kk => ∃ (a : Addr) (x c s : Int) (n : Int) (g : OC → Cells), ds = [.ref a, .int n] ∧ 1 ≤ n ∧ n ≤ 1000 ∧ Has L a (Bag x c s) g ∧ ∀ r x' c', 0 ≤ r → r ≤ 10 ^ 30 → Kk (.int r) (g (Bag x' c' s))
section
variable {P : Program} {w : World} {K : PySem.W.Frag} {mg : Str → Option Value} {base : Heap} {f : Addr} {cdv : Value} {A : Around} {outer : List Env} {s : Shared} {H : Hp} {E : XK} {h : Heap}
theorem nm_l_count_0 : Nm (X_l_count P w K mg base f cdv A outer s H E) "_law_bag_here" 0 := ⟨rfl, by first | exact .inl rfl | exact .inr (.inl rfl) | exact .inr (.inr rfl), rfl, rfl⟩
theorem nm_l_count_1 : Nm (X_l_count P w K mg base f cdv A outer s H E) "_law_size" 1 := ⟨rfl, by first | exact .inl rfl | exact .inr (.inl rfl) | exact .inr (.inr rfl), rfl, rfl⟩
theorem nm_l_count_2 : Nm (X_l_count P w K mg base f cdv A outer s H E) "_law_count_here" 2 := ⟨rfl, by first | exact .inl rfl | exact .inr (.inl rfl) | exact .inr (.inr rfl), rfl, rfl⟩
theorem nm_l_count_3 : Nm (X_l_count P w K mg base f cdv A outer s H E) "_law_way" 3 := ⟨rfl, by first | exact .inl rfl | exact .inr (.inl rfl) | exact .inr (.inr rfl), rfl, rfl⟩
theorem ns_l_count_2 : Ns (X_l_count P w K mg base f cdv A outer s H E) "_law_count_here" 2 := ⟨sc_l_count.nd, rfl, by first | exact .inl rfl | exact .inr rfl, .inl rfl⟩
theorem ns_l_count_3 : Ns (X_l_count P w K mg base f cdv A outer s H E) "_law_way" 3 := ⟨sc_l_count.nd, rfl, by first | exact .inl rfl | exact .inr rfl, .inl rfl⟩
theorem gl_l_count_l_number : Gl (X_l_count P w K mg base f cdv A outer s H E) "_law_number" := rfl
theorem gl_l_count_l_take : Gl (X_l_count P w K mg base f cdv A outer s H E) "_law_take" := rfl
theorem gl_l_count_max : Gl (X_l_count P w K mg base f cdv A outer s H E) "max" := rfl
theorem gl_l_count_min : Gl (X_l_count P w K mg base f cdv A outer s H E) "min" := rfl
end
section
variable {P : Program} {w : World} {K : PySem.W.Frag} {mg : Str → Option Value} {base : Heap} {f : Addr} {cdv : Value} {A : Around} {outer : List Env} {s : Shared} {H : Hp} {E : XK} {h : Heap} (c : SaysM fa fn K) (X0 : K.In h) (G0 : h.Ns mainGlobals mg)
include c X0 G0
theorem b_l_count (rm : Rm 7 (X_l_count P w K mg base f cdv A outer s H E).A) {ds : List Dt} {L : Cells} {Ex : XD} {Kk : KD} (h : sp_l_count K ds L Ex Kk) : WSs (X_l_count P w K mg base f cdv A outer s H E) (defBody s_l_count) (gIn ["_law_bag_here", "_law_size", "_law_count_here", "_law_way"] ds) L Ex { nx := fun _ L' => Kk .non L', rt := Kk } := by
  obtain ⟨a, x, c0, sd, n, g, rfl, hn, hl, hh, hK⟩ := h
  change WSs _ _ [some _, some _, none, none] _ _ _
  refine ws_cons ?_
  refine ws_set ns_l_count_2 ?_
  refine we_call (cl_l_number c X0 G0) rm (by decide) gl_l_count_l_number ?_
  refine wa_cons ?_
  refine we_nm nm_l_count_0 .h ?_
  refine wa_cons ?_
  refine we_bin d_pow ?_
  refine we_int ?_
  refine we_int ?_
  refine pow_lit (r := 1000000000000000000000000000000) ⟨by decide, by decide, by decide⟩ (by decide) ?_
  refine wa_nil ?_
  refine ⟨rfl, ?_⟩
  refine ⟨_, _, _, _, _, _, rfl, by omega, by omega, (by first | assumption | exact Has.upd (by assumption) | exact .h | exact .t (by assumption) | exact .t (Has.upd (by assumption)) | exact .t .h | exact .t (.t .h)), fun r1 x1 c1 hr1 hs1 => ?_⟩
  refine ⟨_, (.t (.t .h)), ?_⟩
  refine ws_cons ?_
  refine ws_set ns_l_count_3 ?_
  refine we_call (cl_l_take c X0 G0) rm (by decide) gl_l_count_l_take ?_
  refine wa_cons ?_
  refine we_nm nm_l_count_0 .h ?_
  refine wa_cons ?_
  refine we_int ?_
  refine wa_nil ?_
  refine ⟨rfl, ?_⟩
  refine ⟨_, _, _, _, _, _, rfl, by omega, by omega, (by first | assumption | exact Has.upd (by assumption) | exact .h | exact .t (by assumption) | exact .t (Has.upd (by assumption)) | exact .t .h | exact .t (.t .h)), fun r2 x2 c2 hr2 hs2 => ?_⟩
  refine ⟨_, (.t (.t (.t .h))), ?_⟩
  refine ws_cut (fun Γ' L' => ∃ r : Int, 0 ≤ r ∧ r ≤ 10 ^ 30 ∧ Γ' = [some (.ref a), some (.int n), some (.int r), some (.int r2)] ∧ L' = g (Bag x2 c2 sd)) ?_ ?_
  · skip
    refine ws_if ?_
    refine wt_cmp (d_eqA rm.eqU) ?_
    refine we_nm nm_l_count_3 (.t (.t (.t .h))) ?_
    refine we_int ?_
    first | refine eqA_int ?_ | refine eqA_iL ?_ | refine eqA_str ?_ | refine eqA_bl ?_ | refine eqA_bL ?_ | refine eqA_iT ?_
    refine ⟨_, rfl, ?_⟩
    first | refine tf (fun hif3 => ?_) (fun hif3 => ?_) | refine tfn (fun hif3 => ?_) (fun hif3 => ?_) | refine tb (fun hif3 => ?_) (fun hif3 => ?_)
    · skip
      have hd := Int.ediv_nonneg (a := r1) (b := n) (by omega) (by omega)
      have hd2 := Int.ediv_mul_le r1 (b := n) (by omega)
      have hd3 := Int.mul_nonneg hd (show 0 ≤ n by omega)
      have hd4 := Int.ediv_le_self (a := r1) n (by omega)
      refine ws_one ?_
      refine ws_set ns_l_count_2 ?_
      refine we_bin d_mul ?_
      refine we_bin d_fdivW ?_
      refine we_nm nm_l_count_2 (.t (.t .h)) ?_
      refine we_nm nm_l_count_1 (.t .h) ?_
      refine rIIc (cdw (by omega) (by omega)) ?_
      refine we_nm nm_l_count_1 (.t .h) ?_
      refine rIIc (by first | exact Or.inr ⟨by omega, by omega⟩ | exact Or.inl ⟨by omega, by omega⟩) ?_
      refine ⟨_, (.t (.t .h)), ?_⟩
      exact ⟨_, by omega, by omega, rfl, rfl⟩
    · skip
      refine ws_nil ?_
      exact ⟨_, by omega, by omega, rfl, rfl⟩
  rintro _ _ ⟨r, hr0, hr3, rfl, rfl⟩
  refine ws_cut (fun Γ' L' => ∃ r : Int, 0 ≤ r ∧ r ≤ 10 ^ 30 ∧ Γ' = [some (.ref a), some (.int n), some (.int r), some (.int r2)] ∧ L' = g (Bag x2 c2 sd)) ?_ ?_
  · skip
    refine ws_if ?_
    refine wt_cmp (d_eqA rm.eqU) ?_
    refine we_nm nm_l_count_3 (.t (.t (.t .h))) ?_
    refine we_int ?_
    first | refine eqA_int ?_ | refine eqA_iL ?_ | refine eqA_str ?_ | refine eqA_bl ?_ | refine eqA_bL ?_ | refine eqA_iT ?_
    refine ⟨_, rfl, ?_⟩
    first | refine tf (fun hif5 => ?_) (fun hif5 => ?_) | refine tfn (fun hif5 => ?_) (fun hif5 => ?_) | refine tb (fun hif5 => ?_) (fun hif5 => ?_)
    · skip
      have hd := Int.ediv_nonneg (a := r) (b := n) (by omega) (by omega)
      have hd2 := Int.ediv_mul_le r (b := n) (by omega)
      have hd3 := Int.mul_nonneg hd (show 0 ≤ n by omega)
      have hd4 := Int.ediv_le_self (a := r) n (by omega)
      refine ws_one ?_
      refine ws_set ns_l_count_2 ?_
      refine we_blt (b_max2 rfl) ⟨gl_l_count_max, u_max c X0 G0⟩ rfl ?_
      refine wa_cons ?_
      refine we_int ?_
      refine wa_cons ?_
      refine we_bin d_sub ?_
      refine we_bin d_mul ?_
      refine we_bin d_fdivW ?_
      refine we_nm nm_l_count_2 (.t (.t .h)) ?_
      refine we_nm nm_l_count_1 (.t .h) ?_
      refine rIIc (cdw (by omega) (by omega)) ?_
      refine we_nm nm_l_count_1 (.t .h) ?_
      refine rIIc (by first | exact Or.inr ⟨by omega, by omega⟩ | exact Or.inl ⟨by omega, by omega⟩) ?_
      refine we_int ?_
      refine rII0 ?_
      refine wa_nil ?_
      refine i2 trivial ?_
      refine ⟨_, (.t (.t .h)), ?_⟩
      exact ⟨_, by first | omega | (split <;> omega), by first | omega | (split <;> omega), rfl, rfl⟩
    · skip
      refine ws_nil ?_
      exact ⟨_, by first | omega | (split <;> omega), by first | omega | (split <;> omega), rfl, rfl⟩
  rintro _ _ ⟨r, hr0, hr3, rfl, rfl⟩
  refine ws_cut (fun Γ' L' => ∃ r : Int, 0 ≤ r ∧ r ≤ 10 ^ 30 ∧ Γ' = [some (.ref a), some (.int n), some (.int r), some (.int r2)] ∧ L' = g (Bag x2 c2 sd)) ?_ ?_
  · skip
    refine ws_if ?_
    refine wt_cmp (d_eqA rm.eqU) ?_
    refine we_nm nm_l_count_3 (.t (.t (.t .h))) ?_
    refine we_int ?_
    first | refine eqA_int ?_ | refine eqA_iL ?_ | refine eqA_str ?_ | refine eqA_bl ?_ | refine eqA_bL ?_ | refine eqA_iT ?_
    refine ⟨_, rfl, ?_⟩
    first | refine tf (fun hif7 => ?_) (fun hif7 => ?_) | refine tfn (fun hif7 => ?_) (fun hif7 => ?_) | refine tb (fun hif7 => ?_) (fun hif7 => ?_)
    · skip
      have hd := Int.ediv_nonneg (a := r) (b := n) (by omega) (by omega)
      have hd2 := Int.ediv_mul_le r (b := n) (by omega)
      have hd3 := Int.mul_nonneg hd (show 0 ≤ n by omega)
      have hd4 := Int.ediv_le_self (a := r) n (by omega)
      refine ws_one ?_
      refine ws_set ns_l_count_2 ?_
      refine we_blt (b_min2 rfl) ⟨gl_l_count_min, u_min c X0 G0⟩ rfl ?_
      refine wa_cons ?_
      refine we_bin d_pow ?_
      refine we_int ?_
      refine we_int ?_
      refine pow_lit (r := 1000000000000000000000000000000) ⟨by decide, by decide, by decide⟩ (by decide) ?_
      refine wa_cons ?_
      refine we_bin d_plus ?_
      refine we_bin d_mul ?_
      refine we_bin d_fdivW ?_
      refine we_nm nm_l_count_2 (.t (.t .h)) ?_
      refine we_nm nm_l_count_1 (.t .h) ?_
      refine rIIc (cdw (by omega) (by omega)) ?_
      refine we_nm nm_l_count_1 (.t .h) ?_
      refine rIIc (by first | exact Or.inr ⟨by omega, by omega⟩ | exact Or.inl ⟨by omega, by omega⟩) ?_
      refine we_int ?_
      first | refine plus_int ?_ | refine plus_iL (by (try simp only [List.length_append, List.length_cons, List.length_nil]); omega) ?_ | refine plus_iT (by omega) ?_ | refine plus_iL1 (by omega) ?_
      refine wa_nil ?_
      refine i2 trivial ?_
      refine ⟨_, (.t (.t .h)), ?_⟩
      exact ⟨_, by first | omega | (split <;> omega), by first | omega | (split <;> omega), rfl, rfl⟩
    · skip
      refine ws_nil ?_
      exact ⟨_, by first | omega | (split <;> omega), by first | omega | (split <;> omega), rfl, rfl⟩
  rintro _ _ ⟨r, hr0, hr3, rfl, rfl⟩
  refine ws_one ?_
  refine ws_ret ?_
  refine we_nm nm_l_count_2 (.t (.t .h)) ?_
  exact hK _ _ _ hr0 hr3
theorem fb_l_count : ∃ fd, FnB P w K mg base 8 (f_l_count.ad K) fd ["_law_bag_here", "_law_size"] (sp_l_count K) ∧ FnG P w K mg base 8 (f_l_count.ad K) (fun ds L Ex Kk => ds.length = 2 ∧ sp_l_count K ds L Ex Kk) ∧ PySem.W.keepIn K (.ref (f_l_count.ad K)) = true := by
  obtain ⟨fd, Fd⟩ := c.dfn 21 (t := f_l_count) rfl
  have B := fn_body (P := P) (w := w) (mg := mg) (base := base) (sp := sp_l_count K) (k := 7) Fd sc_l_count (fun cdv A outer s H E rm ds L Ex Kk hl h => b_l_count c X0 G0 rm h)
  have bN : Binds K fd ["_law_bag_here", "_law_size"] [] := FunD.bindsN Fd fun _ _ _ _ _ _ us hl => match us, hl with | [_, _], _ => rfl
  exact ⟨fd, B, FnB.pos0 B bN, Fd.kp⟩
theorem fg_l_count : FnG P w K mg base 8 (f_l_count.ad K) (fun ds L Ex Kk => ds.length = 2 ∧ sp_l_count K ds L Ex Kk) := by
  obtain ⟨fd, _, z, _⟩ := fb_l_count c X0 G0
  exact z
theorem cl_l_count : Cl P w K mg base 8 "_law_count" (fun ds L Ex Kk => ds.length = 2 ∧ sp_l_count K ds L Ex Kk) := by
  obtain ⟨fd, _, z, kp⟩ := fb_l_count c X0 G0
  exact ⟨⟨_, z, g_l_count c X0 G0, kp⟩, rfl⟩
end
/-! ### _law_answers -/
theorem sc_l_answers : FnScope ["_law_made", "_law_row_here", "_law_bag_here", "_law_turn", "_law_moment", "_law_told", "_law_start", "_law_count_here"] ["_law_made", "_law_row_here", "_law_bag_here"] (defScope s_l_answers) := ⟨rfl, rfl, rfl, by decide +kernel, rfl, by decide +kernel, by decide +kernel⟩
abbrev X_l_answers (P : Program) (w : World) (K : PySem.W.Frag) (mg : Str → Option Value) (base : Heap) (f : Addr) (cdv : Value) (A : Around) (outer : List Env) (s : Shared) (H : Hp) (E : XK) : Cx := cxD P w K mg base ["_law_made", "_law_row_here", "_law_bag_here", "_law_turn", "_law_moment", "_law_told", "_law_start", "_law_count_here"] "_law_answers" (defScope s_l_answers) f cdv A outer s H E
def sp_l_answers (K : PySem.W.Frag) : TSp := fun ds L Ex Kk => ∃ (a : Addr) (x c s : Int) (ns : List Int) (g : OC → Cells), ds = [rd K ns, .lst (ns.map Dt.int), .ref a] ∧ ns ≠ [] ∧ ns.length ≤ 12 ∧ (∀ x ∈ ns, 0 ≤ x ∧ x ≤ 10 ^ 60) ∧ Has L a (Bag x c s) g ∧ ∀ x' c', Kk (.bl true) (g (Bag x' c' s))
section
variable {P : Program} {w : World} {K : PySem.W.Frag} {mg : Str → Option Value} {base : Heap} {f : Addr} {cdv : Value} {A : Around} {outer : List Env} {s : Shared} {H : Hp} {E : XK} {h : Heap}
theorem nm_l_answers_0 : Nm (X_l_answers P w K mg base f cdv A outer s H E) "_law_made" 0 := ⟨rfl, by first | exact .inl rfl | exact .inr (.inl rfl) | exact .inr (.inr rfl), rfl, rfl⟩
theorem nm_l_answers_1 : Nm (X_l_answers P w K mg base f cdv A outer s H E) "_law_row_here" 1 := ⟨rfl, by first | exact .inl rfl | exact .inr (.inl rfl) | exact .inr (.inr rfl), rfl, rfl⟩
theorem nm_l_answers_2 : Nm (X_l_answers P w K mg base f cdv A outer s H E) "_law_bag_here" 2 := ⟨rfl, by first | exact .inl rfl | exact .inr (.inl rfl) | exact .inr (.inr rfl), rfl, rfl⟩
theorem nm_l_answers_4 : Nm (X_l_answers P w K mg base f cdv A outer s H E) "_law_moment" 4 := ⟨rfl, by first | exact .inl rfl | exact .inr (.inl rfl) | exact .inr (.inr rfl), rfl, rfl⟩
theorem nm_l_answers_5 : Nm (X_l_answers P w K mg base f cdv A outer s H E) "_law_told" 5 := ⟨rfl, by first | exact .inl rfl | exact .inr (.inl rfl) | exact .inr (.inr rfl), rfl, rfl⟩
theorem nm_l_answers_6 : Nm (X_l_answers P w K mg base f cdv A outer s H E) "_law_start" 6 := ⟨rfl, by first | exact .inl rfl | exact .inr (.inl rfl) | exact .inr (.inr rfl), rfl, rfl⟩
theorem nm_l_answers_7 : Nm (X_l_answers P w K mg base f cdv A outer s H E) "_law_count_here" 7 := ⟨rfl, by first | exact .inl rfl | exact .inr (.inl rfl) | exact .inr (.inr rfl), rfl, rfl⟩
theorem ns_l_answers_3 : Ns (X_l_answers P w K mg base f cdv A outer s H E) "_law_turn" 3 := ⟨sc_l_answers.nd, rfl, by first | exact .inl rfl | exact .inr rfl, .inl rfl⟩
theorem ns_l_answers_4 : Ns (X_l_answers P w K mg base f cdv A outer s H E) "_law_moment" 4 := ⟨sc_l_answers.nd, rfl, by first | exact .inl rfl | exact .inr rfl, .inl rfl⟩
theorem ns_l_answers_5 : Ns (X_l_answers P w K mg base f cdv A outer s H E) "_law_told" 5 := ⟨sc_l_answers.nd, rfl, by first | exact .inl rfl | exact .inr rfl, .inl rfl⟩
theorem ns_l_answers_6 : Ns (X_l_answers P w K mg base f cdv A outer s H E) "_law_start" 6 := ⟨sc_l_answers.nd, rfl, by first | exact .inl rfl | exact .inr rfl, .inl rfl⟩
theorem ns_l_answers_7 : Ns (X_l_answers P w K mg base f cdv A outer s H E) "_law_count_here" 7 := ⟨sc_l_answers.nd, rfl, by first | exact .inl rfl | exact .inr rfl, .inl rfl⟩
theorem gl_l_answers_l_count : Gl (X_l_answers P w K mg base f cdv A outer s H E) "_law_count" := rfl
theorem gl_l_answers_l_is_number : Gl (X_l_answers P w K mg base f cdv A outer s H E) "_law_is_number" := rfl
theorem gl_l_answers_l_number : Gl (X_l_answers P w K mg base f cdv A outer s H E) "_law_number" := rfl
theorem gl_l_answers_l_sum : Gl (X_l_answers P w K mg base f cdv A outer s H E) "_law_sum" := rfl
theorem gl_l_answers_int : Gl (X_l_answers P w K mg base f cdv A outer s H E) "int" := rfl
theorem gl_l_answers_len : Gl (X_l_answers P w K mg base f cdv A outer s H E) "len" := rfl
theorem gl_l_answers_range : Gl (X_l_answers P w K mg base f cdv A outer s H E) "range" := rfl
end
section
variable {P : Program} {w : World} {K : PySem.W.Frag} {mg : Str → Option Value} {base : Heap} {f : Addr} {cdv : Value} {A : Around} {outer : List Env} {s : Shared} {H : Hp} {E : XK} {h : Heap} (c : SaysM fa fn K) (X0 : K.In h) (G0 : h.Ns mainGlobals mg)
include c X0 G0
theorem b_l_answers (rm : Rm 8 (X_l_answers P w K mg base f cdv A outer s H E).A) {ds : List Dt} {L : Cells} {Ex : XD} {Kk : KD} (h : sp_l_answers K ds L Ex Kk) : WSs (X_l_answers P w K mg base f cdv A outer s H E) (defBody s_l_answers) (gIn ["_law_made", "_law_row_here", "_law_bag_here", "_law_turn", "_law_moment", "_law_told", "_law_start", "_law_count_here"] ds) L Ex { nx := fun _ L' => Kk .non L', rt := Kk } := by
  obtain ⟨a, x, c0, sd, ns, g, rfl, hne, h12, hx, hh, hK⟩ := h
  have hp := len_pos hne
  change WSs _ _ [some _, some _, some _, none, none, none, none, none] _ _ _
  refine ws_cons ?_
  refine ws_for rfl passOwn ?_
  refine wi_range1 ⟨gl_l_answers_range, u_range c X0 G0⟩ ?_
  refine wa_cons ?_
  refine we_int ?_
  refine wa_nil ?_
  refine ⟨_, rfl, ⟨by first | omega | (split <;> omega) | (split <;> split <;> omega), by first | omega | (split <;> omega) | (split <;> split <;> omega)⟩, ?_⟩
  refine ⟨fun i Γ1 L1 => ∃ (x' c' : Int) (o3 o4 o5 o6 o7 : Option Dt), Γ1 = [some (rd _ ns), some (.lst (ns.map Dt.int)), some (.ref a), o3, o4, o5, o6, o7] ∧ L1 = g (Bag x' c' sd), ⟨x, c0, _, _, _, _, _, rfl, hh.self⟩, ?_, ?_⟩
  · skip
    rintro i d Γ1 L1 hd ⟨x', c', o3, o4, o5, o6, o7, rfl, rfl⟩
    obtain ⟨hi, rfl⟩ := rngD_at hd
    refine wg_name ns_l_answers_3 (.t (.t (.t .h))) ?_
    refine ws_cons ?_
    refine ws_set ns_l_answers_4 ?_
    refine we_call (cl_l_number c X0 G0) rm (by decide) gl_l_answers_l_number ?_
    refine wa_cons ?_
    refine we_nm nm_l_answers_2 (.t (.t .h)) ?_
    refine wa_cons ?_
    refine we_bin d_pow ?_
    refine we_int ?_
    refine we_int ?_
    refine pow_lit (r := 1000000000000000000000000000000) ⟨by decide, by decide, by decide⟩ (by decide) ?_
    refine wa_nil ?_
    refine ⟨rfl, ?_⟩
    refine ⟨_, _, _, _, _, _, rfl, by omega, by omega, (by first | assumption | exact Has.upd (by assumption) | exact .h | exact .t (by assumption) | exact .t (Has.upd (by assumption)) | exact .t .h | exact .t (.t .h)), fun r1 x1 c1 hr1 hs1 => ?_⟩
    have hj := Int.emod_nonneg r1 (Int.ne_of_gt hp)
    have hj2 := Int.emod_lt_of_pos r1 hp
    refine ⟨_, (.t (.t (.t (.t .h)))), ?_⟩
    refine ws_cons ?_
    refine ws_set ns_l_answers_5 ?_
    refine we_meth (mt_Round_at c X0 G0) rm (by decide) ?_
    refine we_nm nm_l_answers_0 .h ?_
    refine ⟨rd_notin (by decide), ?_⟩
    refine wa_cons ?_
    refine we_nm nm_l_answers_4 (.t (.t (.t (.t .h)))) ?_
    refine wa_nil ?_
    refine ⟨rfl, ?_⟩
    refine ⟨_, _, rfl, hne, hr1, ?_⟩
    refine ⟨_, (.t (.t (.t (.t (.t .h))))), ?_⟩
    refine ws_cons ?_
    refine ws_if ?_
    refine wt_of ?_
    refine ww_or ?_
    refine wt_not ?_
    refine wt_val ?_
    refine we_call (cl_l_is_number c X0 G0) rm (by decide) gl_l_answers_l_is_number ?_
    refine wa_cons ?_
    refine we_nm nm_l_answers_5 (.t (.t (.t (.t (.t .h))))) ?_
    refine wa_nil ?_
    refine ⟨rfl, ?_⟩
    refine ⟨_, rfl, ?_⟩
    refine ⟨_, rfl, ?_⟩
    refine t_f rfl ?_
    refine ww_or1 ?_
    refine wt_cmp (d_neA rm.eqU) ?_
    refine we_nm nm_l_answers_5 (.t (.t (.t (.t (.t .h))))) ?_
    refine we_ix ix_d ?_
    refine we_nm nm_l_answers_1 (.t .h) ?_
    refine we_bin d_mod ?_
    refine we_bty (b_int) ⟨gl_l_answers_int, u_int c X0 G0⟩ rfl ?_
    refine wa_cons ?_
    refine we_nm nm_l_answers_4 (.t (.t (.t (.t .h)))) ?_
    refine wa_nil ?_
    first | refine int_int ?_ | refine int_bl ?_
    refine we_blt (b_len) ⟨gl_l_answers_len, u_len c X0 G0⟩ rfl ?_
    refine wa_cons ?_
    refine we_nm nm_l_answers_1 (.t .h) ?_
    refine wa_nil ?_
    first | refine len_iL ?_ | refine len_iT ?_ | refine len_iR ?_ | refine len_iO (by first | assumption | exact Has.upd (by assumption) | exact .h | exact .t (by assumption) | exact .t (Has.upd (by assumption)) | exact .t .h | exact .t (.t .h)) ?_ | refine len_lst ?_ | refine len_tup ?_
    refine rIIc (by omega) ?_
    first | refine ixd_own (by first | assumption | exact Has.upd (by assumption) | exact .h | exact .t (by assumption) | exact .t (Has.upd (by assumption)) | exact .t .h | exact .t (.t .h)) rfl ?_ | refine ixd_lst rfl ?_ | refine ixd_tup rfl ?_ | refine ix_iL (by omega) (by omega) ?_ | refine ix_iT (by omega) (by omega) ?_ | refine ix_iR (by omega) (by omega) ?_ | refine ix_iO (by first | assumption | exact Has.upd (by assumption) | exact .h | exact .t (by assumption) | exact .t (Has.upd (by assumption)) | exact .t .h | exact .t (.t .h)) (by omega) (by omega) ?_ | refine ix_iLn (by omega) (by omega) ?_
    first | refine neA_int ?_ | refine neA_iL ?_ | refine neA_str ?_ | refine neA_bl ?_ | refine neA_bL ?_ | refine neA_iT ?_
    refine ⟨_, rfl, ?_⟩
    refine t_nn (by rfl) ?_
    refine ws_nil ?_
    refine ws_cons ?_
    refine ws_set ns_l_answers_6 ?_
    refine we_call (cl_l_number c X0 G0) rm (by decide) gl_l_answers_l_number ?_
    refine wa_cons ?_
    refine we_nm nm_l_answers_2 (.t (.t .h)) ?_
    refine wa_cons ?_
    refine we_bin d_pow ?_
    refine we_int ?_
    refine we_int ?_
    refine pow_lit (r := 1000000000000000000000000000000) ⟨by decide, by decide, by decide⟩ (by decide) ?_
    refine wa_nil ?_
    refine ⟨rfl, ?_⟩
    refine ⟨_, _, _, _, _, _, rfl, by omega, by omega, (by first | assumption | exact Has.upd (by assumption) | exact .h | exact .t (by assumption) | exact .t (Has.upd (by assumption)) | exact .t .h | exact .t (.t .h)), fun r2 x2 c2 hr2 hs2 => ?_⟩
    have hk := Int.emod_nonneg r2 (Int.ne_of_gt hp)
    have hk2 := Int.emod_lt_of_pos r2 hp
    refine ⟨_, (.t (.t (.t (.t (.t (.t .h)))))), ?_⟩
    refine ws_cons ?_
    refine ws_set ns_l_answers_7 ?_
    refine we_call (cl_l_count c X0 G0) rm (by decide) gl_l_answers_l_count ?_
    refine wa_cons ?_
    refine we_nm nm_l_answers_2 (.t (.t .h)) ?_
    refine wa_cons ?_
    refine we_blt (b_len) ⟨gl_l_answers_len, u_len c X0 G0⟩ rfl ?_
    refine wa_cons ?_
    refine we_nm nm_l_answers_1 (.t .h) ?_
    refine wa_nil ?_
    first | refine len_iL ?_ | refine len_iT ?_ | refine len_iR ?_ | refine len_iO (by first | assumption | exact Has.upd (by assumption) | exact .h | exact .t (by assumption) | exact .t (Has.upd (by assumption)) | exact .t .h | exact .t (.t .h)) ?_ | refine len_lst ?_ | refine len_tup ?_
    refine wa_nil ?_
    refine ⟨rfl, ?_⟩
    refine ⟨_, _, _, _, _, _, rfl, by omega, by omega, (by first | assumption | exact Has.upd (by assumption) | exact .h | exact .t (by assumption) | exact .t (Has.upd (by assumption)) | exact .t .h | exact .t (.t .h)), fun r3 x3 c3 hr3 hs3 => ?_⟩
    refine ⟨_, (.t (.t (.t (.t (.t (.t (.t .h))))))), ?_⟩
    refine ws_cons ?_
    refine ws_set ns_l_answers_5 ?_
    refine we_meth (mt_Round_total c X0 G0) rm (by decide) ?_
    refine we_nm nm_l_answers_0 .h ?_
    refine ⟨rd_notin (by decide), ?_⟩
    refine wa_cons ?_
    refine we_nm nm_l_answers_6 (.t (.t (.t (.t (.t (.t .h)))))) ?_
    refine wa_cons ?_
    refine we_nm nm_l_answers_7 (.t (.t (.t (.t (.t (.t (.t .h))))))) ?_
    refine wa_nil ?_
    refine ⟨rfl, ?_⟩
    refine ⟨_, _, _, rfl, hne, h12, hx, hr2, hr3, by omega, ?_⟩
    refine ⟨_, (.t (.t (.t (.t (.t .h))))), ?_⟩
    refine ws_cons ?_
    refine ws_if ?_
    refine wt_of ?_
    refine ww_or ?_
    refine wt_not ?_
    refine wt_val ?_
    refine we_call (cl_l_is_number c X0 G0) rm (by decide) gl_l_answers_l_is_number ?_
    refine wa_cons ?_
    refine we_nm nm_l_answers_5 (.t (.t (.t (.t (.t .h))))) ?_
    refine wa_nil ?_
    refine ⟨rfl, ?_⟩
    refine ⟨_, rfl, ?_⟩
    refine ⟨_, rfl, ?_⟩
    refine t_f rfl ?_
    refine ww_or1 ?_
    refine wt_cmp (d_neA rm.eqU) ?_
    refine we_nm nm_l_answers_5 (.t (.t (.t (.t (.t .h))))) ?_
    refine we_call (cl_l_sum c X0 G0) rm (by decide) gl_l_answers_l_sum ?_
    refine wa_cons ?_
    refine we_nm nm_l_answers_1 (.t .h) ?_
    refine wa_cons ?_
    refine we_nm nm_l_answers_6 (.t (.t (.t (.t (.t (.t .h)))))) ?_
    refine wa_cons ?_
    refine we_nm nm_l_answers_7 (.t (.t (.t (.t (.t (.t (.t .h))))))) ?_
    refine wa_nil ?_
    refine ⟨rfl, ?_⟩
    refine ⟨_, _, _, rfl, hne, h12, hx, hr2, hr3, by omega, ?_⟩
    first | refine neA_int ?_ | refine neA_iL ?_ | refine neA_str ?_ | refine neA_bl ?_ | refine neA_bL ?_ | refine neA_iT ?_
    refine ⟨_, rfl, ?_⟩
    refine t_nn (by rfl) ?_
    refine ws_nil ?_
    refine ws_one ?_
    refine ws_if ?_
    refine wt_of ?_
    refine ww_or ?_
    refine wt_cmp (d_neA rm.eqU) ?_
    refine we_meth (mt_Round_total c X0 G0) rm (by decide) ?_
    refine we_nm nm_l_answers_0 .h ?_
    refine ⟨rd_notin (by decide), ?_⟩
    refine wa_cons ?_
    refine we_nm nm_l_answers_6 (.t (.t (.t (.t (.t (.t .h)))))) ?_
    refine wa_cons ?_
    refine we_int ?_
    refine wa_nil ?_
    refine ⟨rfl, ?_⟩
    refine ⟨_, _, _, rfl, hne, h12, hx, hr2, by omega, by omega, ?_⟩
    refine we_int ?_
    first | refine neA_int ?_ | refine neA_iL ?_ | refine neA_str ?_ | refine neA_bl ?_ | refine neA_bL ?_ | refine neA_iT ?_
    refine ⟨_, rfl, ?_⟩
    refine t_nn (win_0 hne hr2) ?_
    refine ww_or1 ?_
    refine wt_cmp (d_neA rm.eqU) ?_
    refine we_meth (mt_Round_total c X0 G0) rm (by decide) ?_
    refine we_nm nm_l_answers_0 .h ?_
    refine ⟨rd_notin (by decide), ?_⟩
    refine wa_cons ?_
    refine we_nm nm_l_answers_6 (.t (.t (.t (.t (.t (.t .h)))))) ?_
    refine wa_cons ?_
    refine we_int ?_
    refine wa_nil ?_
    refine ⟨rfl, ?_⟩
    refine ⟨_, _, _, rfl, hne, h12, hx, hr2, by omega, by omega, ?_⟩
    refine we_ix ix_d ?_
    refine we_nm nm_l_answers_1 (.t .h) ?_
    refine we_bin d_mod ?_
    refine we_bty (b_int) ⟨gl_l_answers_int, u_int c X0 G0⟩ rfl ?_
    refine wa_cons ?_
    refine we_nm nm_l_answers_6 (.t (.t (.t (.t (.t (.t .h)))))) ?_
    refine wa_nil ?_
    first | refine int_int ?_ | refine int_bl ?_
    refine we_blt (b_len) ⟨gl_l_answers_len, u_len c X0 G0⟩ rfl ?_
    refine wa_cons ?_
    refine we_nm nm_l_answers_1 (.t .h) ?_
    refine wa_nil ?_
    first | refine len_iL ?_ | refine len_iT ?_ | refine len_iR ?_ | refine len_iO (by first | assumption | exact Has.upd (by assumption) | exact .h | exact .t (by assumption) | exact .t (Has.upd (by assumption)) | exact .t .h | exact .t (.t .h)) ?_ | refine len_lst ?_ | refine len_tup ?_
    refine rIIc (by omega) ?_
    first | refine ixd_own (by first | assumption | exact Has.upd (by assumption) | exact .h | exact .t (by assumption) | exact .t (Has.upd (by assumption)) | exact .t .h | exact .t (.t .h)) rfl ?_ | refine ixd_lst rfl ?_ | refine ixd_tup rfl ?_ | refine ix_iL (by omega) (by omega) ?_ | refine ix_iT (by omega) (by omega) ?_ | refine ix_iR (by omega) (by omega) ?_ | refine ix_iO (by first | assumption | exact Has.upd (by assumption) | exact .h | exact .t (by assumption) | exact .t (Has.upd (by assumption)) | exact .t .h | exact .t (.t .h)) (by omega) (by omega) ?_ | refine ix_iLn (by omega) (by omega) ?_
    first | refine neA_int ?_ | refine neA_iL ?_ | refine neA_str ?_ | refine neA_bl ?_ | refine neA_bL ?_ | refine neA_iT ?_
    refine ⟨_, rfl, ?_⟩
    refine t_nn (win_1 hne hr2) ?_
    refine ws_nil ?_
    exact ⟨_, _, _, _, _, _, _, rfl, rfl⟩
  rintro Γ1 L1 ⟨x', c', o3, o4, o5, o6, o7, rfl, rfl⟩
  refine ws_one ?_
  refine ws_ret ?_
  refine we_bl ?_
  exact hK _ _
theorem fb_l_answers : ∃ fd, FnB P w K mg base 9 (f_l_answers.ad K) fd ["_law_made", "_law_row_here", "_law_bag_here"] (sp_l_answers K) ∧ FnG P w K mg base 9 (f_l_answers.ad K) (fun ds L Ex Kk => ds.length = 3 ∧ sp_l_answers K ds L Ex Kk) ∧ PySem.W.keepIn K (.ref (f_l_answers.ad K)) = true := by
  obtain ⟨fd, Fd⟩ := c.dfn 22 (t := f_l_answers) rfl
  have B := fn_body (P := P) (w := w) (mg := mg) (base := base) (sp := sp_l_answers K) (k := 8) Fd sc_l_answers (fun cdv A outer s H E rm ds L Ex Kk hl h => b_l_answers c X0 G0 rm h)
  have bN : Binds K fd ["_law_made", "_law_row_here", "_law_bag_here"] [] := FunD.bindsN Fd fun _ _ _ _ _ _ us hl => match us, hl with | [_, _, _], _ => rfl
  exact ⟨fd, B, FnB.pos0 B bN, Fd.kp⟩
theorem fg_l_answers : FnG P w K mg base 9 (f_l_answers.ad K) (fun ds L Ex Kk => ds.length = 3 ∧ sp_l_answers K ds L Ex Kk) := by
  obtain ⟨fd, _, z, _⟩ := fb_l_answers c X0 G0
  exact z
theorem cl_l_answers : Cl P w K mg base 9 "_law_answers" (fun ds L Ex Kk => ds.length = 3 ∧ sp_l_answers K ds L Ex Kk) := by
  obtain ⟨fd, _, z, kp⟩ := fb_l_answers c X0 G0
  exact ⟨⟨_, z, g_l_answers c X0 G0, kp⟩, rfl⟩
end
/-! ### _law_shifts -/
theorem sc_l_shifts : FnScope ["_law_made", "_law_row_here", "_law_bag_here", "_law_phase", "_law_moved_here", "_law_due"] ["_law_made", "_law_row_here", "_law_bag_here"] (defScope s_l_shifts) := ⟨rfl, rfl, rfl, by decide +kernel, rfl, by decide +kernel, by decide +kernel⟩
abbrev X_l_shifts (P : Program) (w : World) (K : PySem.W.Frag) (mg : Str → Option Value) (base : Heap) (f : Addr) (cdv : Value) (A : Around) (outer : List Env) (s : Shared) (H : Hp) (E : XK) : Cx := cxD P w K mg base ["_law_made", "_law_row_here", "_law_bag_here", "_law_phase", "_law_moved_here", "_law_due"] "_law_shifts" (defScope s_l_shifts) f cdv A outer s H E
def sp_l_shifts (K : PySem.W.Frag) : TSp := fun ds L Ex Kk => ∃ (a : Addr) (x c s : Int) (ns : List Int) (g : OC → Cells), ds = [rd K ns, .lst (ns.map Dt.int), .ref a] ∧ ns ≠ [] ∧ ns.length ≤ 12 ∧ (∀ x ∈ ns, 0 ≤ x ∧ x ≤ 10 ^ 60) ∧ Has L a (Bag x c s) g ∧ ∀ x' c', Kk (.bl true) (g (Bag x' c' s))
section
variable {P : Program} {w : World} {K : PySem.W.Frag} {mg : Str → Option Value} {base : Heap} {f : Addr} {cdv : Value} {A : Around} {outer : List Env} {s : Shared} {H : Hp} {E : XK} {h : Heap}
theorem nm_l_shifts_0 : Nm (X_l_shifts P w K mg base f cdv A outer s H E) "_law_made" 0 := ⟨rfl, by first | exact .inl rfl | exact .inr (.inl rfl) | exact .inr (.inr rfl), rfl, rfl⟩
theorem nm_l_shifts_1 : Nm (X_l_shifts P w K mg base f cdv A outer s H E) "_law_row_here" 1 := ⟨rfl, by first | exact .inl rfl | exact .inr (.inl rfl) | exact .inr (.inr rfl), rfl, rfl⟩
theorem nm_l_shifts_2 : Nm (X_l_shifts P w K mg base f cdv A outer s H E) "_law_bag_here" 2 := ⟨rfl, by first | exact .inl rfl | exact .inr (.inl rfl) | exact .inr (.inr rfl), rfl, rfl⟩
theorem nm_l_shifts_3 : Nm (X_l_shifts P w K mg base f cdv A outer s H E) "_law_phase" 3 := ⟨rfl, by first | exact .inl rfl | exact .inr (.inl rfl) | exact .inr (.inr rfl), rfl, rfl⟩
theorem nm_l_shifts_4 : Nm (X_l_shifts P w K mg base f cdv A outer s H E) "_law_moved_here" 4 := ⟨rfl, by first | exact .inl rfl | exact .inr (.inl rfl) | exact .inr (.inr rfl), rfl, rfl⟩
theorem nm_l_shifts_5 : Nm (X_l_shifts P w K mg base f cdv A outer s H E) "_law_due" 5 := ⟨rfl, by first | exact .inl rfl | exact .inr (.inl rfl) | exact .inr (.inr rfl), rfl, rfl⟩
theorem ns_l_shifts_3 : Ns (X_l_shifts P w K mg base f cdv A outer s H E) "_law_phase" 3 := ⟨sc_l_shifts.nd, rfl, by first | exact .inl rfl | exact .inr rfl, .inl rfl⟩
theorem ns_l_shifts_4 : Ns (X_l_shifts P w K mg base f cdv A outer s H E) "_law_moved_here" 4 := ⟨sc_l_shifts.nd, rfl, by first | exact .inl rfl | exact .inr rfl, .inl rfl⟩
theorem ns_l_shifts_5 : Ns (X_l_shifts P w K mg base f cdv A outer s H E) "_law_due" 5 := ⟨sc_l_shifts.nd, rfl, by first | exact .inl rfl | exact .inr rfl, .inl rfl⟩
theorem gl_l_shifts_l_answers : Gl (X_l_shifts P w K mg base f cdv A outer s H E) "_law_answers" := rfl
theorem gl_l_shifts_l_has : Gl (X_l_shifts P w K mg base f cdv A outer s H E) "_law_has" := rfl
theorem gl_l_shifts_l_moved : Gl (X_l_shifts P w K mg base f cdv A outer s H E) "_law_moved" := rfl
theorem gl_l_shifts_l_number : Gl (X_l_shifts P w K mg base f cdv A outer s H E) "_law_number" := rfl
theorem gl_l_shifts_int : Gl (X_l_shifts P w K mg base f cdv A outer s H E) "int" := rfl
theorem gl_l_shifts_len : Gl (X_l_shifts P w K mg base f cdv A outer s H E) "len" := rfl
end
section
variable {P : Program} {w : World} {K : PySem.W.Frag} {mg : Str → Option Value} {base : Heap} {f : Addr} {cdv : Value} {A : Around} {outer : List Env} {s : Shared} {H : Hp} {E : XK} {h : Heap} (c : SaysM fa fn K) (X0 : K.In h) (G0 : h.Ns mainGlobals mg)
include c X0 G0
theorem b_l_shifts (rm : Rm 9 (X_l_shifts P w K mg base f cdv A outer s H E).A) {ds : List Dt} {L : Cells} {Ex : XD} {Kk : KD} (h : sp_l_shifts K ds L Ex Kk) : WSs (X_l_shifts P w K mg base f cdv A outer s H E) (defBody s_l_shifts) (gIn ["_law_made", "_law_row_here", "_law_bag_here", "_law_phase", "_law_moved_here", "_law_due"] ds) L Ex { nx := fun _ L' => Kk .non L', rt := Kk } := by
  obtain ⟨a, x, c0, sd, ns, g, rfl, hne, h12, hx, hh, hK⟩ := h
  have hp := len_pos hne
  change WSs _ _ [some _, some _, some _, none, none, none] _ _ _
  refine ws_cons ?_
  refine ws_set ns_l_shifts_3 ?_
  refine we_call (cl_l_number c X0 G0) rm (by decide) gl_l_shifts_l_number ?_
  refine wa_cons ?_
  refine we_nm nm_l_shifts_2 (.t (.t .h)) ?_
  refine wa_cons ?_
  refine we_bin d_pow ?_
  refine we_int ?_
  refine we_int ?_
  refine pow_lit (r := 1000000000000000000000000000000) ⟨by decide, by decide, by decide⟩ (by decide) ?_
  refine wa_nil ?_
  refine ⟨rfl, ?_⟩
  refine ⟨_, _, _, _, _, _, rfl, by omega, by omega, (by first | assumption | exact Has.upd (by assumption) | exact .h | exact .t (by assumption) | exact .t (Has.upd (by assumption)) | exact .t .h | exact .t (.t .h)), fun r1 x1 c1 hr1 hs1 => ?_⟩
  have hj := Int.emod_nonneg r1 (Int.ne_of_gt hp)
  have hj2 := Int.emod_lt_of_pos r1 hp
  have hrl : (rot ns r1).length = ns.length := rot_len hne
  have hrn : rot ns r1 ≠ [] := fun e => by rw [e] at hrl; exact hne (List.length_eq_zero_iff.mp hrl.symm)
  refine ⟨_, (.t (.t (.t .h))), ?_⟩
  refine ws_cons ?_
  refine ws_set ns_l_shifts_4 ?_
  refine we_meth (mt_Round_shifted c X0 G0) rm (by decide) ?_
  refine we_nm nm_l_shifts_0 .h ?_
  refine ⟨rd_notin (by decide), ?_⟩
  refine wa_cons ?_
  refine we_nm nm_l_shifts_3 (.t (.t (.t .h))) ?_
  refine wa_nil ?_
  refine ⟨rfl, ?_⟩
  refine ⟨_, _, rfl, hne, h12, fun y hy => (hx y hy).1, hr1, ?_⟩
  refine ⟨_, (.t (.t (.t (.t .h)))), ?_⟩
  refine ws_cons ?_
  refine ws_set ns_l_shifts_5 ?_
  refine we_call (cl_l_moved c X0 G0) rm (by decide) gl_l_shifts_l_moved ?_
  refine wa_cons ?_
  refine we_nm nm_l_shifts_1 (.t .h) ?_
  refine wa_cons ?_
  refine we_nm nm_l_shifts_3 (.t (.t (.t .h))) ?_
  refine wa_nil ?_
  refine ⟨rfl, ?_⟩
  refine ⟨_, _, rfl, hne, by omega, hr1, ?_⟩
  refine ⟨_, (.t (.t (.t (.t (.t .h))))), ?_⟩
  refine ws_cons ?_
  refine ws_if ?_
  refine wt_of ?_
  refine ww_or ?_
  refine wt_not ?_
  refine wt_val ?_
  refine we_call (cl_l_has c X0 G0) rm (by decide) gl_l_shifts_l_has ?_
  refine wa_cons ?_
  refine we_nm nm_l_shifts_4 (.t (.t (.t (.t .h)))) ?_
  refine wa_cons ?_
  refine we_nm nm_l_shifts_5 (.t (.t (.t (.t (.t .h))))) ?_
  refine wa_nil ?_
  refine ⟨rfl, ?_⟩
  refine ⟨_, _, rfl, by omega, ?_⟩
  refine ⟨_, rfl, ?_⟩
  refine t_f (by simp) ?_
  refine ww_or1 ?_
  refine wt_not ?_
  refine wt_val ?_
  refine we_call (cl_l_answers c X0 G0) rm (by decide) gl_l_shifts_l_answers ?_
  refine wa_cons ?_
  refine we_nm nm_l_shifts_4 (.t (.t (.t (.t .h)))) ?_
  refine wa_cons ?_
  refine we_nm nm_l_shifts_5 (.t (.t (.t (.t (.t .h))))) ?_
  refine wa_cons ?_
  refine we_nm nm_l_shifts_2 (.t (.t .h)) ?_
  refine wa_nil ?_
  refine ⟨rfl, ?_⟩
  refine ⟨_, _, _, _, _, _, rfl, hrn, by omega, fun y hy => hx y (rot_mem hy), (by first | assumption | exact Has.upd (by assumption) | exact .h | exact .t (by assumption) | exact .t (Has.upd (by assumption)) | exact .t .h | exact .t (.t .h)), fun x2 c2 => ?_⟩
  refine ⟨_, rfl, ?_⟩
  refine t_f rfl ?_
  refine ws_nil ?_
  refine ws_one ?_
  refine ws_ret ?_
  refine we_and ?_
  refine we_call (cl_l_has c X0 G0) rm (by decide) gl_l_shifts_l_has ?_
  refine wa_cons ?_
  refine we_meth (mt_Round_shifted c X0 G0) rm (by decide) ?_
  refine we_nm nm_l_shifts_4 (.t (.t (.t (.t .h)))) ?_
  refine ⟨rd_notin (by decide), ?_⟩
  refine wa_cons ?_
  refine we_bin d_sub ?_
  refine we_blt (b_len) ⟨gl_l_shifts_len, u_len c X0 G0⟩ rfl ?_
  refine wa_cons ?_
  refine we_nm nm_l_shifts_1 (.t .h) ?_
  refine wa_nil ?_
  first | refine len_iL ?_ | refine len_iT ?_ | refine len_iR ?_ | refine len_iO (by first | assumption | exact Has.upd (by assumption) | exact .h | exact .t (by assumption) | exact .t (Has.upd (by assumption)) | exact .t .h | exact .t (.t .h)) ?_ | refine len_lst ?_ | refine len_tup ?_
  refine we_bin d_mod ?_
  refine we_bty (b_int) ⟨gl_l_shifts_int, u_int c X0 G0⟩ rfl ?_
  refine wa_cons ?_
  refine we_nm nm_l_shifts_3 (.t (.t (.t .h))) ?_
  refine wa_nil ?_
  first | refine int_int ?_ | refine int_bl ?_
  refine we_blt (b_len) ⟨gl_l_shifts_len, u_len c X0 G0⟩ rfl ?_
  refine wa_cons ?_
  refine we_nm nm_l_shifts_1 (.t .h) ?_
  refine wa_nil ?_
  first | refine len_iL ?_ | refine len_iT ?_ | refine len_iR ?_ | refine len_iO (by first | assumption | exact Has.upd (by assumption) | exact .h | exact .t (by assumption) | exact .t (Has.upd (by assumption)) | exact .t .h | exact .t (.t .h)) ?_ | refine len_lst ?_ | refine len_tup ?_
  refine rIIc (by omega) ?_
  refine rII0 ?_
  refine wa_nil ?_
  refine ⟨rfl, ?_⟩
  refine ⟨_, _, rfl, hrn, by omega, fun y hy => (hx y (rot_mem hy)).1, by omega, ?_⟩
  refine wa_cons ?_
  refine we_nm nm_l_shifts_1 (.t .h) ?_
  refine wa_nil ?_
  refine ⟨rfl, ?_⟩
  refine ⟨_, _, rfl, by rw [rot_len hrn]; omega, ?_⟩
  refine ⟨_, rfl, ?_⟩
  refine t_y (rot_back hne hr1) ?_
  refine we_one ?_
  refine we_call (cl_l_has c X0 G0) rm (by decide) gl_l_shifts_l_has ?_
  refine wa_cons ?_
  refine we_nm nm_l_shifts_0 .h ?_
  refine wa_cons ?_
  refine we_nm nm_l_shifts_1 (.t .h) ?_
  refine wa_nil ?_
  refine ⟨rfl, ?_⟩
  refine ⟨_, _, rfl, by omega, ?_⟩
  rw [decide_eq_true rfl]
  exact hK _ _
theorem fb_l_shifts : ∃ fd, FnB P w K mg base 10 (f_l_shifts.ad K) fd ["_law_made", "_law_row_here", "_law_bag_here"] (sp_l_shifts K) ∧ FnG P w K mg base 10 (f_l_shifts.ad K) (fun ds L Ex Kk => ds.length = 3 ∧ sp_l_shifts K ds L Ex Kk) ∧ PySem.W.keepIn K (.ref (f_l_shifts.ad K)) = true := by
  obtain ⟨fd, Fd⟩ := c.dfn 23 (t := f_l_shifts) rfl
  have B := fn_body (P := P) (w := w) (mg := mg) (base := base) (sp := sp_l_shifts K) (k := 9) Fd sc_l_shifts (fun cdv A outer s H E rm ds L Ex Kk hl h => b_l_shifts c X0 G0 rm h)
  have bN : Binds K fd ["_law_made", "_law_row_here", "_law_bag_here"] [] := FunD.bindsN Fd fun _ _ _ _ _ _ us hl => match us, hl with | [_, _, _], _ => rfl
  exact ⟨fd, B, FnB.pos0 B bN, Fd.kp⟩
theorem fg_l_shifts : FnG P w K mg base 10 (f_l_shifts.ad K) (fun ds L Ex Kk => ds.length = 3 ∧ sp_l_shifts K ds L Ex Kk) := by
  obtain ⟨fd, _, z, _⟩ := fb_l_shifts c X0 G0
  exact z
theorem cl_l_shifts : Cl P w K mg base 10 "_law_shifts" (fun ds L Ex Kk => ds.length = 3 ∧ sp_l_shifts K ds L Ex Kk) := by
  obtain ⟨fd, _, z, kp⟩ := fb_l_shifts c X0 G0
  exact ⟨⟨_, z, g_l_shifts c X0 G0, kp⟩, rfl⟩
end
/-! ### _law_near -/
theorem sc_l_near : FnScope ["_law_row_here", "_law_way", "_law_other", "_law_spot", "_law_k"] ["_law_row_here", "_law_way", "_law_other", "_law_spot"] (defScope s_l_near) := ⟨rfl, rfl, rfl, by decide +kernel, rfl, by decide +kernel, by decide +kernel⟩
abbrev X_l_near (P : Program) (w : World) (K : PySem.W.Frag) (mg : Str → Option Value) (base : Heap) (f : Addr) (cdv : Value) (A : Around) (outer : List Env) (s : Shared) (H : Hp) (E : XK) : Cx := cxD P w K mg base ["_law_row_here", "_law_way", "_law_other", "_law_spot", "_law_k"] "_law_near" (defScope s_l_near) f cdv A outer s H E
def sp_l_near (K : PySem.W.Frag) : TSp := fun ds L Ex Kk => ∃ (ns ms : List Int) (w s : Int), ds = [.lst (ns.map Dt.int), .int w, .lst (ms.map Dt.int), .int s] ∧ 1 ≤ ns.length ∧ ns.length ≤ 12 ∧ (∀ x ∈ ns, 0 ≤ x) ∧ 1 ≤ ms.length ∧ ms.length ≤ 12 ∧ (∀ x ∈ ms, 0 ≤ x) ∧ 0 ≤ s ∧ s < ns.length ∧ ∀ ks : List Int, 1 ≤ ks.length → ks.length ≤ 12 → (∀ x ∈ ks, 0 ≤ x) → Kk (.lst (ks.map Dt.int)) L
section
variable {P : Program} {w : World} {K : PySem.W.Frag} {mg : Str → Option Value} {base : Heap} {f : Addr} {cdv : Value} {A : Around} {outer : List Env} {s : Shared} {H : Hp} {E : XK} {h : Heap}
theorem nm_l_near_0 : Nm (X_l_near P w K mg base f cdv A outer s H E) "_law_row_here" 0 := ⟨rfl, by first | exact .inl rfl | exact .inr (.inl rfl) | exact .inr (.inr rfl), rfl, rfl⟩
theorem nm_l_near_1 : Nm (X_l_near P w K mg base f cdv A outer s H E) "_law_way" 1 := ⟨rfl, by first | exact .inl rfl | exact .inr (.inl rfl) | exact .inr (.inr rfl), rfl, rfl⟩
theorem nm_l_near_2 : Nm (X_l_near P w K mg base f cdv A outer s H E) "_law_other" 2 := ⟨rfl, by first | exact .inl rfl | exact .inr (.inl rfl) | exact .inr (.inr rfl), rfl, rfl⟩
theorem nm_l_near_3 : Nm (X_l_near P w K mg base f cdv A outer s H E) "_law_spot" 3 := ⟨rfl, by first | exact .inl rfl | exact .inr (.inl rfl) | exact .inr (.inr rfl), rfl, rfl⟩
theorem gl_l_near_l_moved : Gl (X_l_near P w K mg base f cdv A outer s H E) "_law_moved" := rfl
theorem gl_l_near_int : Gl (X_l_near P w K mg base f cdv A outer s H E) "int" := rfl
theorem gl_l_near_len : Gl (X_l_near P w K mg base f cdv A outer s H E) "len" := rfl
theorem gl_l_near_list : Gl (X_l_near P w K mg base f cdv A outer s H E) "list" := rfl
theorem gl_l_near_range : Gl (X_l_near P w K mg base f cdv A outer s H E) "range" := rfl
end
section
variable {P : Program} {w : World} {K : PySem.W.Frag} {mg : Str → Option Value} {base : Heap} {f : Addr} {cdv : Value} {A : Around} {outer : List Env} {s : Shared} {H : Hp} {E : XK} {h : Heap} (c : SaysM fa fn K) (X0 : K.In h) (G0 : h.Ns mainGlobals mg)
include c X0 G0
theorem b_l_near (rm : Rm 6 (X_l_near P w K mg base f cdv A outer s H E).A) {ds : List Dt} {L : Cells} {Ex : XD} {Kk : KD} (h : sp_l_near K ds L Ex Kk) : WSs (X_l_near P w K mg base f cdv A outer s H E) (defBody s_l_near) (gIn ["_law_row_here", "_law_way", "_law_other", "_law_spot", "_law_k"] ds) L Ex { nx := fun _ L' => Kk .non L', rt := Kk } := by
  obtain ⟨ns, ms, wy, sp, rfl, h1, h12, h0, g1, g12, g0, s0, s1, hK⟩ := h
  have hne : ns ≠ [] := fun e => by rw [e] at h1; exact absurd h1 (by decide)
  change WSs _ _ [some _, some _, some _, some _, none] _ _ _
  refine ws_cons ?_
  refine ws_if ?_
  refine wt_cmp (d_eqA rm.eqU) ?_
  refine we_nm nm_l_near_1 (.t .h) ?_
  refine we_int ?_
  first | refine eqA_int ?_ | refine eqA_iL ?_ | refine eqA_str ?_ | refine eqA_bl ?_ | refine eqA_bL ?_ | refine eqA_iT ?_
  refine ⟨_, rfl, ?_⟩
  first | refine tf (fun hif1 => ?_) (fun hif1 => ?_) | refine tfn (fun hif1 => ?_) (fun hif1 => ?_) | refine tb (fun hif1 => ?_) (fun hif1 => ?_)
  · skip
    refine ws_one ?_
    refine ws_ret ?_
    refine we_bty (b_list) ⟨gl_l_near_list, u_list c X0 G0⟩ rfl ?_
    refine wa_cons ?_
    refine we_nm nm_l_near_0 .h ?_
    refine wa_nil ?_
    first | refine list_lst ?_ | refine list_tup ?_ | refine list_l (.inr (.inl rfl)) ?_
    exact hK _ h1 h12 h0
  refine ws_nil ?_
  refine ws_cons ?_
  refine ws_if ?_
  refine wt_cmp (d_eqA rm.eqU) ?_
  refine we_nm nm_l_near_1 (.t .h) ?_
  refine we_int ?_
  first | refine eqA_int ?_ | refine eqA_iL ?_ | refine eqA_str ?_ | refine eqA_bl ?_ | refine eqA_bL ?_ | refine eqA_iT ?_
  refine ⟨_, rfl, ?_⟩
  first | refine tf (fun hif3 => ?_) (fun hif3 => ?_) | refine tfn (fun hif3 => ?_) (fun hif3 => ?_) | refine tb (fun hif3 => ?_) (fun hif3 => ?_)
  · skip
    refine ws_one ?_
    refine ws_ret ?_
    refine we_bin d_plus ?_
    refine we_bin d_plus ?_
    refine we_sl ?_
    refine we_nm nm_l_near_0 .h ?_
    refine wo_none ?_
    refine wo_some ?_
    refine we_nm nm_l_near_3 (.t (.t (.t .h))) ?_
    refine ⟨_, rfl, ?_⟩
    refine sl_iL ?_
    rw [cutI_to s0]
    refine we_lst ?_
    refine wa_cons ?_
    refine we_bin d_sub ?_
    refine we_bin d_plus ?_
    refine we_ix ix_d ?_
    refine we_nm nm_l_near_0 .h ?_
    refine we_nm nm_l_near_3 (.t (.t (.t .h))) ?_
    first | refine ixd_own (by first | assumption | exact Has.upd (by assumption) | exact .h | exact .t (by assumption) | exact .t (Has.upd (by assumption)) | exact .t .h | exact .t (.t .h)) rfl ?_ | refine ixd_lst rfl ?_ | refine ixd_tup rfl ?_ | refine ix_iL (by omega) (by omega) ?_ | refine ix_iT (by omega) (by omega) ?_ | refine ix_iR (by omega) (by omega) ?_ | refine ix_iO (by first | assumption | exact Has.upd (by assumption) | exact .h | exact .t (by assumption) | exact .t (Has.upd (by assumption)) | exact .t .h | exact .t (.t .h)) (by omega) (by omega) ?_ | refine ix_iLn (by omega) (by omega) ?_
    refine we_int ?_
    refine plus_int ?_
    refine we_bin d_mul ?_
    refine we_int ?_
    refine we_bty (b_int) ⟨gl_l_near_int, u_int c X0 G0⟩ rfl ?_
    refine wa_cons ?_
    refine we_cmp d_gt ?_
    refine we_ix ix_d ?_
    refine we_nm nm_l_near_0 .h ?_
    refine we_nm nm_l_near_3 (.t (.t (.t .h))) ?_
    first | refine ixd_own (by first | assumption | exact Has.upd (by assumption) | exact .h | exact .t (by assumption) | exact .t (Has.upd (by assumption)) | exact .t .h | exact .t (.t .h)) rfl ?_ | refine ixd_lst rfl ?_ | refine ixd_tup rfl ?_ | refine ix_iL (by omega) (by omega) ?_ | refine ix_iT (by omega) (by omega) ?_ | refine ix_iR (by omega) (by omega) ?_ | refine ix_iO (by first | assumption | exact Has.upd (by assumption) | exact .h | exact .t (by assumption) | exact .t (Has.upd (by assumption)) | exact .t .h | exact .t (.t .h)) (by omega) (by omega) ?_ | refine ix_iLn (by omega) (by omega) ?_
    refine we_int ?_
    refine rII0 ?_
    refine wa_nil ?_
    first | refine int_int ?_ | refine int_bl ?_
    refine rIIc (by first | exact Or.inr ⟨by omega, by omega⟩ | exact Or.inl ⟨by omega, by omega⟩) ?_
    refine rII0 ?_
    refine wa_nil ?_
    refine ⟨by first | decide | simp, ?_⟩
    refine plus_iL1 (by simp only [List.length_take]; omega) ?_
    refine we_sl ?_
    refine we_nm nm_l_near_0 .h ?_
    refine wo_some ?_
    refine we_bin d_plus ?_
    refine we_nm nm_l_near_3 (.t (.t (.t .h))) ?_
    refine we_int ?_
    refine plus_int ?_
    refine ⟨_, rfl, ?_⟩
    refine wo_none ?_
    refine sl_iL ?_
    rw [cutI_from (by omega)]
    refine plus_iL (by simp only [List.length_take, List.length_append, List.length_drop, List.length_cons, List.length_nil]; omega) ?_
    refine hK _ (by simp only [List.length_take, List.length_append, List.length_drop, List.length_cons, List.length_nil]; omega) (by simp only [List.length_take, List.length_append, List.length_drop, List.length_cons, List.length_nil]; omega) (fun y hy => ?_)
    simp only [List.mem_append, List.mem_singleton] at hy
    rcases hy with (hy | hy) | hy
    · exact h0 y (List.mem_of_mem_take hy)
    · rw [hy]
      exact flip_nn (h0 _ (getD_mem (by omega)))
    · exact h0 y (List.mem_of_mem_drop hy)
  refine ws_nil ?_
  refine ws_cons ?_
  refine ws_if ?_
  refine wt_cmp (d_eqA rm.eqU) ?_
  refine we_nm nm_l_near_1 (.t .h) ?_
  refine we_int ?_
  first | refine eqA_int ?_ | refine eqA_iL ?_ | refine eqA_str ?_ | refine eqA_bl ?_ | refine eqA_bL ?_ | refine eqA_iT ?_
  refine ⟨_, rfl, ?_⟩
  first | refine tf (fun hif5 => ?_) (fun hif5 => ?_) | refine tfn (fun hif5 => ?_) (fun hif5 => ?_) | refine tb (fun hif5 => ?_) (fun hif5 => ?_)
  · skip
    refine ws_one ?_
    refine ws_ret ?_
    refine we_bin d_plus ?_
    refine we_sl ?_
    refine we_nm nm_l_near_0 .h ?_
    refine wo_none ?_
    refine wo_some ?_
    refine we_neg ?_
    refine we_int ?_
    refine ⟨_, rfl, ?_⟩
    refine ⟨_, rfl, ?_⟩
    refine sl_iL ?_
    rw [cutI_most (by omega)]
    refine we_lst ?_
    refine wa_cons ?_
    refine we_bin d_sub ?_
    refine we_bin d_plus ?_
    refine we_ix ix_d ?_
    refine we_nm nm_l_near_0 .h ?_
    refine we_neg ?_
    refine we_int ?_
    refine ⟨_, rfl, ?_⟩
    first | refine ixd_own (by first | assumption | exact Has.upd (by assumption) | exact .h | exact .t (by assumption) | exact .t (Has.upd (by assumption)) | exact .t .h | exact .t (.t .h)) rfl ?_ | refine ixd_lst rfl ?_ | refine ixd_tup rfl ?_ | refine ix_iL (by omega) (by omega) ?_ | refine ix_iT (by omega) (by omega) ?_ | refine ix_iR (by omega) (by omega) ?_ | refine ix_iO (by first | assumption | exact Has.upd (by assumption) | exact .h | exact .t (by assumption) | exact .t (Has.upd (by assumption)) | exact .t .h | exact .t (.t .h)) (by omega) (by omega) ?_ | refine ix_iLn (by omega) (by omega) ?_
    refine we_int ?_
    refine plus_int ?_
    refine we_bin d_mul ?_
    refine we_int ?_
    refine we_bty (b_int) ⟨gl_l_near_int, u_int c X0 G0⟩ rfl ?_
    refine wa_cons ?_
    refine we_cmp d_gt ?_
    refine we_ix ix_d ?_
    refine we_nm nm_l_near_0 .h ?_
    refine we_neg ?_
    refine we_int ?_
    refine ⟨_, rfl, ?_⟩
    first | refine ixd_own (by first | assumption | exact Has.upd (by assumption) | exact .h | exact .t (by assumption) | exact .t (Has.upd (by assumption)) | exact .t .h | exact .t (.t .h)) rfl ?_ | refine ixd_lst rfl ?_ | refine ixd_tup rfl ?_ | refine ix_iL (by omega) (by omega) ?_ | refine ix_iT (by omega) (by omega) ?_ | refine ix_iR (by omega) (by omega) ?_ | refine ix_iO (by first | assumption | exact Has.upd (by assumption) | exact .h | exact .t (by assumption) | exact .t (Has.upd (by assumption)) | exact .t .h | exact .t (.t .h)) (by omega) (by omega) ?_ | refine ix_iLn (by omega) (by omega) ?_
    refine we_int ?_
    refine rII0 ?_
    refine wa_nil ?_
    first | refine int_int ?_ | refine int_bl ?_
    refine rIIc (by first | exact Or.inr ⟨by omega, by omega⟩ | exact Or.inl ⟨by omega, by omega⟩) ?_
    refine rII0 ?_
    refine wa_nil ?_
    refine ⟨by first | decide | simp, ?_⟩
    refine plus_iL1 (by simp only [List.length_take]; omega) ?_
    refine hK _ (by simp only [List.length_take, List.length_append, List.length_cons, List.length_nil]; omega) (by simp only [List.length_take, List.length_append, List.length_cons, List.length_nil]; omega) (fun y hy => ?_)
    simp only [List.mem_append, List.mem_singleton] at hy
    rcases hy with hy | hy
    · exact h0 y (List.mem_of_mem_take hy)
    · rw [hy]
      exact flip_nn (h0 _ (getD_mem (by omega)))
  refine ws_nil ?_
  refine ws_cons ?_
  refine ws_if ?_
  refine wt_of ?_
  apply ww_andP
  · skip
    refine wt_cmp (d_eqA rm.eqU) ?_
    refine we_nm nm_l_near_1 (.t .h) ?_
    refine we_int ?_
    first | refine eqA_int ?_ | refine eqA_iL ?_ | refine eqA_str ?_ | refine eqA_bl ?_ | refine eqA_bL ?_ | refine eqA_iT ?_
    refine ⟨_, rfl, ?_⟩
    exact ⟨rfl, rfl⟩
  · intro hb
    refine ww_and1 ?_
    refine wt_cmp d_lt ?_
    refine we_blt (b_len) ⟨gl_l_near_len, u_len c X0 G0⟩ rfl ?_
    refine wa_cons ?_
    refine we_nm nm_l_near_0 .h ?_
    refine wa_nil ?_
    first | refine len_iL ?_ | refine len_iT ?_ | refine len_iR ?_ | refine len_iO (by first | assumption | exact Has.upd (by assumption) | exact .h | exact .t (by assumption) | exact .t (Has.upd (by assumption)) | exact .t .h | exact .t (.t .h)) ?_ | refine len_lst ?_ | refine len_tup ?_
    refine we_int ?_
    refine rII0 ?_
    refine ⟨_, rfl, ?_⟩
    exact ⟨rfl, rfl⟩
  refine tb (fun h7 => ?_) (fun h7 => ?_)
  · skip
    refine ws_one ?_
    refine ws_ret ?_
    refine we_bin d_plus ?_
    refine we_nm nm_l_near_0 .h ?_
    refine we_lst ?_
    refine wa_cons ?_
    refine we_ix ix_d ?_
    refine we_nm nm_l_near_0 .h ?_
    refine we_int ?_
    first | refine ixd_own (by first | assumption | exact Has.upd (by assumption) | exact .h | exact .t (by assumption) | exact .t (Has.upd (by assumption)) | exact .t .h | exact .t (.t .h)) rfl ?_ | refine ixd_lst rfl ?_ | refine ixd_tup rfl ?_ | refine ix_iL (by omega) (by omega) ?_ | refine ix_iT (by omega) (by omega) ?_ | refine ix_iR (by omega) (by omega) ?_ | refine ix_iO (by first | assumption | exact Has.upd (by assumption) | exact .h | exact .t (by assumption) | exact .t (Has.upd (by assumption)) | exact .t .h | exact .t (.t .h)) (by omega) (by omega) ?_ | refine ix_iLn (by omega) (by omega) ?_
    refine wa_nil ?_
    refine ⟨by first | decide | simp, ?_⟩
    refine plus_iL1 (by omega) ?_
    simp only [Bool.and_eq_true, decide_eq_true_eq] at h7
    refine hK _ (by simp only [List.length_append, List.length_cons, List.length_nil]; omega) (by simp only [List.length_append, List.length_cons, List.length_nil]; omega) (fun y hy => ?_)
    rcases List.mem_append.mp hy with hy | hy
    · exact h0 y hy
    · rw [List.mem_singleton.mp hy]
      exact h0 _ (getD_mem (by omega))
  refine ws_nil ?_
  refine ws_cons ?_
  refine ws_if ?_
  refine wt_of ?_
  apply ww_andP
  · skip
    refine wt_cmp (d_eqA rm.eqU) ?_
    refine we_nm nm_l_near_1 (.t .h) ?_
    refine we_int ?_
    first | refine eqA_int ?_ | refine eqA_iL ?_ | refine eqA_str ?_ | refine eqA_bl ?_ | refine eqA_bL ?_ | refine eqA_iT ?_
    refine ⟨_, rfl, ?_⟩
    exact ⟨rfl, rfl⟩
  · intro hb
    refine ww_and1 ?_
    refine wt_cmp d_gt ?_
    refine we_blt (b_len) ⟨gl_l_near_len, u_len c X0 G0⟩ rfl ?_
    refine wa_cons ?_
    refine we_nm nm_l_near_0 .h ?_
    refine wa_nil ?_
    first | refine len_iL ?_ | refine len_iT ?_ | refine len_iR ?_ | refine len_iO (by first | assumption | exact Has.upd (by assumption) | exact .h | exact .t (by assumption) | exact .t (Has.upd (by assumption)) | exact .t .h | exact .t (.t .h)) ?_ | refine len_lst ?_ | refine len_tup ?_
    refine we_int ?_
    refine rII0 ?_
    refine ⟨_, rfl, ?_⟩
    exact ⟨rfl, rfl⟩
  refine tb (fun h9 => ?_) (fun h9 => ?_)
  · skip
    refine ws_one ?_
    refine ws_ret ?_
    refine we_sl ?_
    refine we_nm nm_l_near_0 .h ?_
    refine wo_none ?_
    refine wo_some ?_
    refine we_neg ?_
    refine we_int ?_
    refine ⟨_, rfl, ?_⟩
    refine ⟨_, rfl, ?_⟩
    refine sl_iL ?_
    rw [cutI_most (by omega)]
    simp only [Bool.and_eq_true, decide_eq_true_eq] at h9
    exact hK _ (by rw [List.length_take]; omega) (by rw [List.length_take]; omega) (fun y hy => h0 y (List.mem_of_mem_take hy))
  refine ws_nil ?_
  refine ws_cons ?_
  refine ws_if ?_
  refine wt_of ?_
  apply ww_andP
  · skip
    refine wt_cmp (d_eqA rm.eqU) ?_
    refine we_nm nm_l_near_1 (.t .h) ?_
    refine we_int ?_
    first | refine eqA_int ?_ | refine eqA_iL ?_ | refine eqA_str ?_ | refine eqA_bl ?_ | refine eqA_bL ?_ | refine eqA_iT ?_
    refine ⟨_, rfl, ?_⟩
    exact ⟨rfl, rfl⟩
  · intro hb
    refine ww_and1 ?_
    refine wt_cmp d_lt ?_
    refine we_blt (b_len) ⟨gl_l_near_len, u_len c X0 G0⟩ rfl ?_
    refine wa_cons ?_
    refine we_nm nm_l_near_0 .h ?_
    refine wa_nil ?_
    first | refine len_iL ?_ | refine len_iT ?_ | refine len_iR ?_ | refine len_iO (by first | assumption | exact Has.upd (by assumption) | exact .h | exact .t (by assumption) | exact .t (Has.upd (by assumption)) | exact .t .h | exact .t (.t .h)) ?_ | refine len_lst ?_ | refine len_tup ?_
    refine we_int ?_
    refine rII0 ?_
    refine ⟨_, rfl, ?_⟩
    exact ⟨rfl, rfl⟩
  refine tb (fun h11 => ?_) (fun h11 => ?_)
  · skip
    refine ws_one ?_
    refine ws_ret ?_
    refine we_bin d_plus ?_
    refine we_nm nm_l_near_0 .h ?_
    refine we_nm nm_l_near_0 .h ?_
    first | refine plus_int ?_ | refine plus_iL (by (try simp only [List.length_append, List.length_cons, List.length_nil]); omega) ?_ | refine plus_iT (by omega) ?_ | refine plus_iL1 (by omega) ?_
    simp only [Bool.and_eq_true, decide_eq_true_eq] at h11
    exact hK _ (by rw [List.length_append]; omega) (by rw [List.length_append]; omega) (fun y hy => (List.mem_append.mp hy).elim (h0 y) (h0 y))
  refine ws_nil ?_
  refine ws_cons ?_
  refine ws_if ?_
  refine wt_cmp (d_eqA rm.eqU) ?_
  refine we_nm nm_l_near_1 (.t .h) ?_
  refine we_int ?_
  first | refine eqA_int ?_ | refine eqA_iL ?_ | refine eqA_str ?_ | refine eqA_bl ?_ | refine eqA_bL ?_ | refine eqA_iT ?_
  refine ⟨_, rfl, ?_⟩
  first | refine tf (fun hif13 => ?_) (fun hif13 => ?_) | refine tfn (fun hif13 => ?_) (fun hif13 => ?_) | refine tb (fun hif13 => ?_) (fun hif13 => ?_)
  · skip
    refine ws_one ?_
    refine ws_ret ?_
    refine we_lc (own := [("_law_k", 4)]) (j := 4) rfl sc_l_near.nd (blkOk_by (N := ["_law_row_here", "_law_way", "_law_other", "_law_spot", "_law_k"]) (sc := defScope s_l_near) (by decide +kernel)) (by decide) (fun _ _ _ _ _ => ⟨sc_l_near.nd, rfl, by first | exact .inl rfl | exact .inr rfl, by first | exact .inr rfl | exact .inl rfl⟩) ?_
    refine wi_range1 ⟨gl_l_near_range, u_range c X0 G0⟩ ?_
    refine wa_cons ?_
    refine we_blt (b_len) ⟨gl_l_near_len, u_len c X0 G0⟩ rfl ?_
    refine wa_cons ?_
    refine we_nm nm_l_near_0 .h ?_
    refine wa_nil ?_
    first | refine len_iL ?_ | refine len_iT ?_ | refine len_iR ?_ | refine len_iO (by first | assumption | exact Has.upd (by assumption) | exact .h | exact .t (by assumption) | exact .t (Has.upd (by assumption)) | exact .t .h | exact .t (.t .h)) ?_ | refine len_lst ?_ | refine len_tup ?_
    refine wa_nil ?_
    refine ⟨_, rfl, ⟨by first | omega | (split <;> omega) | (split <;> split <;> omega), by first | omega | (split <;> omega) | (split <;> split <;> omega)⟩, ?_⟩
    refine lc_rs (rs := ns.reverse.map Dt.int) (by simp [rngD_len]) (by simp [rngD_len]; omega) (fun i d acc D hd => ?_) ?_
    · skip
      obtain ⟨hi, rfl⟩ := rngD_at hd
      refine ⟨_, .t (.t (.t (.t .h))), ?_⟩
      intro s0 H0 C0 cl0 fp0
      refine we_ix ix_d ?_
      refine we_nm (i := 0) ⟨rfl, by first | exact .inr (.inr rfl) | exact .inl rfl | exact .inr (.inl rfl), rfl, rfl⟩ .h ?_
      refine we_bin d_sub ?_
      refine we_bin d_sub ?_
      refine we_blt (b_len) ⟨(by rfl), u_len c X0 G0⟩ rfl ?_
      refine wa_cons ?_
      refine we_nm (i := 0) ⟨rfl, by first | exact .inr (.inr rfl) | exact .inl rfl | exact .inr (.inl rfl), rfl, rfl⟩ .h ?_
      refine wa_nil ?_
      first | refine len_iL ?_ | refine len_iT ?_ | refine len_iR ?_ | refine len_iO (by first | assumption | exact Has.upd (by assumption) | exact .h | exact .t (by assumption) | exact .t (Has.upd (by assumption)) | exact .t .h | exact .t (.t .h)) ?_ | refine len_lst ?_ | refine len_tup ?_
      refine we_int ?_
      refine rII0 ?_
      refine we_nm (i := 4) ⟨rfl, by first | exact .inr (.inr rfl) | exact .inl rfl | exact .inr (.inl rfl), rfl, rfl⟩ (.t (.t (.t (.t .h)))) ?_
      refine rII0 ?_
      first | refine ixd_own (by first | assumption | exact Has.upd (by assumption) | exact .h | exact .t (by assumption) | exact .t (Has.upd (by assumption)) | exact .t .h | exact .t (.t .h)) rfl ?_ | refine ixd_lst rfl ?_ | refine ixd_tup rfl ?_ | refine ix_iL (by omega) (by omega) ?_ | refine ix_iT (by omega) (by omega) ?_ | refine ix_iR (by omega) (by omega) ?_ | refine ix_iO (by first | assumption | exact Has.upd (by assumption) | exact .h | exact .t (by assumption) | exact .t (Has.upd (by assumption)) | exact .t .h | exact .t (.t .h)) (by omega) (by omega) ?_ | refine ix_iLn (by omega) (by omega) ?_
      refine ⟨?_, rfl⟩
      exact rev_at (by omega)
    exact hK ns.reverse (by simpa using h1) (by simpa using h12) (fun y hy => h0 y (List.mem_reverse.mp hy))
  refine ws_nil ?_
  refine ws_cons ?_
  refine ws_if ?_
  refine wt_cmp (d_eqA rm.eqU) ?_
  refine we_nm nm_l_near_1 (.t .h) ?_
  refine we_int ?_
  first | refine eqA_int ?_ | refine eqA_iL ?_ | refine eqA_str ?_ | refine eqA_bl ?_ | refine eqA_bL ?_ | refine eqA_iT ?_
  refine ⟨_, rfl, ?_⟩
  first | refine tf (fun hif15 => ?_) (fun hif15 => ?_) | refine tfn (fun hif15 => ?_) (fun hif15 => ?_) | refine tb (fun hif15 => ?_) (fun hif15 => ?_)
  · skip
    refine ws_one ?_
    refine ws_ret ?_
    refine we_call (cl_l_moved c X0 G0) rm (by decide) gl_l_near_l_moved ?_
    refine wa_cons ?_
    refine we_nm nm_l_near_0 .h ?_
    refine wa_cons ?_
    refine we_int ?_
    refine wa_nil ?_
    refine ⟨rfl, ?_⟩
    refine ⟨_, _, rfl, hne, by omega, by decide, ?_⟩
    exact hK _ (by rw [rot_len hne]; exact h1) (by rw [rot_len hne]; exact h12) (fun y hy => h0 y (rot_mem hy))
  refine ws_nil ?_
  refine ws_one ?_
  refine ws_ret ?_
  refine we_bty (b_list) ⟨gl_l_near_list, u_list c X0 G0⟩ rfl ?_
  refine wa_cons ?_
  refine we_nm nm_l_near_2 (.t (.t .h)) ?_
  refine wa_nil ?_
  first | refine list_lst ?_ | refine list_tup ?_ | refine list_l (.inr (.inl rfl)) ?_
  exact hK _ g1 g12 g0
theorem fb_l_near : ∃ fd, FnB P w K mg base 7 (f_l_near.ad K) fd ["_law_row_here", "_law_way", "_law_other", "_law_spot"] (sp_l_near K) ∧ FnG P w K mg base 7 (f_l_near.ad K) (fun ds L Ex Kk => ds.length = 4 ∧ sp_l_near K ds L Ex Kk) ∧ PySem.W.keepIn K (.ref (f_l_near.ad K)) = true := by
  obtain ⟨fd, Fd⟩ := c.dfn 24 (t := f_l_near) rfl
  have B := fn_body (P := P) (w := w) (mg := mg) (base := base) (sp := sp_l_near K) (k := 6) Fd sc_l_near (fun cdv A outer s H E rm ds L Ex Kk hl h => b_l_near c X0 G0 rm h)
  have bN : Binds K fd ["_law_row_here", "_law_way", "_law_other", "_law_spot"] [] := FunD.bindsN Fd fun _ _ _ _ _ _ us hl => match us, hl with | [_, _, _, _], _ => rfl
  exact ⟨fd, B, FnB.pos0 B bN, Fd.kp⟩
theorem fg_l_near : FnG P w K mg base 7 (f_l_near.ad K) (fun ds L Ex Kk => ds.length = 4 ∧ sp_l_near K ds L Ex Kk) := by
  obtain ⟨fd, _, z, _⟩ := fb_l_near c X0 G0
  exact z
theorem cl_l_near : Cl P w K mg base 7 "_law_near" (fun ds L Ex Kk => ds.length = 4 ∧ sp_l_near K ds L Ex Kk) := by
  obtain ⟨fd, _, z, kp⟩ := fb_l_near c X0 G0
  exact ⟨⟨_, z, g_l_near c X0 G0, kp⟩, rfl⟩
end
/-! ### _law_equal -/
theorem sc_l_equal : FnScope ["_law_made", "_law_row_here", "_law_other", "_law_spot", "_law_way", "_law_near_here", "_law_mate", "_law_told", "_law_one"] ["_law_made", "_law_row_here", "_law_other", "_law_spot"] (defScope s_l_equal) := ⟨rfl, rfl, rfl, by decide +kernel, rfl, by decide +kernel, by decide +kernel⟩
abbrev X_l_equal (P : Program) (w : World) (K : PySem.W.Frag) (mg : Str → Option Value) (base : Heap) (f : Addr) (cdv : Value) (A : Around) (outer : List Env) (s : Shared) (H : Hp) (E : XK) : Cx := cxD P w K mg base ["_law_made", "_law_row_here", "_law_other", "_law_spot", "_law_way", "_law_near_here", "_law_mate", "_law_told", "_law_one"] "_law_equal" (defScope s_l_equal) f cdv A outer s H E
def sp_l_equal (K : PySem.W.Frag) : TSp := fun ds L Ex Kk => ∃ (ns ms : List Int) (s : Int), ds = [rd K ns, .lst (ns.map Dt.int), .lst (ms.map Dt.int), .int s] ∧ 1 ≤ ns.length ∧ ns.length ≤ 12 ∧ (∀ x ∈ ns, 0 ≤ x) ∧ 1 ≤ ms.length ∧ ms.length ≤ 12 ∧ (∀ x ∈ ms, 0 ≤ x) ∧ 0 ≤ s ∧ s < ns.length ∧ Kk (.bl true) L
section
variable {P : Program} {w : World} {K : PySem.W.Frag} {mg : Str → Option Value} {base : Heap} {f : Addr} {cdv : Value} {A : Around} {outer : List Env} {s : Shared} {H : Hp} {E : XK} {h : Heap}
theorem nm_l_equal_0 : Nm (X_l_equal P w K mg base f cdv A outer s H E) "_law_made" 0 := ⟨rfl, by first | exact .inl rfl | exact .inr (.inl rfl) | exact .inr (.inr rfl), rfl, rfl⟩
theorem nm_l_equal_1 : Nm (X_l_equal P w K mg base f cdv A outer s H E) "_law_row_here" 1 := ⟨rfl, by first | exact .inl rfl | exact .inr (.inl rfl) | exact .inr (.inr rfl), rfl, rfl⟩
theorem nm_l_equal_2 : Nm (X_l_equal P w K mg base f cdv A outer s H E) "_law_other" 2 := ⟨rfl, by first | exact .inl rfl | exact .inr (.inl rfl) | exact .inr (.inr rfl), rfl, rfl⟩
theorem nm_l_equal_3 : Nm (X_l_equal P w K mg base f cdv A outer s H E) "_law_spot" 3 := ⟨rfl, by first | exact .inl rfl | exact .inr (.inl rfl) | exact .inr (.inr rfl), rfl, rfl⟩
theorem nm_l_equal_4 : Nm (X_l_equal P w K mg base f cdv A outer s H E) "_law_way" 4 := ⟨rfl, by first | exact .inl rfl | exact .inr (.inl rfl) | exact .inr (.inr rfl), rfl, rfl⟩
theorem nm_l_equal_5 : Nm (X_l_equal P w K mg base f cdv A outer s H E) "_law_near_here" 5 := ⟨rfl, by first | exact .inl rfl | exact .inr (.inl rfl) | exact .inr (.inr rfl), rfl, rfl⟩
theorem nm_l_equal_6 : Nm (X_l_equal P w K mg base f cdv A outer s H E) "_law_mate" 6 := ⟨rfl, by first | exact .inl rfl | exact .inr (.inl rfl) | exact .inr (.inr rfl), rfl, rfl⟩
theorem nm_l_equal_7 : Nm (X_l_equal P w K mg base f cdv A outer s H E) "_law_told" 7 := ⟨rfl, by first | exact .inl rfl | exact .inr (.inl rfl) | exact .inr (.inr rfl), rfl, rfl⟩
theorem ns_l_equal_4 : Ns (X_l_equal P w K mg base f cdv A outer s H E) "_law_way" 4 := ⟨sc_l_equal.nd, rfl, by first | exact .inl rfl | exact .inr rfl, .inl rfl⟩
theorem ns_l_equal_5 : Ns (X_l_equal P w K mg base f cdv A outer s H E) "_law_near_here" 5 := ⟨sc_l_equal.nd, rfl, by first | exact .inl rfl | exact .inr rfl, .inl rfl⟩
theorem ns_l_equal_6 : Ns (X_l_equal P w K mg base f cdv A outer s H E) "_law_mate" 6 := ⟨sc_l_equal.nd, rfl, by first | exact .inl rfl | exact .inr rfl, .inl rfl⟩
theorem ns_l_equal_7 : Ns (X_l_equal P w K mg base f cdv A outer s H E) "_law_told" 7 := ⟨sc_l_equal.nd, rfl, by first | exact .inl rfl | exact .inr rfl, .inl rfl⟩
theorem gl_l_equal_l_near : Gl (X_l_equal P w K mg base f cdv A outer s H E) "_law_near" := rfl
theorem gl_l_equal_l_round : Gl (X_l_equal P w K mg base f cdv A outer s H E) "_law_round" := rfl
theorem gl_l_equal_all : Gl (X_l_equal P w K mg base f cdv A outer s H E) "all" := rfl
theorem gl_l_equal_range : Gl (X_l_equal P w K mg base f cdv A outer s H E) "range" := rfl
end
section
variable {P : Program} {w : World} {K : PySem.W.Frag} {mg : Str → Option Value} {base : Heap} {f : Addr} {cdv : Value} {A : Around} {outer : List Env} {s : Shared} {H : Hp} {E : XK} {h : Heap} (c : SaysM fa fn K) (X0 : K.In h) (G0 : h.Ns mainGlobals mg)
include c X0 G0
theorem b_l_equal (rm : Rm 7 (X_l_equal P w K mg base f cdv A outer s H E).A) {ds : List Dt} {L : Cells} {Ex : XD} {Kk : KD} (h : sp_l_equal K ds L Ex Kk) : WSs (X_l_equal P w K mg base f cdv A outer s H E) (defBody s_l_equal) (gIn ["_law_made", "_law_row_here", "_law_other", "_law_spot", "_law_way", "_law_near_here", "_law_mate", "_law_told", "_law_one"] ds) L Ex { nx := fun _ L' => Kk .non L', rt := Kk } := by
  obtain ⟨ns, ms, sp, rfl, h1, h12, h0, g1, g12, g0, s0, s1, hK⟩ := h
  change WSs _ _ [some _, some _, some _, some _, none, none, none, none, none] _ _ _
  refine ws_cons ?_
  refine ws_for rfl passOwn ?_
  refine wi_range1 ⟨gl_l_equal_range, u_range c X0 G0⟩ ?_
  refine wa_cons ?_
  refine we_int ?_
  refine wa_nil ?_
  refine ⟨_, rfl, ⟨by first | omega | (split <;> omega) | (split <;> split <;> omega), by first | omega | (split <;> omega) | (split <;> split <;> omega)⟩, ?_⟩
  refine ⟨fun i Γ1 L1 => (∃ (o4 o5 o6 o7 : Option Dt), Γ1 = [some (rd _ ns), some (.lst (ns.map Dt.int)), some (.lst (ms.map Dt.int)), some (.int sp), o4, o5, o6, o7, none]) ∧ L1 = L, ⟨⟨_, _, _, _, rfl⟩, rfl⟩, ?_, ?_⟩
  · skip
    rintro i d Γ1 L1 hd ⟨⟨o4, o5, o6, o7, rfl⟩, rfl⟩
    obtain ⟨hi, rfl⟩ := rngD_at hd
    refine wg_name ns_l_equal_4 (.t (.t (.t (.t .h)))) ?_
    refine ws_cons ?_
    refine ws_set ns_l_equal_5 ?_
    refine we_call (cl_l_near c X0 G0) rm (by decide) gl_l_equal_l_near ?_
    refine wa_cons ?_
    refine we_nm nm_l_equal_1 (.t .h) ?_
    refine wa_cons ?_
    refine we_nm nm_l_equal_4 (.t (.t (.t (.t .h)))) ?_
    refine wa_cons ?_
    refine we_nm nm_l_equal_2 (.t (.t .h)) ?_
    refine wa_cons ?_
    refine we_nm nm_l_equal_3 (.t (.t (.t .h))) ?_
    refine wa_nil ?_
    refine ⟨rfl, ?_⟩
    refine ⟨_, _, _, _, rfl, h1, h12, h0, g1, g12, g0, s0, s1, fun ks k1 k12 k0 => ?_⟩
    refine ⟨_, (.t (.t (.t (.t (.t .h))))), ?_⟩
    refine ws_cons ?_
    refine ws_set ns_l_equal_6 ?_
    refine we_call (cl_l_round c X0 G0) rm (by decide) gl_l_equal_l_round ?_
    refine wa_cons ?_
    refine we_nm nm_l_equal_5 (.t (.t (.t (.t (.t .h))))) ?_
    refine wa_nil ?_
    refine ⟨rfl, ?_⟩
    refine ⟨_, rfl, k1, k12, k0, ?_⟩
    refine ⟨_, (.t (.t (.t (.t (.t (.t .h)))))), ?_⟩
    refine ws_cons ?_
    refine ws_set ns_l_equal_7 ?_
    refine we_lst ?_
    refine wa_cons ?_
    refine we_cmp (d_own (sx_Round_Deq c X0 G0) rm (by decide)) ?_
    refine we_nm nm_l_equal_0 .h ?_
    refine we_nm nm_l_equal_6 (.t (.t (.t (.t (.t (.t .h)))))) ?_
    refine ⟨_, rd_ins, rd_ins, nf_Round c, rfl, _, _, rfl, ?_⟩
    refine wa_cons ?_
    refine we_cmp (d_own (sx_Round_Deq c X0 G0) rm (by decide)) ?_
    refine we_nm nm_l_equal_6 (.t (.t (.t (.t (.t (.t .h)))))) ?_
    refine we_nm nm_l_equal_0 .h ?_
    refine ⟨_, rd_ins, rd_ins, nf_Round c, rfl, _, _, rfl, ?_⟩
    refine wa_cons ?_
    refine we_cmp (d_own (sx_Round_Deq c X0 G0) rm (by decide)) ?_
    refine we_nm nm_l_equal_6 (.t (.t (.t (.t (.t (.t .h)))))) ?_
    refine we_nm nm_l_equal_6 (.t (.t (.t (.t (.t (.t .h)))))) ?_
    refine ⟨_, rd_ins, rd_ins, nf_Round c, rfl, _, _, rfl, ?_⟩
    refine wa_nil ?_
    refine ⟨by first | decide | simp, ?_⟩
    refine ⟨_, (.t (.t (.t (.t (.t (.t (.t .h))))))), ?_⟩
    refine ws_cons ?_
    refine ws_if ?_
    refine wt_not ?_
    refine wt_val ?_
    refine we_blt (b_all rfl) ⟨gl_l_equal_all, u_all c X0 G0⟩ rfl ?_
    refine wa_cons ?_
    refine we_lc (own := [("_law_one", 8)]) (j := 8) rfl sc_l_equal.nd (blkOk_by (N := ["_law_made", "_law_row_here", "_law_other", "_law_spot", "_law_way", "_law_near_here", "_law_mate", "_law_told", "_law_one"]) (sc := defScope s_l_equal) (by decide +kernel)) (by decide) (fun _ _ _ _ _ => ⟨sc_l_equal.nd, rfl, by first | exact .inl rfl | exact .inr rfl, by first | exact .inr rfl | exact .inl rfl⟩) ?_
    refine wi_list ?_
    refine we_nm nm_l_equal_7 (.t (.t (.t (.t (.t (.t (.t .h))))))) ?_
    refine ⟨_, .inl rfl, ?_⟩
    refine lc_rs (rs := [.bl true, .bl true, .bl true]) (by rfl) (by simp) (fun i d acc D hd => ?_) ?_
    · skip
      obtain ⟨hi, rfl⟩ := at_map (g := Dt.bl) (ns := [decide (ns = ks), decide (ks = ns), decide (ks = ks)]) hd
      refine ⟨_, .t (.t (.t (.t (.t (.t (.t (.t .h))))))), ?_⟩
      intro s0 H0 C0 cl0 fp0
      refine we_blt (b_isi) ⟨(by rfl), u_isinstance c X0 G0⟩ rfl ?_
      refine wa_cons ?_
      refine we_nm (i := 8) ⟨rfl, by first | exact .inr (.inr rfl) | exact .inl rfl | exact .inr (.inl rfl), rfl, rfl⟩ (.t (.t (.t (.t (.t (.t (.t (.t .h)))))))) ?_
      refine wa_cons ?_
      refine we_btn ⟨(by rfl), u_bool c X0 G0⟩ rfl ?_
      refine wa_nil ?_
      refine ⟨_, _, _, _, _, rfl, .ty _, .bl _, kit_bool, ?_⟩
      refine ⟨?_, rfl⟩
      match i, hi with
      | 0, _ => rfl
      | 1, _ => rfl
      | 2, _ => rfl
    refine wa_nil ?_
    refine all_of (bs := [true, true, true]) (b := true) rfl ?_
    refine ⟨_, rfl, ?_⟩
    refine t_f (by first | rfl | simp) ?_
    refine ws_nil ?_
    refine ws_one ?_
    refine ws_if ?_
    refine wt_cmp (d_neA rm.eqU) ?_
    refine we_nm nm_l_equal_7 (.t (.t (.t (.t (.t (.t (.t .h))))))) ?_
    refine we_lst ?_
    refine wa_cons ?_
    refine we_cmp (d_eqA rm.eqU) ?_
    refine we_nm nm_l_equal_5 (.t (.t (.t (.t (.t .h))))) ?_
    refine we_nm nm_l_equal_1 (.t .h) ?_
    refine eqA_iL ?_
    refine wa_cons ?_
    refine we_cmp (d_eqA rm.eqU) ?_
    refine we_nm nm_l_equal_5 (.t (.t (.t (.t (.t .h))))) ?_
    refine we_nm nm_l_equal_1 (.t .h) ?_
    refine eqA_iL ?_
    refine wa_cons ?_
    refine we_bl ?_
    refine wa_nil ?_
    refine ⟨by first | decide | simp, ?_⟩
    refine neA_bL (ns := [decide (ns = ks), decide (ks = ns), decide (ks = ks)]) (ms := [decide (ks = ns), decide (ks = ns), true]) ?_
    refine ⟨_, rfl, ?_⟩
    refine t_nn (by simp [eq_comm]) ?_
    refine ws_nil ?_
    exact ⟨⟨_, _, _, _, rfl⟩, rfl⟩
  rintro Γ1 L1 ⟨⟨o4, o5, o6, o7, rfl⟩, rfl⟩
  refine ws_one ?_
  refine ws_ret ?_
  refine we_bl ?_
  exact hK
theorem fb_l_equal : ∃ fd, FnB P w K mg base 8 (f_l_equal.ad K) fd ["_law_made", "_law_row_here", "_law_other", "_law_spot"] (sp_l_equal K) ∧ FnG P w K mg base 8 (f_l_equal.ad K) (fun ds L Ex Kk => ds.length = 4 ∧ sp_l_equal K ds L Ex Kk) ∧ PySem.W.keepIn K (.ref (f_l_equal.ad K)) = true := by
  obtain ⟨fd, Fd⟩ := c.dfn 25 (t := f_l_equal) rfl
  have B := fn_body (P := P) (w := w) (mg := mg) (base := base) (sp := sp_l_equal K) (k := 7) Fd sc_l_equal (fun cdv A outer s H E rm ds L Ex Kk hl h => b_l_equal c X0 G0 rm h)
  have bN : Binds K fd ["_law_made", "_law_row_here", "_law_other", "_law_spot"] [] := FunD.bindsN Fd fun _ _ _ _ _ _ us hl => match us, hl with | [_, _, _, _], _ => rfl
  exact ⟨fd, B, FnB.pos0 B bN, Fd.kp⟩
theorem fg_l_equal : FnG P w K mg base 8 (f_l_equal.ad K) (fun ds L Ex Kk => ds.length = 4 ∧ sp_l_equal K ds L Ex Kk) := by
  obtain ⟨fd, _, z, _⟩ := fb_l_equal c X0 G0
  exact z
theorem cl_l_equal : Cl P w K mg base 8 "_law_equal" (fun ds L Ex Kk => ds.length = 4 ∧ sp_l_equal K ds L Ex Kk) := by
  obtain ⟨fd, _, z, kp⟩ := fb_l_equal c X0 G0
  exact ⟨⟨_, z, g_l_equal c X0 G0, kp⟩, rfl⟩
end
/-! ### _law_added -/
theorem sc_l_added : FnScope ["_law_made", "_law_row_here", "_law_mate", "_law_other", "_law_cut", "_law_parts"] ["_law_made", "_law_row_here", "_law_mate", "_law_other", "_law_cut"] (defScope s_l_added) := ⟨rfl, rfl, rfl, by decide +kernel, rfl, by decide +kernel, by decide +kernel⟩
abbrev X_l_added (P : Program) (w : World) (K : PySem.W.Frag) (mg : Str → Option Value) (base : Heap) (f : Addr) (cdv : Value) (A : Around) (outer : List Env) (s : Shared) (H : Hp) (E : XK) : Cx := cxD P w K mg base ["_law_made", "_law_row_here", "_law_mate", "_law_other", "_law_cut", "_law_parts"] "_law_added" (defScope s_l_added) f cdv A outer s H E
def sp_l_added (K : PySem.W.Frag) : TSp := fun ds L Ex Kk => ∃ (ns ms : List Int) (s : Int), ds = [rd K ns, .lst (ns.map Dt.int), rd K ms, .lst (ms.map Dt.int), .int s] ∧ 1 ≤ ns.length ∧ ns.length ≤ 12 ∧ (∀ x ∈ ns, 0 ≤ x) ∧ 1 ≤ ms.length ∧ ms.length ≤ 12 ∧ (∀ x ∈ ms, 0 ≤ x) ∧ Kk (.bl true) L
section
variable {P : Program} {w : World} {K : PySem.W.Frag} {mg : Str → Option Value} {base : Heap} {f : Addr} {cdv : Value} {A : Around} {outer : List Env} {s : Shared} {H : Hp} {E : XK} {h : Heap}
theorem nm_l_added_0 : Nm (X_l_added P w K mg base f cdv A outer s H E) "_law_made" 0 := ⟨rfl, by first | exact .inl rfl | exact .inr (.inl rfl) | exact .inr (.inr rfl), rfl, rfl⟩
theorem nm_l_added_1 : Nm (X_l_added P w K mg base f cdv A outer s H E) "_law_row_here" 1 := ⟨rfl, by first | exact .inl rfl | exact .inr (.inl rfl) | exact .inr (.inr rfl), rfl, rfl⟩
theorem nm_l_added_2 : Nm (X_l_added P w K mg base f cdv A outer s H E) "_law_mate" 2 := ⟨rfl, by first | exact .inl rfl | exact .inr (.inl rfl) | exact .inr (.inr rfl), rfl, rfl⟩
theorem nm_l_added_3 : Nm (X_l_added P w K mg base f cdv A outer s H E) "_law_other" 3 := ⟨rfl, by first | exact .inl rfl | exact .inr (.inl rfl) | exact .inr (.inr rfl), rfl, rfl⟩
theorem nm_l_added_4 : Nm (X_l_added P w K mg base f cdv A outer s H E) "_law_cut" 4 := ⟨rfl, by first | exact .inl rfl | exact .inr (.inl rfl) | exact .inr (.inr rfl), rfl, rfl⟩
theorem nm_l_added_5 : Nm (X_l_added P w K mg base f cdv A outer s H E) "_law_parts" 5 := ⟨rfl, by first | exact .inl rfl | exact .inr (.inl rfl) | exact .inr (.inr rfl), rfl, rfl⟩
theorem ns_l_added_5 : Ns (X_l_added P w K mg base f cdv A outer s H E) "_law_parts" 5 := ⟨sc_l_added.nd, rfl, by first | exact .inl rfl | exact .inr rfl, .inl rfl⟩
theorem gl_l_added_l_has : Gl (X_l_added P w K mg base f cdv A outer s H E) "_law_has" := rfl
theorem gl_l_added_l_round : Gl (X_l_added P w K mg base f cdv A outer s H E) "_law_round" := rfl
theorem gl_l_added_len : Gl (X_l_added P w K mg base f cdv A outer s H E) "len" := rfl
end
section
variable {P : Program} {w : World} {K : PySem.W.Frag} {mg : Str → Option Value} {base : Heap} {f : Addr} {cdv : Value} {A : Around} {outer : List Env} {s : Shared} {H : Hp} {E : XK} {h : Heap} (c : SaysM fa fn K) (X0 : K.In h) (G0 : h.Ns mainGlobals mg)
include c X0 G0
theorem b_l_added (rm : Rm 5 (X_l_added P w K mg base f cdv A outer s H E).A) {ds : List Dt} {L : Cells} {Ex : XD} {Kk : KD} (h : sp_l_added K ds L Ex Kk) : WSs (X_l_added P w K mg base f cdv A outer s H E) (defBody s_l_added) (gIn ["_law_made", "_law_row_here", "_law_mate", "_law_other", "_law_cut", "_law_parts"] ds) L Ex { nx := fun _ L' => Kk .non L', rt := Kk } := by
  obtain ⟨ns, ms, sp, rfl, h1, h12, h0, g1, g12, g0, hK⟩ := h
  change WSs _ _ [some _, some _, some _, some _, some _, none] _ _ _
  refine ws_cut (fun Γ' L' => Γ' = [some (rd K ns), some (.lst (ns.map Dt.int)), some (rd K ms), some (.lst (ms.map Dt.int)), some (.int sp), none] ∧ L = L') ?_ ?_
  · skip
    refine ws_if ?_
    refine wt_cmp d_le ?_
    refine we_bin d_plus ?_
    refine we_blt (b_len) ⟨gl_l_added_len, u_len c X0 G0⟩ rfl ?_
    refine wa_cons ?_
    refine we_nm nm_l_added_1 (.t .h) ?_
    refine wa_nil ?_
    first | refine len_iL ?_ | refine len_iT ?_ | refine len_iR ?_ | refine len_iO (by first | assumption | exact Has.upd (by assumption) | exact .h | exact .t (by assumption) | exact .t (Has.upd (by assumption)) | exact .t .h | exact .t (.t .h)) ?_ | refine len_lst ?_ | refine len_tup ?_
    refine we_blt (b_len) ⟨gl_l_added_len, u_len c X0 G0⟩ rfl ?_
    refine wa_cons ?_
    refine we_nm nm_l_added_3 (.t (.t (.t .h))) ?_
    refine wa_nil ?_
    first | refine len_iL ?_ | refine len_iT ?_ | refine len_iR ?_ | refine len_iO (by first | assumption | exact Has.upd (by assumption) | exact .h | exact .t (by assumption) | exact .t (Has.upd (by assumption)) | exact .t .h | exact .t (.t .h)) ?_ | refine len_lst ?_ | refine len_tup ?_
    first | refine plus_int ?_ | refine plus_iL (by (try simp only [List.length_append, List.length_cons, List.length_nil]); omega) ?_ | refine plus_iT (by omega) ?_ | refine plus_iL1 (by omega) ?_
    refine we_int ?_
    refine rII0 ?_
    refine ⟨_, rfl, ?_⟩
    first | refine tf (fun hif1 => ?_) (fun hif1 => ?_) | refine tfn (fun hif1 => ?_) (fun hif1 => ?_) | refine tb (fun hif1 => ?_) (fun hif1 => ?_)
    · skip
      refine ws_one ?_
      refine ws_if ?_
      refine wt_of ?_
      refine ww_or ?_
      refine wt_not ?_
      refine wt_val ?_
      refine we_call (cl_l_has c X0 G0) rm (by decide) gl_l_added_l_has ?_
      refine wa_cons ?_
      refine we_own (sx_Round_Dadd c X0 G0) rm (by decide) (sf_Round c) ?_
      refine we_nm nm_l_added_0 .h ?_
      refine we_nm nm_l_added_2 (.t (.t .h)) ?_
      refine ⟨rd_ins, rd_ins, rfl, _, _, rfl, h1, by omega, h0, g0, ?_⟩
      refine wa_cons ?_
      refine we_bin d_plus ?_
      refine we_nm nm_l_added_1 (.t .h) ?_
      refine we_nm nm_l_added_3 (.t (.t (.t .h))) ?_
      first | refine plus_int ?_ | refine plus_iL (by (try simp only [List.length_append, List.length_cons, List.length_nil]); omega) ?_ | refine plus_iT (by omega) ?_ | refine plus_iL1 (by omega) ?_
      refine wa_nil ?_
      refine ⟨rfl, ?_⟩
      refine ⟨_, _, rfl, by first | omega | (rw [List.length_append]; omega), ?_⟩
      refine ⟨_, rfl, ?_⟩
      refine t_f (by first | rfl | simp) ?_
      refine ww_or1 ?_
      refine wt_not ?_
      refine wt_val ?_
      refine we_call (cl_l_has c X0 G0) rm (by decide) gl_l_added_l_has ?_
      refine wa_cons ?_
      refine we_own (sx_Round_Dadd c X0 G0) rm (by decide) (sf_Round c) ?_
      refine we_nm nm_l_added_2 (.t (.t .h)) ?_
      refine we_nm nm_l_added_0 .h ?_
      refine ⟨rd_ins, rd_ins, rfl, _, _, rfl, g1, by omega, g0, h0, ?_⟩
      refine wa_cons ?_
      refine we_bin d_plus ?_
      refine we_nm nm_l_added_3 (.t (.t (.t .h))) ?_
      refine we_nm nm_l_added_1 (.t .h) ?_
      first | refine plus_int ?_ | refine plus_iL (by (try simp only [List.length_append, List.length_cons, List.length_nil]); omega) ?_ | refine plus_iT (by omega) ?_ | refine plus_iL1 (by omega) ?_
      refine wa_nil ?_
      refine ⟨rfl, ?_⟩
      refine ⟨_, _, rfl, by first | omega | (rw [List.length_append]; omega), ?_⟩
      refine ⟨_, rfl, ?_⟩
      refine t_f (by first | rfl | simp) ?_
      refine ws_nil ?_
      exact ⟨rfl, rfl⟩
    · skip
      refine ws_nil ?_
      exact ⟨rfl, rfl⟩
  rintro _ _ ⟨rfl, rfl⟩
  refine ws_cut (fun Γ' L' => (∃ o, Γ' = [some (rd K ns), some (.lst (ns.map Dt.int)), some (rd K ms), some (.lst (ms.map Dt.int)), some (.int sp), o]) ∧ L = L') ?_ ?_
  · skip
    refine ws_if ?_
    refine wt_of ?_
    apply ww_andP
    · skip
      refine wt_cmp d_lt ?_
      refine we_int ?_
      refine we_nm nm_l_added_4 (.t (.t (.t (.t .h)))) ?_
      refine rII0 ?_
      refine ⟨_, rfl, ?_⟩
      exact ⟨rfl, rfl⟩
    · intro hb
      refine ww_and1 ?_
      refine wt_cmp d_lt ?_
      refine we_nm nm_l_added_4 (.t (.t (.t (.t .h)))) ?_
      refine we_blt (b_len) ⟨gl_l_added_len, u_len c X0 G0⟩ rfl ?_
      refine wa_cons ?_
      refine we_nm nm_l_added_1 (.t .h) ?_
      refine wa_nil ?_
      first | refine len_iL ?_ | refine len_iT ?_ | refine len_iR ?_ | refine len_iO (by first | assumption | exact Has.upd (by assumption) | exact .h | exact .t (by assumption) | exact .t (Has.upd (by assumption)) | exact .t .h | exact .t (.t .h)) ?_ | refine len_lst ?_ | refine len_tup ?_
      refine rII0 ?_
      refine ⟨_, rfl, ?_⟩
      exact ⟨rfl, rfl⟩
    refine tb (fun h4 => ?_) (fun h4 => ?_)
    · skip
      simp only [Bool.and_eq_true, decide_eq_true_eq] at h4
      refine ws_cons ?_
      refine ws_set ns_l_added_5 ?_
      refine we_own (sx_Round_Dadd c X0 G0) rm (by decide) (sf_Round c) ?_
      refine we_call (cl_l_round c X0 G0) rm (by decide) gl_l_added_l_round ?_
      refine wa_cons ?_
      refine we_sl ?_
      refine we_nm nm_l_added_1 (.t .h) ?_
      refine wo_none ?_
      refine wo_some ?_
      refine we_nm nm_l_added_4 (.t (.t (.t (.t .h)))) ?_
      refine ⟨_, rfl, ?_⟩
      refine sl_iL ?_
      rw [cutI_to (by omega)]
      refine wa_nil ?_
      refine ⟨rfl, ?_⟩
      refine ⟨_, rfl, by rw [List.length_take]; omega, by rw [List.length_take]; omega, fun y hy => h0 y (List.mem_of_mem_take hy), ?_⟩
      refine we_call (cl_l_round c X0 G0) rm (by decide) gl_l_added_l_round ?_
      refine wa_cons ?_
      refine we_sl ?_
      refine we_nm nm_l_added_1 (.t .h) ?_
      refine wo_some ?_
      refine we_nm nm_l_added_4 (.t (.t (.t (.t .h)))) ?_
      refine ⟨_, rfl, ?_⟩
      refine wo_none ?_
      refine sl_iL ?_
      rw [cutI_from (by omega)]
      refine wa_nil ?_
      refine ⟨rfl, ?_⟩
      refine ⟨_, rfl, by rw [List.length_drop]; omega, by rw [List.length_drop]; omega, fun y hy => h0 y (List.mem_of_mem_drop hy), ?_⟩
      refine ⟨rd_ins, rd_ins, rfl, _, _, rfl, by rw [List.length_take]; omega, by rw [List.length_take, List.length_drop]; omega, fun y hy => h0 y (List.mem_of_mem_take hy), fun y hy => h0 y (List.mem_of_mem_drop hy), ?_⟩
      rw [List.take_append_drop]
      refine ⟨_, (.t (.t (.t (.t (.t .h))))), ?_⟩
      refine ws_one ?_
      refine ws_if ?_
      refine wt_of ?_
      refine ww_or ?_
      refine wt_not ?_
      refine wt_val ?_
      refine we_call (cl_l_has c X0 G0) rm (by decide) gl_l_added_l_has ?_
      refine wa_cons ?_
      refine we_nm nm_l_added_5 (.t (.t (.t (.t (.t .h))))) ?_
      refine wa_cons ?_
      refine we_nm nm_l_added_1 (.t .h) ?_
      refine wa_nil ?_
      refine ⟨rfl, ?_⟩
      refine ⟨_, _, rfl, by first | omega | (rw [List.length_append]; omega), ?_⟩
      refine ⟨_, rfl, ?_⟩
      refine t_f (by first | rfl | simp) ?_
      refine ww_or1 ?_
      refine wt_not ?_
      refine wt_cmp (d_own (sx_Round_Deq c X0 G0) rm (by decide)) ?_
      refine we_nm nm_l_added_0 .h ?_
      refine we_nm nm_l_added_5 (.t (.t (.t (.t (.t .h))))) ?_
      refine ⟨_, rd_ins, rd_ins, nf_Round c, rfl, _, _, rfl, ?_⟩
      refine ⟨_, rfl, ?_⟩
      refine t_f (by first | rfl | simp) ?_
      refine ws_nil ?_
      exact ⟨⟨_, rfl⟩, rfl⟩
    · skip
      refine ws_nil ?_
      exact ⟨⟨_, rfl⟩, rfl⟩
  rintro _ _ ⟨⟨o, rfl⟩, rfl⟩
  refine ws_one ?_
  refine ws_ret ?_
  refine we_and ?_
  refine we_call (cl_l_has c X0 G0) rm (by decide) gl_l_added_l_has ?_
  refine wa_cons ?_
  refine we_nm nm_l_added_0 .h ?_
  refine wa_cons ?_
  refine we_nm nm_l_added_1 (.t .h) ?_
  refine wa_nil ?_
  refine ⟨rfl, ?_⟩
  refine ⟨_, _, rfl, by first | omega | (rw [List.length_append]; omega), ?_⟩
  refine ⟨_, rfl, ?_⟩
  refine t_y rfl ?_
  refine we_one ?_
  refine we_call (cl_l_has c X0 G0) rm (by decide) gl_l_added_l_has ?_
  refine wa_cons ?_
  refine we_nm nm_l_added_2 (.t (.t .h)) ?_
  refine wa_cons ?_
  refine we_nm nm_l_added_3 (.t (.t (.t .h))) ?_
  refine wa_nil ?_
  refine ⟨rfl, ?_⟩
  refine ⟨_, _, rfl, by first | omega | (rw [List.length_append]; omega), ?_⟩
  rw [decide_eq_true rfl]
  exact hK
theorem fb_l_added : ∃ fd, FnB P w K mg base 6 (f_l_added.ad K) fd ["_law_made", "_law_row_here", "_law_mate", "_law_other", "_law_cut"] (sp_l_added K) ∧ FnG P w K mg base 6 (f_l_added.ad K) (fun ds L Ex Kk => ds.length = 5 ∧ sp_l_added K ds L Ex Kk) ∧ PySem.W.keepIn K (.ref (f_l_added.ad K)) = true := by
  obtain ⟨fd, Fd⟩ := c.dfn 26 (t := f_l_added) rfl
  have B := fn_body (P := P) (w := w) (mg := mg) (base := base) (sp := sp_l_added K) (k := 5) Fd sc_l_added (fun cdv A outer s H E rm ds L Ex Kk hl h => b_l_added c X0 G0 rm h)
  have bN : Binds K fd ["_law_made", "_law_row_here", "_law_mate", "_law_other", "_law_cut"] [] := FunD.bindsN Fd fun _ _ _ _ _ _ us hl => match us, hl with | [_, _, _, _, _], _ => rfl
  exact ⟨fd, B, FnB.pos0 B bN, Fd.kp⟩
theorem fg_l_added : FnG P w K mg base 6 (f_l_added.ad K) (fun ds L Ex Kk => ds.length = 5 ∧ sp_l_added K ds L Ex Kk) := by
  obtain ⟨fd, _, z, _⟩ := fb_l_added c X0 G0
  exact z
theorem cl_l_added : Cl P w K mg base 6 "_law_added" (fun ds L Ex Kk => ds.length = 5 ∧ sp_l_added K ds L Ex Kk) := by
  obtain ⟨fd, _, z, kp⟩ := fb_l_added c X0 G0
  exact ⟨⟨_, z, g_l_added c X0 G0, kp⟩, rfl⟩
end
/-! ### _law_case -/
theorem sc_l_case : FnScope ["_law_bag_here", "_law_size", "_law_row_here", "_law_other", "_law_made", "_law_mate", "_law_told", "_law_kept", "_law_single", "_law_lone"] ["_law_bag_here"] (defScope s_l_case) := ⟨rfl, rfl, rfl, by decide +kernel, rfl, by decide +kernel, by decide +kernel⟩
abbrev X_l_case (P : Program) (w : World) (K : PySem.W.Frag) (mg : Str → Option Value) (base : Heap) (f : Addr) (cdv : Value) (A : Around) (outer : List Env) (s : Shared) (H : Hp) (E : XK) : Cx := cxD P w K mg base ["_law_bag_here", "_law_size", "_law_row_here", "_law_other", "_law_made", "_law_mate", "_law_told", "_law_kept", "_law_single", "_law_lone"] "_law_case" (defScope s_l_case) f cdv A outer s H E
def sp_l_case (K : PySem.W.Frag) : TSp := fun ds L Ex Kk => ∃ (a : Addr) (x c s : Int)  (g : OC → Cells), ds = [.ref a] ∧ Has L a (Bag x c s) g ∧ ∀ x' c', Kk (.bl true) (g (Bag x' c' s))
section
variable {P : Program} {w : World} {K : PySem.W.Frag} {mg : Str → Option Value} {base : Heap} {f : Addr} {cdv : Value} {A : Around} {outer : List Env} {s : Shared} {H : Hp} {E : XK} {h : Heap}
theorem nm_l_case_0 : Nm (X_l_case P w K mg base f cdv A outer s H E) "_law_bag_here" 0 := ⟨rfl, by first | exact .inl rfl | exact .inr (.inl rfl) | exact .inr (.inr rfl), rfl, rfl⟩
theorem nm_l_case_1 : Nm (X_l_case P w K mg base f cdv A outer s H E) "_law_size" 1 := ⟨rfl, by first | exact .inl rfl | exact .inr (.inl rfl) | exact .inr (.inr rfl), rfl, rfl⟩
theorem nm_l_case_2 : Nm (X_l_case P w K mg base f cdv A outer s H E) "_law_row_here" 2 := ⟨rfl, by first | exact .inl rfl | exact .inr (.inl rfl) | exact .inr (.inr rfl), rfl, rfl⟩
theorem nm_l_case_3 : Nm (X_l_case P w K mg base f cdv A outer s H E) "_law_other" 3 := ⟨rfl, by first | exact .inl rfl | exact .inr (.inl rfl) | exact .inr (.inr rfl), rfl, rfl⟩
theorem nm_l_case_4 : Nm (X_l_case P w K mg base f cdv A outer s H E) "_law_made" 4 := ⟨rfl, by first | exact .inl rfl | exact .inr (.inl rfl) | exact .inr (.inr rfl), rfl, rfl⟩
theorem nm_l_case_5 : Nm (X_l_case P w K mg base f cdv A outer s H E) "_law_mate" 5 := ⟨rfl, by first | exact .inl rfl | exact .inr (.inl rfl) | exact .inr (.inr rfl), rfl, rfl⟩
theorem nm_l_case_6 : Nm (X_l_case P w K mg base f cdv A outer s H E) "_law_told" 6 := ⟨rfl, by first | exact .inl rfl | exact .inr (.inl rfl) | exact .inr (.inr rfl), rfl, rfl⟩
theorem nm_l_case_7 : Nm (X_l_case P w K mg base f cdv A outer s H E) "_law_kept" 7 := ⟨rfl, by first | exact .inl rfl | exact .inr (.inl rfl) | exact .inr (.inr rfl), rfl, rfl⟩
theorem nm_l_case_8 : Nm (X_l_case P w K mg base f cdv A outer s H E) "_law_single" 8 := ⟨rfl, by first | exact .inl rfl | exact .inr (.inl rfl) | exact .inr (.inr rfl), rfl, rfl⟩
theorem nm_l_case_9 : Nm (X_l_case P w K mg base f cdv A outer s H E) "_law_lone" 9 := ⟨rfl, by first | exact .inl rfl | exact .inr (.inl rfl) | exact .inr (.inr rfl), rfl, rfl⟩
theorem ns_l_case_1 : Ns (X_l_case P w K mg base f cdv A outer s H E) "_law_size" 1 := ⟨sc_l_case.nd, rfl, by first | exact .inl rfl | exact .inr rfl, .inl rfl⟩
theorem ns_l_case_2 : Ns (X_l_case P w K mg base f cdv A outer s H E) "_law_row_here" 2 := ⟨sc_l_case.nd, rfl, by first | exact .inl rfl | exact .inr rfl, .inl rfl⟩
theorem ns_l_case_3 : Ns (X_l_case P w K mg base f cdv A outer s H E) "_law_other" 3 := ⟨sc_l_case.nd, rfl, by first | exact .inl rfl | exact .inr rfl, .inl rfl⟩
theorem ns_l_case_4 : Ns (X_l_case P w K mg base f cdv A outer s H E) "_law_made" 4 := ⟨sc_l_case.nd, rfl, by first | exact .inl rfl | exact .inr rfl, .inl rfl⟩
theorem ns_l_case_5 : Ns (X_l_case P w K mg base f cdv A outer s H E) "_law_mate" 5 := ⟨sc_l_case.nd, rfl, by first | exact .inl rfl | exact .inr rfl, .inl rfl⟩
theorem ns_l_case_6 : Ns (X_l_case P w K mg base f cdv A outer s H E) "_law_told" 6 := ⟨sc_l_case.nd, rfl, by first | exact .inl rfl | exact .inr rfl, .inl rfl⟩
theorem ns_l_case_7 : Ns (X_l_case P w K mg base f cdv A outer s H E) "_law_kept" 7 := ⟨sc_l_case.nd, rfl, by first | exact .inl rfl | exact .inr rfl, .inl rfl⟩
theorem ns_l_case_8 : Ns (X_l_case P w K mg base f cdv A outer s H E) "_law_single" 8 := ⟨sc_l_case.nd, rfl, by first | exact .inl rfl | exact .inr rfl, .inl rfl⟩
theorem ns_l_case_9 : Ns (X_l_case P w K mg base f cdv A outer s H E) "_law_lone" 9 := ⟨sc_l_case.nd, rfl, by first | exact .inl rfl | exact .inr rfl, .inl rfl⟩
theorem gl_l_case_Round : Gl (X_l_case P w K mg base f cdv A outer s H E) "Round" := rfl
theorem gl_l_case_l_added : Gl (X_l_case P w K mg base f cdv A outer s H E) "_law_added" := rfl
theorem gl_l_case_l_answers : Gl (X_l_case P w K mg base f cdv A outer s H E) "_law_answers" := rfl
theorem gl_l_case_l_equal : Gl (X_l_case P w K mg base f cdv A outer s H E) "_law_equal" := rfl
theorem gl_l_case_l_has : Gl (X_l_case P w K mg base f cdv A outer s H E) "_law_has" := rfl
theorem gl_l_case_l_number : Gl (X_l_case P w K mg base f cdv A outer s H E) "_law_number" := rfl
theorem gl_l_case_l_round : Gl (X_l_case P w K mg base f cdv A outer s H E) "_law_round" := rfl
theorem gl_l_case_l_row : Gl (X_l_case P w K mg base f cdv A outer s H E) "_law_row" := rfl
theorem gl_l_case_l_shifts : Gl (X_l_case P w K mg base f cdv A outer s H E) "_law_shifts" := rfl
theorem gl_l_case_l_take : Gl (X_l_case P w K mg base f cdv A outer s H E) "_law_take" := rfl
theorem gl_l_case_list : Gl (X_l_case P w K mg base f cdv A outer s H E) "list" := rfl
theorem gl_l_case_max : Gl (X_l_case P w K mg base f cdv A outer s H E) "max" := rfl
theorem gl_l_case_repr : Gl (X_l_case P w K mg base f cdv A outer s H E) "repr" := rfl
end
section
variable {P : Program} {w : World} {K : PySem.W.Frag} {mg : Str → Option Value} {base : Heap} {f : Addr} {cdv : Value} {A : Around} {outer : List Env} {s : Shared} {H : Hp} {E : XK} {h : Heap} (c : SaysM fa fn K) (X0 : K.In h) (G0 : h.Ns mainGlobals mg)
include c X0 G0
theorem b_l_case (rm : Rm 10 (X_l_case P w K mg base f cdv A outer s H E).A) {ds : List Dt} {L : Cells} {Ex : XD} {Kk : KD} (h : sp_l_case K ds L Ex Kk) : WSs (X_l_case P w K mg base f cdv A outer s H E) (defBody s_l_case) (gIn ["_law_bag_here", "_law_size", "_law_row_here", "_law_other", "_law_made", "_law_mate", "_law_told", "_law_kept", "_law_single", "_law_lone"] ds) L Ex { nx := fun _ L' => Kk .non L', rt := Kk } := by
  obtain ⟨a, x, c0, sd, g, rfl, hh, hK⟩ := h
  change WSs _ _ [some _, none, none, none, none, none, none, none, none, none] _ _ _
  refine ws_cons ?_
  refine ws_set ns_l_case_1 ?_
  refine we_bin d_plus ?_
  refine we_int ?_
  refine we_call (cl_l_take c X0 G0) rm (by decide) gl_l_case_l_take ?_
  refine wa_cons ?_
  refine we_nm nm_l_case_0 .h ?_
  refine wa_cons ?_
  refine we_int ?_
  refine wa_nil ?_
  refine ⟨rfl, ?_⟩
  refine ⟨_, _, _, _, _, _, rfl, by omega, by omega, (by first | assumption | exact Has.upd (by assumption) | exact .h | exact .t (by assumption) | exact .t (Has.upd (by assumption)) | exact .t .h | exact .t (.t .h)), fun r1 x1 c1 hr1 hs1 => ?_⟩
  first | refine plus_int ?_ | refine plus_iL (by (try simp only [List.length_append, List.length_cons, List.length_nil]); omega) ?_ | refine plus_iT (by omega) ?_ | refine plus_iL1 (by omega) ?_
  refine ⟨_, (.t .h), ?_⟩
  refine ws_cons ?_
  refine ws_set ns_l_case_2 ?_
  refine we_call (cl_l_row c X0 G0) rm (by decide) gl_l_case_l_row ?_
  refine wa_cons ?_
  refine we_nm nm_l_case_0 .h ?_
  refine wa_cons ?_
  refine we_nm nm_l_case_1 (.t .h) ?_
  refine wa_nil ?_
  refine ⟨rfl, ?_⟩
  refine ⟨_, _, _, _, _, _, rfl, by first | omega | (split at hs2 <;> omega), by first | omega | (split at hs2 <;> omega), (by first | assumption | exact Has.upd (by assumption) | exact .h | exact .t (by assumption) | exact .t (Has.upd (by assumption)) | exact .t .h | exact .t (.t .h)), fun ns2 x2 c2 hl2 hb2 => ?_⟩
  refine ⟨_, (.t (.t .h)), ?_⟩
  refine ws_cons ?_
  refine ws_set ns_l_case_3 ?_
  refine we_call (cl_l_row c X0 G0) rm (by decide) gl_l_case_l_row ?_
  refine wa_cons ?_
  refine we_nm nm_l_case_0 .h ?_
  refine wa_cons ?_
  refine we_bin d_plus ?_
  refine we_int ?_
  refine we_call (cl_l_take c X0 G0) rm (by decide) gl_l_case_l_take ?_
  refine wa_cons ?_
  refine we_nm nm_l_case_0 .h ?_
  refine wa_cons ?_
  refine we_blt (b_max2 rfl) ⟨gl_l_case_max, u_max c X0 G0⟩ rfl ?_
  refine wa_cons ?_
  refine we_int ?_
  refine wa_cons ?_
  refine we_bin d_sub ?_
  refine we_int ?_
  refine we_nm nm_l_case_1 (.t .h) ?_
  refine rII0 ?_
  refine wa_nil ?_
  refine i2 trivial ?_
  refine wa_nil ?_
  refine ⟨rfl, ?_⟩
  refine ⟨_, _, _, _, _, _, rfl, by split <;> omega, by split <;> omega, (by first | assumption | exact Has.upd (by assumption) | exact .h | exact .t (by assumption) | exact .t (Has.upd (by assumption)) | exact .t .h | exact .t (.t .h)), fun r3 x3 c3 hr3 hs3 => ?_⟩
  first | refine plus_int ?_ | refine plus_iL (by (try simp only [List.length_append, List.length_cons, List.length_nil]); omega) ?_ | refine plus_iT (by omega) ?_ | refine plus_iL1 (by omega) ?_
  refine wa_nil ?_
  refine ⟨rfl, ?_⟩
  have hq : 1 + r3 ≤ 12 := by split at hs3 <;> omega
  refine ⟨_, _, _, _, _, _, rfl, by omega, by omega, (by first | assumption | exact Has.upd (by assumption) | exact .h | exact .t (by assumption) | exact .t (Has.upd (by assumption)) | exact .t .h | exact .t (.t .h)), fun ms4 x4 c4 hl4 hb4 => ?_⟩
  refine ⟨_, (.t (.t (.t .h))), ?_⟩
  refine ws_cut (fun Γ' L' => ∃ (ms : List Int) (x' c' : Int), 1 ≤ ms.length ∧ ms.length ≤ 12 ∧ (∀ y ∈ ms, 0 ≤ y ∧ y ≤ 10 ^ 30) ∧ Γ' = [some (.ref a), some (.int (1 + r1)), some (.lst (ns2.map Dt.int)), some (.lst (ms.map Dt.int)), none, none, none, none, none, none] ∧ L' = g (Bag x' c' sd)) ?_ ?_
  · skip
    refine ws_if ?_
    refine wt_cmp (d_eqA rm.eqU) ?_
    refine we_call (cl_l_take c X0 G0) rm (by decide) gl_l_case_l_take ?_
    refine wa_cons ?_
    refine we_nm nm_l_case_0 .h ?_
    refine wa_cons ?_
    refine we_int ?_
    refine wa_nil ?_
    refine ⟨rfl, ?_⟩
    refine ⟨_, _, _, _, _, _, rfl, by omega, by omega, (by first | assumption | exact Has.upd (by assumption) | exact .h | exact .t (by assumption) | exact .t (Has.upd (by assumption)) | exact .t .h | exact .t (.t .h)), fun r5 x5 c5 hr5 hs5 => ?_⟩
    refine we_int ?_
    first | refine eqA_int ?_ | refine eqA_iL ?_ | refine eqA_str ?_ | refine eqA_bl ?_ | refine eqA_bL ?_ | refine eqA_iT ?_
    refine ⟨_, rfl, ?_⟩
    first | refine tf (fun hif4 => ?_) (fun hif4 => ?_) | refine tfn (fun hif4 => ?_) (fun hif4 => ?_) | refine tb (fun hif4 => ?_) (fun hif4 => ?_)
    · skip
      refine ws_one ?_
      refine ws_set ns_l_case_3 ?_
      refine we_call (cl_l_row c X0 G0) rm (by decide) gl_l_case_l_row ?_
      refine wa_cons ?_
      refine we_nm nm_l_case_0 .h ?_
      refine wa_cons ?_
      refine we_bin d_plus ?_
      refine we_int ?_
      refine we_call (cl_l_take c X0 G0) rm (by decide) gl_l_case_l_take ?_
      refine wa_cons ?_
      refine we_nm nm_l_case_0 .h ?_
      refine wa_cons ?_
      refine we_int ?_
      refine wa_nil ?_
      refine ⟨rfl, ?_⟩
      refine ⟨_, _, _, _, _, _, rfl, by omega, by omega, (by first | assumption | exact Has.upd (by assumption) | exact .h | exact .t (by assumption) | exact .t (Has.upd (by assumption)) | exact .t .h | exact .t (.t .h)), fun r6 x6 c6 hr6 hs6 => ?_⟩
      first | refine plus_int ?_ | refine plus_iL (by (try simp only [List.length_append, List.length_cons, List.length_nil]); omega) ?_ | refine plus_iT (by omega) ?_ | refine plus_iL1 (by omega) ?_
      refine wa_nil ?_
      refine ⟨rfl, ?_⟩
      refine ⟨_, _, _, _, _, _, rfl, by omega, by omega, (by first | assumption | exact Has.upd (by assumption) | exact .h | exact .t (by assumption) | exact .t (Has.upd (by assumption)) | exact .t .h | exact .t (.t .h)), fun ns7 x7 c7 hl7 hb7 => ?_⟩
      refine ⟨_, (.t (.t (.t .h))), ?_⟩
      first | exact ⟨_, _, _, by omega, by omega, hb4, rfl, rfl⟩ | exact ⟨_, _, _, by omega, by omega, hb7, rfl, rfl⟩
    · skip
      refine ws_nil ?_
      first | exact ⟨_, _, _, by omega, by omega, hb4, rfl, rfl⟩ | exact ⟨_, _, _, by omega, by omega, hb7, rfl, rfl⟩
  rintro _ _ ⟨ms, x', c', g1, g12, gx0, rfl, rfl⟩
  have h1 : 1 ≤ ns2.length := by omega
  have h12 : ns2.length ≤ 12 := by omega
  have hx : ∀ y ∈ ns2, 0 ≤ y ∧ y ≤ 10 ^ 60 := fun y hy => by have := hb2 y hy; omega
  have gx : ∀ y ∈ ms, 0 ≤ y ∧ y ≤ 10 ^ 60 := fun y hy => by have := gx0 y hy; omega
  have hne : ns2 ≠ [] := fun e => by rw [e] at h1; exact absurd h1 (by decide)
  have gne : ms ≠ [] := fun e => by rw [e] at g1; exact absurd g1 (by decide)
  have h0 : ∀ y ∈ ns2, 0 ≤ y := fun y hy => (hx y hy).1
  have g0 : ∀ y ∈ ms, 0 ≤ y := fun y hy => (gx y hy).1
  refine ws_cons ?_
  refine ws_set ns_l_case_4 ?_
  refine we_call (cl_l_round c X0 G0) rm (by decide) gl_l_case_l_round ?_
  refine wa_cons ?_
  refine we_bty (b_list) ⟨gl_l_case_list, u_list c X0 G0⟩ rfl ?_
  refine wa_cons ?_
  refine we_nm nm_l_case_2 (.t (.t .h)) ?_
  refine wa_nil ?_
  first | refine list_lst ?_ | refine list_tup ?_ | refine list_l (.inr (.inl rfl)) ?_
  refine wa_nil ?_
  refine ⟨rfl, ?_⟩
  refine ⟨_, rfl, h1, h12, h0, ?_⟩
  refine ⟨_, (.t (.t (.t (.t .h)))), ?_⟩
  refine ws_cons ?_
  refine ws_set ns_l_case_5 ?_
  refine we_call (cl_l_round c X0 G0) rm (by decide) gl_l_case_l_round ?_
  refine wa_cons ?_
  refine we_bty (b_list) ⟨gl_l_case_list, u_list c X0 G0⟩ rfl ?_
  refine wa_cons ?_
  refine we_nm nm_l_case_3 (.t (.t (.t .h))) ?_
  refine wa_nil ?_
  first | refine list_lst ?_ | refine list_tup ?_ | refine list_l (.inr (.inl rfl)) ?_
  refine wa_nil ?_
  refine ⟨rfl, ?_⟩
  refine ⟨_, rfl, g1, g12, g0, ?_⟩
  refine ⟨_, (.t (.t (.t (.t (.t .h))))), ?_⟩
  refine ws_cons ?_
  refine ws_if ?_
  refine wt_of ?_
  refine ww_or ?_
  refine wt_not ?_
  refine wt_val ?_
  refine we_call (cl_l_has c X0 G0) rm (by decide) gl_l_case_l_has ?_
  refine wa_cons ?_
  refine we_nm nm_l_case_4 (.t (.t (.t (.t .h)))) ?_
  refine wa_cons ?_
  refine we_nm nm_l_case_2 (.t (.t .h)) ?_
  refine wa_nil ?_
  refine ⟨rfl, ?_⟩
  refine ⟨_, _, rfl, by first | omega | (rw [List.length_append]; omega), ?_⟩
  refine ⟨_, rfl, ?_⟩
  refine t_f (by first | rfl | simp) ?_
  refine ww_or ?_
  refine wt_not ?_
  refine wt_val ?_
  refine we_call (cl_l_answers c X0 G0) rm (by decide) gl_l_case_l_answers ?_
  refine wa_cons ?_
  refine we_nm nm_l_case_4 (.t (.t (.t (.t .h)))) ?_
  refine wa_cons ?_
  refine we_nm nm_l_case_2 (.t (.t .h)) ?_
  refine wa_cons ?_
  refine we_nm nm_l_case_0 .h ?_
  refine wa_nil ?_
  refine ⟨rfl, ?_⟩
  refine ⟨_, _, _, _, _, _, rfl, hne, h12, hx, (by first | assumption | exact Has.upd (by assumption) | exact .h | exact .t (by assumption) | exact .t (Has.upd (by assumption)) | exact .t .h | exact .t (.t .h)), fun x8 c8 => ?_⟩
  refine ⟨_, rfl, ?_⟩
  refine t_f (by first | rfl | simp) ?_
  refine ww_or1 ?_
  refine wt_not ?_
  refine wt_val ?_
  refine we_call (cl_l_answers c X0 G0) rm (by decide) gl_l_case_l_answers ?_
  refine wa_cons ?_
  refine we_nm nm_l_case_5 (.t (.t (.t (.t (.t .h))))) ?_
  refine wa_cons ?_
  refine we_nm nm_l_case_3 (.t (.t (.t .h))) ?_
  refine wa_cons ?_
  refine we_nm nm_l_case_0 .h ?_
  refine wa_nil ?_
  refine ⟨rfl, ?_⟩
  refine ⟨_, _, _, _, _, _, rfl, gne, g12, gx, (by first | assumption | exact Has.upd (by assumption) | exact .h | exact .t (by assumption) | exact .t (Has.upd (by assumption)) | exact .t .h | exact .t (.t .h)), fun x9 c9 => ?_⟩
  refine ⟨_, rfl, ?_⟩
  refine t_f (by first | rfl | simp) ?_
  refine ws_nil ?_
  refine ws_cons ?_
  refine ws_set ns_l_case_6 ?_
  refine we_prop (pr_Round_budgets c X0 G0) rm (by decide) ?_
  refine we_nm nm_l_case_4 (.t (.t (.t (.t .h)))) ?_
  refine ⟨rd_ins, ?_⟩
  refine ⟨rfl, ?_⟩
  refine ⟨_, rfl, fun b => ?_⟩
  refine ⟨_, (.t (.t (.t (.t (.t (.t .h)))))), ?_⟩
  refine ws_cons ?_
  refine ws_asg ?_
  refine we_bin d_plus ?_
  refine we_ix ix_d ?_
  refine we_nm nm_l_case_6 (.t (.t (.t (.t (.t (.t .h)))))) ?_
  refine we_int ?_
  first | refine ixd_own (by first | assumption | exact Has.upd (by assumption) | exact .h | exact .t (by assumption) | exact .t (Has.upd (by assumption)) | exact .t .h | exact .t (.t .h)) rfl ?_ | refine ixd_lst rfl ?_ | refine ixd_tup rfl ?_ | refine ix_iL (by omega) (by omega) ?_ | refine ix_iT (by omega) (by omega) ?_ | refine ix_iR (by omega) (by omega) ?_ | refine ix_iO (by first | assumption | exact Has.upd (by assumption) | exact .h | exact .t (by assumption) | exact .t (Has.upd (by assumption)) | exact .t .h | exact .t (.t .h)) (by omega) (by omega) ?_ | refine ix_iLn (by omega) (by omega) ?_
  refine we_int ?_
  first | refine plus_int ?_ | refine plus_iL (by (try simp only [List.length_append, List.length_cons, List.length_nil]); omega) ?_ | refine plus_iT (by omega) ?_ | refine plus_iL1 (by omega) ?_
  refine wg_sub ?_
  refine we_nm nm_l_case_6 (.t (.t (.t (.t (.t (.t .h)))))) ?_
  refine we_int ?_
  refine ⟨_, _, _, 0, _, rfl, rfl, .h, by unfold ixN; rw [if_pos (by decide), if_pos (by rw [List.length_map]; omega)]; rfl, ?_⟩
  rw [set_int]
  refine ws_cons ?_
  refine ws_expr ?_
  refine we_append ?_
  refine we_nm nm_l_case_6 (.t (.t (.t (.t (.t (.t .h)))))) ?_
  refine ⟨_, _, _, rfl, (by first | assumption | exact Has.upd (by assumption) | exact .h | exact .t (by assumption) | exact .t (Has.upd (by assumption)) | exact .t .h | exact .t (.t .h)), ?_⟩
  refine we_int ?_
  refine ⟨_, _, .h, by rw [List.length_map, List.length_set]; omega, ?_⟩
  rw [snoc_int]
  refine wss_frzL (i := 6) (L0 := []) (.t (.t (.t (.t (.t (.t .h)))))) (.t (.t (.t (.t (.t (.t .h)))))) rfl ?_
  have hrp : ∀ y ∈ ns2.set 0 (ns2.getD (Int.toNat 0) 0 + 1) ++ [7], y.natAbs < 10 ^ 60 := fun y hy => by
    rcases List.mem_append.mp hy with hy | hy
    · rcases List.mem_or_eq_of_mem_set hy with hy | hy
      · have := hb2 y hy; omega
      · have := hb2 _ (getD_mem (i := 0) (ns := ns2) (by omega))
        rw [hy]
        show (ns2.getD 0 0 + 1).natAbs < 10 ^ 60
        omega
    · rw [List.mem_singleton.mp hy]; decide
  have hrp2 : (ns2.set 0 (ns2.getD (Int.toNat 0) 0 + 1) ++ [7]).length ≤ 1000 := by rw [List.length_append, List.length_set]; show ns2.length + 1 ≤ 1000; omega
  refine ws_cons ?_
  refine ws_set ns_l_case_7 ?_
  refine we_blt (b_repr rm.gd rm.repU) ⟨gl_l_case_repr, u_repr c X0 G0⟩ rfl ?_
  refine wa_cons ?_
  refine we_nm nm_l_case_6 (.t (.t (.t (.t (.t (.t .h)))))) ?_
  refine wa_nil ?_
  refine repr_iL hrp hrp2 ?_
  refine ⟨_, (.t (.t (.t (.t (.t (.t (.t .h))))))), ?_⟩
  refine ws_cons ?_
  refine ws_if ?_
  refine wt_of ?_
  refine ww_or ?_
  refine wt_not ?_
  refine wt_val ?_
  refine we_call (cl_l_has c X0 G0) rm (by decide) gl_l_case_l_has ?_
  refine wa_cons ?_
  refine we_nm nm_l_case_4 (.t (.t (.t (.t .h)))) ?_
  refine wa_cons ?_
  refine we_nm nm_l_case_2 (.t (.t .h)) ?_
  refine wa_nil ?_
  refine ⟨rfl, ?_⟩
  refine ⟨_, _, rfl, by first | omega | (rw [List.length_append]; omega), ?_⟩
  refine ⟨_, rfl, ?_⟩
  refine t_f (by first | rfl | simp) ?_
  refine ww_or ?_
  refine wt_not ?_
  refine wt_val ?_
  refine we_call (cl_l_answers c X0 G0) rm (by decide) gl_l_case_l_answers ?_
  refine wa_cons ?_
  refine we_nm nm_l_case_4 (.t (.t (.t (.t .h)))) ?_
  refine wa_cons ?_
  refine we_nm nm_l_case_2 (.t (.t .h)) ?_
  refine wa_cons ?_
  refine we_nm nm_l_case_0 .h ?_
  refine wa_nil ?_
  refine ⟨rfl, ?_⟩
  refine ⟨_, _, _, _, _, _, rfl, hne, h12, hx, (by first | assumption | exact Has.upd (by assumption) | exact .h | exact .t (by assumption) | exact .t (Has.upd (by assumption)) | exact .t .h | exact .t (.t .h)), fun x10 c10 => ?_⟩
  refine ⟨_, rfl, ?_⟩
  refine t_f (by first | rfl | simp) ?_
  refine ww_or1 ?_
  refine wt_cmp (d_neA rm.eqU) ?_
  refine we_blt (b_repr rm.gd rm.repU) ⟨gl_l_case_repr, u_repr c X0 G0⟩ rfl ?_
  refine wa_cons ?_
  refine we_nm nm_l_case_6 (.t (.t (.t (.t (.t (.t .h)))))) ?_
  refine wa_nil ?_
  refine repr_iL hrp hrp2 ?_
  refine we_nm nm_l_case_7 (.t (.t (.t (.t (.t (.t (.t .h))))))) ?_
  first | refine neA_int ?_ | refine neA_iL ?_ | refine neA_str ?_ | refine neA_bl ?_ | refine neA_bL ?_ | refine neA_iT ?_
  refine ⟨_, rfl, ?_⟩
  refine t_f (by first | rfl | simp) ?_
  refine ws_nil ?_
  refine ws_cons ?_
  refine ws_if ?_
  refine wt_of ?_
  refine ww_or ?_
  refine wt_not ?_
  refine wt_val ?_
  refine we_call (cl_l_shifts c X0 G0) rm (by decide) gl_l_case_l_shifts ?_
  refine wa_cons ?_
  refine we_nm nm_l_case_4 (.t (.t (.t (.t .h)))) ?_
  refine wa_cons ?_
  refine we_nm nm_l_case_2 (.t (.t .h)) ?_
  refine wa_cons ?_
  refine we_nm nm_l_case_0 .h ?_
  refine wa_nil ?_
  refine ⟨rfl, ?_⟩
  refine ⟨_, _, _, _, _, _, rfl, hne, h12, hx, (by first | assumption | exact Has.upd (by assumption) | exact .h | exact .t (by assumption) | exact .t (Has.upd (by assumption)) | exact .t .h | exact .t (.t .h)), fun x11 c11 => ?_⟩
  refine ⟨_, rfl, ?_⟩
  refine t_f (by first | rfl | simp) ?_
  refine ww_or1 ?_
  refine wt_not ?_
  refine wt_val ?_
  refine we_call (cl_l_shifts c X0 G0) rm (by decide) gl_l_case_l_shifts ?_
  refine wa_cons ?_
  refine we_nm nm_l_case_5 (.t (.t (.t (.t (.t .h))))) ?_
  refine wa_cons ?_
  refine we_nm nm_l_case_3 (.t (.t (.t .h))) ?_
  refine wa_cons ?_
  refine we_nm nm_l_case_0 .h ?_
  refine wa_nil ?_
  refine ⟨rfl, ?_⟩
  refine ⟨_, _, _, _, _, _, rfl, gne, g12, gx, (by first | assumption | exact Has.upd (by assumption) | exact .h | exact .t (by assumption) | exact .t (Has.upd (by assumption)) | exact .t .h | exact .t (.t .h)), fun x12 c12 => ?_⟩
  refine ⟨_, rfl, ?_⟩
  refine t_f (by first | rfl | simp) ?_
  refine ws_nil ?_
  refine ws_cons ?_
  refine ws_if ?_
  refine wt_not ?_
  refine wt_val ?_
  refine we_call (cl_l_added c X0 G0) rm (by decide) gl_l_case_l_added ?_
  refine wa_cons ?_
  refine we_nm nm_l_case_4 (.t (.t (.t (.t .h)))) ?_
  refine wa_cons ?_
  refine we_nm nm_l_case_2 (.t (.t .h)) ?_
  refine wa_cons ?_
  refine we_nm nm_l_case_5 (.t (.t (.t (.t (.t .h))))) ?_
  refine wa_cons ?_
  refine we_nm nm_l_case_3 (.t (.t (.t .h))) ?_
  refine wa_cons ?_
  refine we_call (cl_l_take c X0 G0) rm (by decide) gl_l_case_l_take ?_
  refine wa_cons ?_
  refine we_nm nm_l_case_0 .h ?_
  refine wa_cons ?_
  refine we_nm nm_l_case_1 (.t .h) ?_
  refine wa_nil ?_
  refine ⟨rfl, ?_⟩
  refine ⟨_, _, _, _, _, _, rfl, by omega, by omega, (by first | assumption | exact Has.upd (by assumption) | exact .h | exact .t (by assumption) | exact .t (Has.upd (by assumption)) | exact .t .h | exact .t (.t .h)), fun r13 x13 c13 hr13 hs13 => ?_⟩
  refine wa_nil ?_
  refine ⟨rfl, ?_⟩
  refine ⟨_, _, _, rfl, h1, h12, h0, g1, g12, g0, ?_⟩
  refine ⟨_, rfl, ?_⟩
  refine t_f (by first | rfl | simp) ?_
  refine ws_nil ?_
  refine ws_cons ?_
  refine ws_if ?_
  refine wt_not ?_
  refine wt_val ?_
  refine we_call (cl_l_equal c X0 G0) rm (by decide) gl_l_case_l_equal ?_
  refine wa_cons ?_
  refine we_nm nm_l_case_4 (.t (.t (.t (.t .h)))) ?_
  refine wa_cons ?_
  refine we_nm nm_l_case_2 (.t (.t .h)) ?_
  refine wa_cons ?_
  refine we_nm nm_l_case_3 (.t (.t (.t .h))) ?_
  refine wa_cons ?_
  refine we_call (cl_l_take c X0 G0) rm (by decide) gl_l_case_l_take ?_
  refine wa_cons ?_
  refine we_nm nm_l_case_0 .h ?_
  refine wa_cons ?_
  refine we_nm nm_l_case_1 (.t .h) ?_
  refine wa_nil ?_
  refine ⟨rfl, ?_⟩
  refine ⟨_, _, _, _, _, _, rfl, by omega, by omega, (by first | assumption | exact Has.upd (by assumption) | exact .h | exact .t (by assumption) | exact .t (Has.upd (by assumption)) | exact .t .h | exact .t (.t .h)), fun r14 x14 c14 hr14 hs14 => ?_⟩
  refine wa_nil ?_
  refine ⟨rfl, ?_⟩
  refine ⟨_, _, _, rfl, h1, h12, h0, g1, g12, g0, by omega, by omega, ?_⟩
  refine ⟨_, rfl, ?_⟩
  refine t_f (by first | rfl | simp) ?_
  refine ws_nil ?_
  refine ws_cons ?_
  refine ws_set ns_l_case_8 ?_
  refine we_call (cl_l_number c X0 G0) rm (by decide) gl_l_case_l_number ?_
  refine wa_cons ?_
  refine we_nm nm_l_case_0 .h ?_
  refine wa_cons ?_
  refine we_bin d_pow ?_
  refine we_int ?_
  refine we_int ?_
  refine pow_lit (r := 1000000000000000000000000000000) ⟨by decide, by decide, by decide⟩ (by decide) ?_
  refine wa_nil ?_
  refine ⟨rfl, ?_⟩
  refine ⟨_, _, _, _, _, _, rfl, by omega, by omega, (by first | assumption | exact Has.upd (by assumption) | exact .h | exact .t (by assumption) | exact .t (Has.upd (by assumption)) | exact .t .h | exact .t (.t .h)), fun r15 x15 c15 hr15 hs15 => ?_⟩
  refine ⟨_, (.t (.t (.t (.t (.t (.t (.t (.t .h)))))))), ?_⟩
  refine ws_cons ?_
  refine ws_set ns_l_case_9 ?_
  refine we_static (st_Round_constant c X0 G0) rm (by decide) ?_
  refine we_glo gl_l_case_Round (g_Round c X0 G0) ?_
  refine ⟨rfl, ?_⟩
  refine wa_cons ?_
  refine we_nm nm_l_case_8 (.t (.t (.t (.t (.t (.t (.t (.t .h)))))))) ?_
  refine wa_nil ?_
  refine ⟨rfl, ?_⟩
  refine ⟨_, rfl, by omega, ?_⟩
  refine ⟨_, (.t (.t (.t (.t (.t (.t (.t (.t (.t .h))))))))), ?_⟩
  refine ws_cons ?_
  refine ws_if ?_
  refine wt_of ?_
  refine ww_or ?_
  refine wt_not ?_
  refine wt_val ?_
  refine we_call (cl_l_has c X0 G0) rm (by decide) gl_l_case_l_has ?_
  refine wa_cons ?_
  refine we_nm nm_l_case_9 (.t (.t (.t (.t (.t (.t (.t (.t (.t .h))))))))) ?_
  refine wa_cons ?_
  refine we_lst ?_
  refine wa_cons ?_
  refine we_nm nm_l_case_8 (.t (.t (.t (.t (.t (.t (.t (.t .h)))))))) ?_
  refine wa_nil ?_
  refine ⟨by first | decide | simp, ?_⟩
  refine wa_nil ?_
  refine ⟨rfl, ?_⟩
  refine ⟨_, [_], rfl, by simp, ?_⟩
  refine ⟨_, rfl, ?_⟩
  refine t_f (by first | rfl | simp) ?_
  refine ww_or ?_
  refine wt_not ?_
  refine wt_cmp (d_own (sx_Round_Deq c X0 G0) rm (by decide)) ?_
  refine we_nm nm_l_case_9 (.t (.t (.t (.t (.t (.t (.t (.t (.t .h))))))))) ?_
  refine we_frzI ?_
  refine we_make (mk_Round c X0 G0) rm (by decide) gl_l_case_Round ?_
  refine wa_cons ?_
  refine we_nm nm_l_case_8 (.t (.t (.t (.t (.t (.t (.t (.t .h)))))))) ?_
  refine wa_nil ?_
  intro a
  refine ⟨by simp, by simp, a, [_], _, rfl, by simp, by simp, fun y hy => by rw [List.mem_singleton.mp hy]; omega, .h, rfl, _, _, _, _, _, rfl, rfl, ?_⟩
  refine ⟨_, rd_ins, rd_ins, nf_Round c, rfl, _, _, rfl, ?_⟩
  refine ⟨_, rfl, ?_⟩
  refine t_f (by first | rfl | simp) ?_
  refine ww_or1 ?_
  refine wt_not ?_
  refine wt_val ?_
  refine we_call (cl_l_answers c X0 G0) rm (by decide) gl_l_case_l_answers ?_
  refine wa_cons ?_
  refine we_nm nm_l_case_9 (.t (.t (.t (.t (.t (.t (.t (.t (.t .h))))))))) ?_
  refine wa_cons ?_
  refine we_lst ?_
  refine wa_cons ?_
  refine we_nm nm_l_case_8 (.t (.t (.t (.t (.t (.t (.t (.t .h)))))))) ?_
  refine wa_nil ?_
  refine ⟨by first | decide | simp, ?_⟩
  refine wa_cons ?_
  refine we_nm nm_l_case_0 .h ?_
  refine wa_nil ?_
  refine ⟨rfl, ?_⟩
  refine ⟨_, _, _, _, [_], _, rfl, by simp, by simp, fun y hy => by rw [List.mem_singleton.mp hy]; omega, (by first | assumption | exact Has.upd (by assumption) | exact .h | exact .t (by assumption) | exact .t (Has.upd (by assumption)) | exact .t .h | exact .t (.t .h)), fun x16 c16 => ?_⟩
  refine ⟨_, rfl, ?_⟩
  refine t_f (by first | rfl | simp) ?_
  refine ws_nil ?_
  refine ws_one ?_
  refine ws_ret ?_
  refine we_and ?_
  refine we_call (cl_l_answers c X0 G0) rm (by decide) gl_l_case_l_answers ?_
  refine wa_cons ?_
  refine we_nm nm_l_case_5 (.t (.t (.t (.t (.t .h))))) ?_
  refine wa_cons ?_
  refine we_nm nm_l_case_3 (.t (.t (.t .h))) ?_
  refine wa_cons ?_
  refine we_nm nm_l_case_0 .h ?_
  refine wa_nil ?_
  refine ⟨rfl, ?_⟩
  refine ⟨_, _, _, _, _, _, rfl, gne, g12, gx, (by first | assumption | exact Has.upd (by assumption) | exact .h | exact .t (by assumption) | exact .t (Has.upd (by assumption)) | exact .t .h | exact .t (.t .h)), fun x17 c17 => ?_⟩
  refine ⟨_, rfl, ?_⟩
  refine t_t rfl ?_
  refine we_one ?_
  refine we_call (cl_l_answers c X0 G0) rm (by decide) gl_l_case_l_answers ?_
  refine wa_cons ?_
  refine we_nm nm_l_case_4 (.t (.t (.t (.t .h)))) ?_
  refine wa_cons ?_
  refine we_nm nm_l_case_2 (.t (.t .h)) ?_
  refine wa_cons ?_
  refine we_nm nm_l_case_0 .h ?_
  refine wa_nil ?_
  refine ⟨rfl, ?_⟩
  refine ⟨_, _, _, _, _, _, rfl, hne, h12, hx, (by first | assumption | exact Has.upd (by assumption) | exact .h | exact .t (by assumption) | exact .t (Has.upd (by assumption)) | exact .t .h | exact .t (.t .h)), fun x18 c18 => ?_⟩
  exact hK _ _
theorem fb_l_case : ∃ fd, FnB P w K mg base 11 (f_l_case.ad K) fd ["_law_bag_here"] (sp_l_case K) ∧ FnG P w K mg base 11 (f_l_case.ad K) (fun ds L Ex Kk => ds.length = 1 ∧ sp_l_case K ds L Ex Kk) ∧ PySem.W.keepIn K (.ref (f_l_case.ad K)) = true := by
  obtain ⟨fd, Fd⟩ := c.dfn 27 (t := f_l_case) rfl
  have B := fn_body (P := P) (w := w) (mg := mg) (base := base) (sp := sp_l_case K) (k := 10) Fd sc_l_case (fun cdv A outer s H E rm ds L Ex Kk hl h => b_l_case c X0 G0 rm h)
  have bN : Binds K fd ["_law_bag_here"] [] := FunD.bindsN Fd fun _ _ _ _ _ _ us hl => match us, hl with | [_], _ => rfl
  exact ⟨fd, B, FnB.pos0 B bN, Fd.kp⟩
theorem fg_l_case : FnG P w K mg base 11 (f_l_case.ad K) (fun ds L Ex Kk => ds.length = 1 ∧ sp_l_case K ds L Ex Kk) := by
  obtain ⟨fd, _, z, _⟩ := fb_l_case c X0 G0
  exact z
theorem cl_l_case : Cl P w K mg base 11 "_law_case" (fun ds L Ex Kk => ds.length = 1 ∧ sp_l_case K ds L Ex Kk) := by
  obtain ⟨fd, _, z, kp⟩ := fb_l_case c X0 G0
  exact ⟨⟨_, z, g_l_case c X0 G0, kp⟩, rfl⟩
end
/-! ### law -/
theorem sc_law : FnScope ["_law_script", "_law_k"] ["_law_script"] (defScope s_law) := ⟨rfl, rfl, rfl, by decide +kernel, rfl, by decide +kernel, by decide +kernel⟩
abbrev X_law (P : Program) (w : World) (K : PySem.W.Frag) (mg : Str → Option Value) (base : Heap) (f : Addr) (cdv : Value) (A : Around) (outer : List Env) (s : Shared) (H : Hp) (E : XK) : Cx := cxD P w K mg base ["_law_script", "_law_k"] "law" (defScope s_law) f cdv A outer s H E
def sp_law (K : PySem.W.Frag) : TSp := fun ds L Ex Kk => ∃ (ns : List Int), ds = [.rdl (ns.map Dt.int)] ∧ ∀ L', Kk (.bl true) L'
section
variable {P : Program} {w : World} {K : PySem.W.Frag} {mg : Str → Option Value} {base : Heap} {f : Addr} {cdv : Value} {A : Around} {outer : List Env} {s : Shared} {H : Hp} {E : XK} {h : Heap}
theorem nm_law_0 : Nm (X_law P w K mg base f cdv A outer s H E) "_law_script" 0 := ⟨rfl, by first | exact .inl rfl | exact .inr (.inl rfl) | exact .inr (.inr rfl), rfl, rfl⟩
theorem nm_law_1 : Nm (X_law P w K mg base f cdv A outer s H E) "_law_k" 1 := ⟨rfl, by first | exact .inl rfl | exact .inr (.inl rfl) | exact .inr (.inr rfl), rfl, rfl⟩
theorem ns_law_1 : Ns (X_law P w K mg base f cdv A outer s H E) "_law_k" 1 := ⟨sc_law.nd, rfl, by first | exact .inl rfl | exact .inr rfl, .inl rfl⟩
theorem gl_law_Round : Gl (X_law P w K mg base f cdv A outer s H E) "Round" := rfl
theorem gl_law_l_bag : Gl (X_law P w K mg base f cdv A outer s H E) "_law_bag" := rfl
theorem gl_law_l_case : Gl (X_law P w K mg base f cdv A outer s H E) "_law_case" := rfl
theorem gl_law_l_is_number : Gl (X_law P w K mg base f cdv A outer s H E) "_law_is_number" := rfl
theorem gl_law_len : Gl (X_law P w K mg base f cdv A outer s H E) "len" := rfl
theorem gl_law_max : Gl (X_law P w K mg base f cdv A outer s H E) "max" := rfl
theorem gl_law_min : Gl (X_law P w K mg base f cdv A outer s H E) "min" := rfl
theorem gl_law_range : Gl (X_law P w K mg base f cdv A outer s H E) "range" := rfl
end
section
variable {P : Program} {w : World} {K : PySem.W.Frag} {mg : Str → Option Value} {base : Heap} {f : Addr} {cdv : Value} {A : Around} {outer : List Env} {s : Shared} {H : Hp} {E : XK} {h : Heap} (c : SaysM fa fn K) (X0 : K.In h) (G0 : h.Ns mainGlobals mg)
include c X0 G0
theorem b_law (rm : Rm 11 (X_law P w K mg base f cdv A outer s H E).A) {ds : List Dt} {L : Cells} {Ex : XD} {Kk : KD} (h : sp_law K ds L Ex Kk) : WSs (X_law P w K mg base f cdv A outer s H E) (defBody s_law) (gIn ["_law_script", "_law_k"] ds) L Ex { nx := fun _ L' => Kk .non L', rt := Kk } := by
  obtain ⟨ns, rfl, hK⟩ := h
  change WSs _ _ [some _, none] _ _ _
  refine ws_cons ?_
  refine ws_if ?_
  refine wt_of ?_
  refine ww_or ?_
  refine wt_not ?_
  refine wt_val ?_
  refine we_call (cl_l_is_number c X0 G0) rm (by decide) gl_law_l_is_number ?_
  refine wa_cons ?_
  refine we_cval (v := .int 12) ?_ (rd_Round c) (cv_Round_MOST c)
  refine we_glo gl_law_Round (g_Round c X0 G0) ?_
  refine ⟨rfl, ?_⟩
  refine wa_nil ?_
  refine ⟨rfl, ?_⟩
  refine ⟨_, rfl, ?_⟩
  refine ⟨_, rfl, ?_⟩
  refine t_f (by first | rfl | simp) ?_
  refine ww_or1 ?_
  refine wt_cmp (d_neA rm.eqU) ?_
  refine we_cval (v := .int 12) ?_ (rd_Round c) (cv_Round_MOST c)
  refine we_glo gl_law_Round (g_Round c X0 G0) ?_
  refine ⟨rfl, ?_⟩
  refine we_int ?_
  first | refine neA_int ?_ | refine neA_iL ?_ | refine neA_str ?_ | refine neA_bl ?_ | refine neA_bL ?_ | refine neA_iT ?_
  refine ⟨_, rfl, ?_⟩
  refine t_f (by first | rfl | simp) ?_
  refine ws_nil ?_
  refine ws_cons ?_
  refine ws_for rfl passOwn ?_
  refine wi_range1 ⟨gl_law_range, u_range c X0 G0⟩ ?_
  refine wa_cons ?_
  refine we_blt (b_max2 rfl) ⟨gl_law_max, u_max c X0 G0⟩ rfl ?_
  refine wa_cons ?_
  refine we_int ?_
  refine wa_cons ?_
  refine we_blt (b_min2 rfl) ⟨gl_law_min, u_min c X0 G0⟩ rfl ?_
  refine wa_cons ?_
  refine we_int ?_
  refine wa_cons ?_
  refine we_blt (b_len) ⟨gl_law_len, u_len c X0 G0⟩ rfl ?_
  refine wa_cons ?_
  refine we_nm nm_law_0 .h ?_
  refine wa_nil ?_
  first | refine len_iL ?_ | refine len_iT ?_ | refine len_iR ?_ | refine len_iO (by first | assumption | exact Has.upd (by assumption) | exact .h | exact .t (by assumption) | exact .t (Has.upd (by assumption)) | exact .t .h | exact .t (.t .h)) ?_ | refine len_lst ?_ | refine len_tup ?_
  refine wa_nil ?_
  refine i2 trivial ?_
  refine wa_nil ?_
  refine i2 trivial ?_
  refine wa_nil ?_
  refine ⟨_, rfl, ⟨by first | omega | (split <;> omega) | (split <;> split <;> omega), by first | omega | (split <;> omega) | (split <;> split <;> omega)⟩, ?_⟩
  refine ⟨fun i Γ1 L1 => (∃ o, Γ1 = [some (.rdl (ns.map Dt.int)), o]), ⟨_, rfl⟩, ?_, ?_⟩
  · skip
    rintro i d Γ1 L1 hd ⟨o, rfl⟩
    obtain ⟨hi, rfl⟩ := rngD_at hd
    refine wg_name ns_law_1 (.t .h) ?_
    refine ws_one ?_
    refine ws_if ?_
    refine wt_not ?_
    refine wt_val ?_
    refine we_call (cl_l_case c X0 G0) rm (by decide) gl_law_l_case ?_
    refine wa_cons ?_
    refine we_call (cl_l_bag c X0 G0) rm (by decide) gl_law_l_bag ?_
    refine wa_cons ?_
    refine we_nm nm_law_0 .h ?_
    refine wa_cons ?_
    refine we_nm nm_law_1 (.t .h) ?_
    refine wa_nil ?_
    refine ⟨rfl, ?_⟩
    refine ⟨_, _, rfl, by omega, fun a x c0 sd => ?_⟩
    refine wa_nil ?_
    refine ⟨rfl, ?_⟩
    refine ⟨_, _, _, _, _, rfl, .h, fun x1 c1 => ?_⟩
    refine ⟨_, rfl, ?_⟩
    refine t_f (by first | rfl | simp) ?_
    refine ws_nil ?_
    exact ⟨_, rfl⟩
  rintro Γ1 L1 ⟨o, rfl⟩
  refine ws_one ?_
  refine ws_ret ?_
  refine we_bl ?_
  exact hK _
theorem fb_law : ∃ fd, FnB P w K mg base 12 (f_law.ad K) fd ["_law_script"] (sp_law K) ∧ FnG P w K mg base 12 (f_law.ad K) (fun ds L Ex Kk => ds.length = 1 ∧ sp_law K ds L Ex Kk) ∧ PySem.W.keepIn K (.ref (f_law.ad K)) = true := by
  obtain ⟨fd, Fd⟩ := c.dfn 28 (t := f_law) rfl
  have B := fn_body (P := P) (w := w) (mg := mg) (base := base) (sp := sp_law K) (k := 11) Fd sc_law (fun cdv A outer s H E rm ds L Ex Kk hl h => b_law c X0 G0 rm h)
  have bN : Binds K fd ["_law_script"] [] := FunD.bindsN Fd fun _ _ _ _ _ _ us hl => match us, hl with | [_], _ => rfl
  exact ⟨fd, B, FnB.pos0 B bN, Fd.kp⟩
theorem fg_law : FnG P w K mg base 12 (f_law.ad K) (fun ds L Ex Kk => ds.length = 1 ∧ sp_law K ds L Ex Kk) := by
  obtain ⟨fd, _, z, _⟩ := fb_law c X0 G0
  exact z
theorem cl_law : Cl P w K mg base 12 "law" (fun ds L Ex Kk => ds.length = 1 ∧ sp_law K ds L Ex Kk) := by
  obtain ⟨fd, _, z, kp⟩ := fb_law c X0 G0
  exact ⟨⟨_, z, g_law c X0 G0, kp⟩, rfl⟩
end
def loose0 : List Str := ["_wall", "__name__", "StoreError", "InvalidInput", "at_least", "whole_number", "Round", "_law_is_number", "_law_bag", "_law_take", "_law_number", "_law_row", "_law_round", "_law_sum", "_law_moved", "_law_has", "_law_count", "_law_answers", "_law_shifts", "_law_near", "_law_equal", "_law_added", "_law_case"]
abbrev loose : List Str := ["_wall", "__name__", "StoreError", "InvalidInput", "at_least", "whole_number", "Round", "_law_is_number", "_law_bag", "_law_take", "_law_number", "_law_row", "_law_round", "_law_sum", "_law_moved", "_law_has", "_law_count", "_law_answers", "_law_shifts", "_law_near", "_law_equal", "_law_added", "_law_case"]
abbrev R : PySem.W.OpenRow := PySem.W.OpenLaw.row PySem.Challenge.rw_carrylog_k00_round_sums
abbrev hk : PySem.W.Hook := hookM 6 fa fn
def ob (s : PySem.W.SharedT) : ObM := obG 6 fa fn (HandSHeadRun.getT s)
theorem ob_eq (s : PySem.W.SharedT) : ob s = hk.obs s.abs := obG_eq (HandSHeadRun.getT_eq s)
theorem run (w : World) : HandSHeadRun.RunEq R (PySem.W.view R.prog [26]) hk ob 9000 loose w := by
  intro os
  kernel_rfl
theorem law_end {P : Program} {w : World} {K : PySem.W.Frag} {mg : Str → Option Value} {h : Heap} {f : Addr} (c : SaysM fa fn K) (X0 : K.In h) (G0 : h.Ns mainGlobals mg) (hmg : mg "law" = some (.ref f)) :
    ∃ fd : FuncData, (∀ (s : Shared) (u : Value), BindsTo s fd ⟨[u], []⟩ [("_law_script", u)]) ∧ ∀ base : Heap, FnB P w K mg base 12 f fd ["_law_script"] (sp_law K) := by
  obtain ⟨fd, Fd⟩ := c.dfn 28 (t := f_law) rfl
  have e := hmg.symm.trans (g_law c X0 G0)
  cases e
  exact ⟨fd, fun s u => FunD.bindsA (ps := ["_law_script"]) Fd (fun _ _ _ _ _ _ us hl => match us, hl with | [_], _ => rfl) s [u] rfl, fun base => fn_body (sp := sp_law K) (k := 11) Fd sc_law (fun cdv A outer s H E rm ds L Ex Kk hl h => b_law c X0 G0 rm h)⟩
end K00
open PySem PySem.W PySem.Calls PyProof.Rows
theorem PySem.Challenge.cw_carrylog_k00_round_sums_holds : PySem.Challenge.rw_carrylog_k00_round_sums.Holds := by
  w_on; o_law
  refine HandSHeadRun.head_any (r := OpenLaw.row PySem.Challenge.rw_carrylog_k00_round_sums) (q := view (OpenLaw.row PySem.Challenge.rw_carrylog_k00_round_sums).prog [26]) (H := K00.hk) (ob := K00.ob) (M := 9000) (loose := K00.loose) (d := HandSHeadRun.topDef (OpenLaw.row PySem.Challenge.rw_carrylog_k00_round_sums).prog 26) (kwd := []) K00.ob_eq
    (by kernel_rfl) (fun s => by kernel_rfl) K00.run (by kernel_rfl) (by kernel_rfl) (by kernel_rfl) (by rfl) (by first | assumption | decide +kernel) (by decide +kernel) ⟨rfl, rfl, rfl, rfl, rfl, by decide +kernel⟩ ?hw ?hc
  case hw => w_witness2
  case hc =>
    refine L3.walk_G (n := 63) (k := 12) (x := "_law_script") rfl (by decide) (by kernel_rfl) (by decide) ?F
    intro w K mg f h c X0 G0 hmg0
    have hmg : mg ("law" : PySem.Str) = some (.ref f) := by
      have e : (HandSHeadRun.topDef (OpenLaw.row PySem.Challenge.rw_carrylog_k00_round_sums).prog 26).name = ("law" : PySem.Str) := by kernel_rfl
      rw [← e]
      exact hmg0
    obtain ⟨fd, hb, hF⟩ := K00.law_end (P := (PySem.Challenge.rw_carrylog_k00_round_sums).prog) (w := w) c X0 G0 hmg
    exact ⟨fd, K00.sp_law K, hb, fun ns _ => ⟨ns, rfl, fun _ => rfl⟩, hF⟩
