import PyProof.Rows.All
import Wide.All
import OpenK.AllK
import Wide.FinOn
import HandS.CallSlots
import HandS.Conv
import HandS.Deep
import HandS.Defaults
import HandS.ExcField
import HandS.ExcInit
import HandS.ExcIs
import HandS.ForExc
import HandS.ForMost
import HandS.IsInst
import HandS.TupAny
import KE.KExcIs
import PySem.Challenge.RW_tanglehouse_k61_whole_any_text_of_a_part
set_option Elab.async false
set_option linter.all false
set_option maxRecDepth 100000
set_option maxHeartbeats 4000000
/-! Symbolic states over the readings: data (Dat), owned objects (M), slots (L). -/
namespace Sy
open PySem PySem.Spec PyProof.Rows L2

/-- a value by what it tells; own p: an object at p of which M tells -/
inductive Dat where
  | non | bl (b : Bool) | int (i : Int) | str (x : Str)
  | lst (xs : List Dat) | tup (xs : List Dat)
  | dK (kvs : List (Key × Dat)) | dT (kvs : List (List Key × Dat))
  | ins (C : Addr) (fs : List (Str × Dat))
  | ty (n : String) | own (p : Addr)
  | exn (a C : Addr) (d : Option Addr) (fs : List (Str × Dat))

abbrev St := L2.St
abbrev MS := List (Addr × Dat)
abbrev LS := List (Option Dat)

section
variable (K : PySem.W.Frag)
mutual
inductive Rep (G : Hp) : V → Dat → Prop
  | non : Rep G .non .non
  | bl (b : Bool) : Rep G (.bl b) (.bl b)
  | int (i : Int) : Rep G (.int i) (.int i)
  | str (x : Str) : Rep G (.str x) (.str x)
  | ty (n : String) : Rep G (.ty n) (.ty n)
  | lst {a : Addr} {xs : List V} {ds : List Dat} : SqL K G a xs → RepL G xs ds → Rep G (.ref a) (.lst ds)
  | tup {a : Addr} {xs : List V} {ds : List Dat} : SqT K G a xs → RepL G xs ds → Rep G (.ref a) (.tup ds)
  | dK {a : Addr} {xs : List (Key × V)} {ds : List (Key × Dat)} : Rd G a (.dK xs) → RepP G xs ds → Rep G (.ref a) (.dK ds)
  | dT {a : Addr} {xs : List (List Key × V)} {ds : List (List Key × Dat)} : Rd G a (.dT xs) → RepP G xs ds → Rep G (.ref a) (.dT ds)
  | ins {a C dx : Addr} {xs : List (Str × V)} {ds : List (Str × Dat)} : G a = some (.ins C dx xs) → RepP G xs ds → Rep G (.ref a) (.ins C ds)
  | own (p : Addr) : Rep G (.ref p) (.own p)
  | exn0 (a C : Addr) (d : Option Addr) : Rep G (.ref a) (.exn a C d [])
  | exn {a C dd : Addr} {xs : List (Str × V)} {ds : List (Str × Dat)} : G dd = some (.xd xs) → RepP G xs ds → Rep G (.ref a) (.exn a C (some dd) ds)
inductive RepL (G : Hp) : List V → List Dat → Prop
  | nil : RepL G [] []
  | cons {v : V} {vs : List V} {d : Dat} {ds : List Dat} : Rep G v d → RepL G vs ds → RepL G (v :: vs) (d :: ds)
inductive RepP (G : Hp) : {κ : Type} → List (κ × V) → List (κ × Dat) → Prop
  | nil {κ : Type} : RepP G (κ := κ) [] []
  | cons {κ : Type} {k : κ} {v : V} {vs : List (κ × V)} {d : Dat} {ds : List (κ × Dat)} : Rep G v d → RepP G vs ds → RepP G ((k, v) :: vs) ((k, d) :: ds)
end
end

/-- what an owned object holds -/
inductive RepO (K : PySem.W.Frag) (G : Hp) : HO → Dat → Prop
  | lst {xs : List V} {ds : List Dat} : RepL K G xs ds → RepO K G (.lst xs) (.lst ds)
  | dK {xs : List (Key × V)} {ds : List (Key × Dat)} : RepP K G xs ds → RepO K G (.dK xs) (.dK ds)
  | dT {xs : List (List Key × V)} {ds : List (List Key × Dat)} : RepP K G xs ds → RepO K G (.dT xs) (.dT ds)
  | ins {C dx : Addr} {xs : List (Str × V)} {ds : List (Str × Dat)} : RepP K G xs ds → RepO K G (.ins C dx xs) (.ins C ds)

section
variable {K : PySem.W.Frag} {G G' H H' : Hp}

theorem Same.rd (e : Same G G') {a : Addr} {u : HO} (h : Rd G a u) : Rd G' a u := by
  rcases h with h | ⟨o, h⟩
  · exact .inl (e _ _ h)
  · exact .inr ⟨o, e _ _ h⟩
theorem Same.sqL (e : Same G G') {a : Addr} {xs : List V} (h : SqL K G a xs) : SqL K G' a xs := by
  rcases h with h | h
  · exact .inl (Same.rd e h)
  · exact .inr h
theorem Same.sqT (e : Same G G') {a : Addr} {xs : List V} (h : SqT K G a xs) : SqT K G' a xs := by
  rcases h with h | h
  · exact .inl (Same.rd e h)
  · exact .inr h
theorem Same.new {p : Addr} {o : HO} (h : G p = none) : Same G (upd G p o) := fun b x e => by
  rw [upd_ne (ne_of_none e h)]
  exact e

mutual
theorem Rep.mono (e : Same G G') : ∀ {v : V} {d : Dat}, Rep K G v d → Rep K G' v d
  | _, _, .non => .non
  | _, _, .bl b => .bl b
  | _, _, .int i => .int i
  | _, _, .str x => .str x
  | _, _, .ty n => .ty n
  | _, _, .lst h r => .lst (Same.sqL e h) (RepL.mono e r)
  | _, _, .tup h r => .tup (Same.sqT e h) (RepL.mono e r)
  | _, _, .dK h r => .dK (Same.rd e h) (RepP.mono e r)
  | _, _, .dT h r => .dT (Same.rd e h) (RepP.mono e r)
  | _, _, .ins h r => .ins (e _ _ h) (RepP.mono e r)
  | _, _, .own p => .own p
  | _, _, .exn0 a C d => .exn0 a C d
  | _, _, .exn h r => .exn (e _ _ h) (RepP.mono e r)
theorem RepL.mono (e : Same G G') : ∀ {vs : List V} {ds : List Dat}, RepL K G vs ds → RepL K G' vs ds
  | _, _, .nil => .nil
  | _, _, .cons h r => .cons (Rep.mono e h) (RepL.mono e r)
theorem RepP.mono (e : Same G G') : ∀ {κ : Type} {vs : List (κ × V)} {ds : List (κ × Dat)}, RepP K G vs ds → RepP K G' vs ds
  | _, _, _, .nil => .nil
  | _, _, _, .cons h r => .cons (Rep.mono e h) (RepP.mono e r)
end
theorem RepO.mono (e : Same G G') {o : HO} {d : Dat} (h : RepO K G o d) : RepO K G' o d := by
  cases h with
  | lst r => exact .lst (r.mono e)
  | dK r => exact .dK (r.mono e)
  | dT r => exact .dT (r.mono e)
  | ins r => exact .ins (r.mono e)
/-- an owned object, frozen -/
theorem RepO.rep {o : HO} {d : Dat} {p : Addr} (h : RepO K G o d) (e : G p = none) : Rep K (upd G p o) (.ref p) d := by
  cases h with
  | lst r => exact .lst (SqL.of upd_same) (r.mono (Same.new e))
  | dK r => exact .dK (.inl upd_same) (r.mono (Same.new e))
  | dT r => exact .dT (.inl upd_same) (r.mono (Same.new e))
  | ins r => exact .ins upd_same (r.mono (Same.new e))

theorem RepL.length : ∀ {vs : List V} {ds : List Dat}, RepL K G vs ds → vs.length = ds.length
  | _, _, .nil => rfl
  | _, _, .cons _ r => congrArg Nat.succ (RepL.length r)
theorem RepL.append : ∀ {vs ws : List V} {ds es : List Dat}, RepL K G vs ds → RepL K G ws es → RepL K G (vs ++ ws) (ds ++ es)
  | _, _, _, _, .nil, s => s
  | _, _, _, _, .cons h r, s => .cons h (RepL.append r s)
theorem RepL.snoc {vs : List V} {v : V} {ds : List Dat} {d : Dat} (h : RepL K G vs ds) (r : Rep K G v d) : RepL K G (vs ++ [v]) (ds ++ [d]) := h.append (.cons r .nil)
theorem RepL.get : ∀ {vs : List V} {ds : List Dat} {i : Nat} {d : Dat}, RepL K G vs ds → ds[i]? = some d → ∃ v, vs[i]? = some v ∧ Rep K G v d
  | _, _, _, _, .nil, e => by simp at e
  | _, _, 0, _, .cons h _, e => by
    simp at e
    subst e
    exact ⟨_, rfl, h⟩
  | _, _, i + 1, d, .cons _ r, e => by
    obtain ⟨v, h1, h2⟩ := RepL.get (i := i) (d := d) r (by simpa using e)
    exact ⟨v, by simpa using h1, h2⟩
theorem RepL.getV : ∀ {vs : List V} {ds : List Dat} {i : Nat} {v : V}, RepL K G vs ds → vs[i]? = some v → ∃ d, ds[i]? = some d ∧ Rep K G v d
  | _, _, _, _, .nil, e => by simp at e
  | _, _, 0, _, .cons h _, e => by
    simp at e
    subst e
    exact ⟨_, rfl, h⟩
  | _, _, i + 1, v, .cons _ r, e => by
    obtain ⟨d, h1, h2⟩ := RepL.getV (i := i) (v := v) r (by simpa using e)
    exact ⟨d, by simpa using h1, h2⟩
theorem RepL.drop : ∀ {vs : List V} {ds : List Dat} (n : Nat), RepL K G vs ds → RepL K G (vs.drop n) (ds.drop n)
  | _, _, 0, r => r
  | _, _, _ + 1, .nil => .nil
  | _, _, n + 1, .cons _ t => RepL.drop n t
theorem RepL.take : ∀ {vs : List V} {ds : List Dat} (n : Nat), RepL K G vs ds → RepL K G (vs.take n) (ds.take n)
  | _, _, 0, _ => .nil
  | _, _, _ + 1, .nil => .nil
  | _, _, n + 1, .cons r t => .cons r (RepL.take n t)
theorem RepL.set : ∀ {vs : List V} {ds : List Dat} {v : V} {d : Dat} (n : Nat), Rep K G v d → RepL K G vs ds → RepL K G (vs.set n v) (ds.set n d)
  | _, _, _, _, _, _, .nil => .nil
  | _, _, _, _, 0, q, .cons _ t => .cons q t
  | _, _, _, _, n + 1, q, .cons r t => .cons r (RepL.set n q t)
theorem RepL.eraseIdx : ∀ {vs : List V} {ds : List Dat} (n : Nat), RepL K G vs ds → RepL K G (vs.eraseIdx n) (ds.eraseIdx n)
  | _, _, _, .nil => .nil
  | _, _, 0, .cons _ t => t
  | _, _, n + 1, .cons r t => .cons r (RepL.eraseIdx n t)
theorem RepL.reverse : ∀ {vs : List V} {ds : List Dat}, RepL K G vs ds → RepL K G vs.reverse ds.reverse
  | _, _, .nil => .nil
  | _, _, .cons r t => by
    rw [List.reverse_cons, List.reverse_cons]
    exact (RepL.reverse t).snoc r
theorem RepL.ints : ∀ {vs : List V} {ns : List Int}, RepL K G vs (ns.map Dat.int) → vs = ns.map V.int
  | _, [], h => by cases h; rfl
  | _, n :: ns, h => by
    cases h with
    | cons h r => cases h; rw [RepL.ints r]; rfl
theorem RepL.strs : ∀ {vs : List V} {ns : List Str}, RepL K G vs (ns.map Dat.str) → vs = ns.map V.str
  | _, [], h => by cases h; rfl
  | _, n :: ns, h => by
    cases h with
    | cons h r => cases h; rw [RepL.strs r]; rfl
theorem RepL.of_ints : ∀ ns : List Int, RepL K G (ns.map V.int) (ns.map Dat.int)
  | [] => .nil
  | n :: ns => .cons (.int n) (RepL.of_ints ns)
theorem RepL.of_strs : ∀ ns : List Str, RepL K G (ns.map V.str) (ns.map Dat.str)
  | [] => .nil
  | n :: ns => .cons (.str n) (RepL.of_strs ns)

/-! ### the state -/
structure Own (K : PySem.W.Frag) (H G : Hp) (M : MS) : Prop where
  same : Same G H
  at_ : ∀ q ∈ M, G q.1 = none ∧ ∃ o, H q.1 = some o ∧ RepO K G o q.2
  nd : (M.map (·.1)).Nodup

/-- slots -/
def SlR (K : PySem.W.Frag) (G : Hp) (o : Option V) (d : Option Dat) : Prop := ∀ x, d = some x → ∃ v, o = some v ∧ Rep K G v x
abbrev Sl (K : PySem.W.Frag) (G : Hp) : St → LS → Prop := Paired (SlR K G)
theorem Sl.mono (e : Same G G') : ∀ {σ : St} {L : LS}, Sl K G σ L → Sl K G' σ L
  | _, _, .nil => .nil
  | _, _, .cons h r => .cons (fun x q => let ⟨v, a, b⟩ := h x q; ⟨v, a, b.mono e⟩) (Sl.mono e r)
theorem Sl.get : ∀ {σ : St} {L : LS} {i : Nat} {d : Dat}, Sl K G σ L → L[i]? = some (some d) → ∃ v, σ[i]? = some (some v) ∧ Rep K G v d
  | _, _, _, _, .nil, e => by simp at e
  | _, _, 0, _, .cons h _, e => by
    simp at e
    obtain ⟨v, rfl, r⟩ := h _ e
    exact ⟨v, rfl, r⟩
  | _, _, i + 1, d, .cons _ r, e => by
    obtain ⟨v, h1, h2⟩ := Sl.get (i := i) (d := d) r (by simpa using e)
    exact ⟨v, by simpa using h1, h2⟩
theorem Sl.set : ∀ {σ : St} {L : LS} {v : V} {d : Dat} (i : Nat), Sl K G σ L → Rep K G v d → Sl K G (σ.set i (some v)) (L.set i (some d))
  | _, _, _, _, _, .nil, _ => .nil
  | _, _, v, d, 0, .cons _ r, q => .cons (fun x e => ⟨v, rfl, by cases e; exact q⟩) r
  | _, _, _, _, i + 1, .cons h r, q => .cons h (Sl.set i r q)
theorem Sl.unset : ∀ {σ : St} {L : LS} (i : Nat), Sl K G σ L → Sl K G (σ.set i none) (L.set i none)
  | _, _, _, .nil => .nil
  | _, _, 0, .cons _ r => .cons (fun x e => nomatch e) r
  | _, _, i + 1, .cons h r => .cons h (Sl.unset i r)
theorem Sl.setL : ∀ {σ : St} {L : LS} {d : Dat} {v : V} {i : Nat}, Sl K G σ L → σ[i]? = some (some v) → Rep K G v d → Sl K G σ (L.set i (some d))
  | _, _, _, _, _, .nil, _, _ => .nil
  | _, _, d, v, 0, .cons _ r, e, q => .cons (fun x e' => by
      cases e'
      simp at e
      exact ⟨v, e, q⟩) r
  | _, _, _, _, i + 1, .cons h r, e, q => .cons h (Sl.setL r (by simpa using e) q)
theorem Sl.len {σ : St} {L : LS} (h : Sl K G σ L) : σ.length = L.length := Paired.length h
theorem Sl.some_of : ∀ {vs : List V} {ds : List Dat}, RepL K G vs ds → Sl K G (vs.map some) (ds.map some)
  | _, _, .nil => .nil
  | _, _, .cons h r => .cons (fun x e => ⟨_, rfl, by cases e; exact h⟩) (Sl.some_of r)
theorem Sl.nones : ∀ n : Nat, Sl K G (List.replicate n none) (List.replicate n none)
  | 0 => .nil
  | n + 1 => .cons (fun x e => nomatch e) (Sl.nones n)
theorem Sl.app : ∀ {σ σ' : St} {L L' : LS}, Sl K G σ L → Sl K G σ' L' → Sl K G (σ ++ σ') (L ++ L')
  | _, _, _, _, .nil, s => s
  | _, _, _, _, .cons h r, s => .cons h (Sl.app r s)

theorem Own.freeze {M1 M2 : MS} {p : Addr} {d : Dat} (h : Own K H G (M1 ++ (p, d) :: M2)) : ∃ o, H p = some o ∧ G p = none ∧ RepO K G o d ∧ Own K H (upd G p o) (M1 ++ M2) := by
  obtain ⟨hg, o, ho, r⟩ := h.at_ (p, d) (by simp)
  have nd := h.nd
  rw [List.map_append, List.map_cons] at nd
  have nd2 := List.nodup_append.mp nd
  refine ⟨o, ho, hg, r, ⟨fun a u e => ?_, fun q hq => ?_, ?_⟩⟩
  · by_cases ea : a = p
    · subst ea
      rw [upd_same] at e
      rw [ho]
      exact e
    · rw [upd_ne ea] at e
      exact h.same _ _ e
  · have hq' : q ∈ M1 ++ (p, d) :: M2 := by
      rcases List.mem_append.mp hq with z | z
      · exact List.mem_append.mpr (.inl z)
      · exact List.mem_append.mpr (.inr (List.mem_cons_of_mem _ z))
    obtain ⟨g, o', h1, h2⟩ := h.at_ q hq'
    have ne : q.1 ≠ p := by
      intro z
      rcases List.mem_append.mp hq with y | y
      · exact nd2.2.2 q.1 (List.mem_map_of_mem (f := (·.1)) y) p (List.mem_cons_self) z
      · have := (List.nodup_cons.mp nd2.2.1).1
        exact this (z ▸ List.mem_map_of_mem (f := (·.1)) y)
    exact ⟨by rw [upd_ne ne]; exact g, o', h1, h2.mono (Same.new hg)⟩
  · rw [List.map_append]
    refine List.nodup_append.mpr ⟨nd2.1, (List.nodup_cons.mp nd2.2.1).2, fun a ha b hb => nd2.2.2 a ha b (List.mem_cons_of_mem _ hb)⟩
theorem Own.sub {M M' : MS} (h : Own K H G M) (s : M'.Sublist M) : Own K H G M' :=
  ⟨h.same, fun q hq => h.at_ q (s.subset hq), h.nd.sublist (s.map _)⟩
theorem Own.perm {M M' : MS} (h : Own K H G M) (s : M.Perm M') : Own K H G M' :=
  ⟨h.same, fun q hq => h.at_ q (s.mem_iff.mpr hq), (s.map _).nodup_iff.mp h.nd⟩
/-- a new owned object -/
theorem Own.alloc {M : MS} {p : Addr} {o : HO} {d : Dat} (h : Own K H G M) (hp : H p = none) (r : RepO K G o d) : Own K (upd H p o) G ((p, d) :: M) := by
  have gp : G p = none := by
    cases e : G p with
    | none => rfl
    | some u => rw [h.same _ _ e] at hp; cases hp
  refine ⟨fun a u e => ?_, fun q hq => ?_, ?_⟩
  · rw [upd_ne (ne_of_none e gp)]
    exact h.same _ _ e
  · rcases List.mem_cons.mp hq with rfl | hq
    · exact ⟨gp, o, upd_same, r⟩
    · obtain ⟨g, o', h1, h2⟩ := h.at_ q hq
      exact ⟨g, o', by rw [upd_ne (ne_of_none h1 hp)]; exact h1, h2⟩
  · rw [List.map_cons]
    refine List.nodup_cons.mpr ⟨fun m => ?_, h.nd⟩
    obtain ⟨q, hq, e⟩ := List.mem_map.mp m
    obtain ⟨g, o', h1, _⟩ := h.at_ q hq
    exact ne_of_none h1 hp e
/-- a new frozen object -/
theorem Own.lay {M : MS} {p : Addr} {o : HO} (h : Own K H G M) (hp : H p = none) : G p = none ∧ Own K (upd H p o) (upd G p o) M := by
  have gp : G p = none := by
    cases e : G p with
    | none => rfl
    | some u => rw [h.same _ _ e] at hp; cases hp
  refine ⟨gp, fun a u e => ?_, fun q hq => ?_, h.nd⟩
  · by_cases ea : a = p
    · subst ea
      rw [upd_same] at e ⊢
      exact e
    · rw [upd_ne ea] at e ⊢
      exact h.same _ _ e
  · obtain ⟨g, o', h1, h2⟩ := h.at_ q hq
    have ne : q.1 ≠ p := ne_of_none h1 hp
    exact ⟨by rw [upd_ne ne]; exact g, o', by rw [upd_ne ne]; exact h1, h2.mono (Same.new gp)⟩
/-- an owned object is written -/
theorem Own.write {M1 M2 : MS} {p : Addr} {o : HO} {d d' : Dat} (h : Own K H G (M1 ++ (p, d) :: M2)) (r : RepO K G o d') : Own K (upd H p o) G (M1 ++ (p, d') :: M2) := by
  have nd := h.nd
  rw [List.map_append, List.map_cons] at nd
  have nd2 := List.nodup_append.mp nd
  obtain ⟨hg, _, ho, _⟩ := h.at_ (p, d) (by simp)
  refine ⟨fun a u e => ?_, fun q hq => ?_, ?_⟩
  · rw [upd_ne (ne_of_none e hg)]
    exact h.same _ _ e
  · have cases3 : q = (p, d') ∨ (q ∈ M1 ∨ q ∈ M2) := by
      rcases List.mem_append.mp hq with z | z
      · exact .inr (.inl z)
      · rcases List.mem_cons.mp z with z | z
        · exact .inl z
        · exact .inr (.inr z)
    rcases cases3 with rfl | z
    · exact ⟨hg, o, upd_same, r⟩
    · have hq' : q ∈ M1 ++ (p, d) :: M2 := by
        rcases z with z | z
        · exact List.mem_append.mpr (.inl z)
        · exact List.mem_append.mpr (.inr (List.mem_cons_of_mem _ z))
      have ne : q.1 ≠ p := by
        intro e
        rcases z with y | y
        · exact nd2.2.2 q.1 (List.mem_map_of_mem (f := (·.1)) y) p (List.mem_cons_self) e
        · exact (List.nodup_cons.mp nd2.2.1).1 (e ▸ List.mem_map_of_mem (f := (·.1)) y)
      obtain ⟨g, o', h1, h2⟩ := h.at_ q hq'
      exact ⟨g, o', by rw [upd_ne ne]; exact h1, h2⟩
  · rw [List.map_append, List.map_cons]
    exact nd
end
end Sy

/-! Symbolic execution: WE, WT, WA, WG, WS over the readings. -/
namespace Sy
open PySem PySem.Spec PyProof.Rows L2

/-- the entry's frozen part, the frame -/
structure Ctx where
  G0 : Hp
  F : MS
structure Exn where
  c : Addr
  fs : List (Str × Dat)
structure Post where
  nx : LS → MS → Prop
  rt : Dat → MS → Prop
  bk : LS → MS → Prop := fun _ _ => False
  ct : LS → MS → Prop := fun _ _ => False

section
variable (K : PySem.W.Frag) (C : Ctx)
def WE (te : TE) (L : LS) (M : MS) (Q : Dat → MS → Prop) : Prop := ∀ (G : Hp) (σ : St) (H : Hp) (R : VK), Same C.G0 G → Own K H G (M ++ C.F) → Sl K G σ L →
  (∀ v d G' M' H', Same G G' → Own K H' G' (M' ++ C.F) → Rep K G' v d → Q d M' → R v H') → te σ H R
def WT (tt : TT) (L : LS) (M : MS) (Q : Bool → MS → Prop) : Prop := ∀ (G : Hp) (σ : St) (H : Hp) (R : Bool → Hp → Prop), Same C.G0 G → Own K H G (M ++ C.F) → Sl K G σ L →
  (∀ b G' M' H', Same G G' → Own K H' G' (M' ++ C.F) → Q b M' → R b H') → tt σ H R
def WA (ta : TA) (L : LS) (M : MS) (Q : List Dat → MS → Prop) : Prop := ∀ (G : Hp) (σ : St) (H : Hp) (R : List V → Hp → Prop), Same C.G0 G → Own K H G (M ++ C.F) → Sl K G σ L →
  (∀ vs ds G' M' H', Same G G' → Own K H' G' (M' ++ C.F) → RepL K G' vs ds → Q ds M' → R vs H') → ta σ H R
def WO (to : TO) (L : LS) (M : MS) (Q : Option Int → MS → Prop) : Prop := ∀ (G : Hp) (σ : St) (H : Hp) (R : Option Int → Hp → Prop), Same C.G0 G → Own K H G (M ++ C.F) → Sl K G σ L →
  (∀ o G' M' H', Same G G' → Own K H' G' (M' ++ C.F) → Q o M' → R o H') → to σ H R
/-- operations on values -/
def WR (r : R2) (x y : Dat) (M : MS) (Q : Dat → MS → Prop) : Prop := ∀ (G H : Hp) (v u : V) (R : VK), Same C.G0 G → Own K H G (M ++ C.F) → Rep K G v x → Rep K G u y →
  (∀ v d G' M' H', Same G G' → Own K H' G' (M' ++ C.F) → Rep K G' v d → Q d M' → R v H') → r v u H R
def WU (r : V → Hp → VK → Prop) (x : Dat) (M : MS) (Q : Dat → MS → Prop) : Prop := ∀ (G H : Hp) (v : V) (R : VK), Same C.G0 G → Own K H G (M ++ C.F) → Rep K G v x →
  (∀ v d G' M' H', Same G G' → Own K H' G' (M' ++ C.F) → Rep K G' v d → Q d M' → R v H') → r v H R
def WC (r : List V → Hp → VK → Prop) (xs : List Dat) (M : MS) (Q : Dat → MS → Prop) : Prop := ∀ (G H : Hp) (vs : List V) (R : VK), Same C.G0 G → Own K H G (M ++ C.F) → RepL K G vs xs →
  (∀ v d G' M' H', Same G G' → Own K H' G' (M' ++ C.F) → Rep K G' v d → Q d M' → R v H') → r vs H R
def WM (r : V → List V → Hp → VK → Prop) (x : Dat) (xs : List Dat) (M : MS) (Q : Dat → MS → Prop) : Prop := ∀ (G H : Hp) (v : V) (vs : List V) (R : VK), Same C.G0 G → Own K H G (M ++ C.F) → Rep K G v x → RepL K G vs xs →
  (∀ v d G' M' H', Same G G' → Own K H' G' (M' ++ C.F) → Rep K G' v d → Q d M' → R v H') → r v vs H R
def WSl (r : V → Option Int → Option Int → Hp → VK → Prop) (x : Dat) (lo hi : Option Int) (M : MS) (Q : Dat → MS → Prop) : Prop := ∀ (G H : Hp) (v : V) (R : VK), Same C.G0 G → Own K H G (M ++ C.F) → Rep K G v x →
  (∀ v d G' M' H', Same G G' → Own K H' G' (M' ++ C.F) → Rep K G' v d → Q d M' → R v H') → r v lo hi H R
/-- targets -/
def WG (g : TG) (d : Dat) (L : LS) (M : MS) (Q : LS → MS → Prop) : Prop := ∀ (G : Hp) (σ : St) (H : Hp) (v : V) (R : St → Hp → Prop), Same C.G0 G → Own K H G (M ++ C.F) → Sl K G σ L → Rep K G v d →
  (∀ σ' L' G' M' H', Same G G' → Own K H' G' (M' ++ C.F) → Sl K G' σ' L' → Q L' M' → R σ' H') → g v σ H R
def WGs (g : TGs) (ds : List Dat) (L : LS) (M : MS) (Q : LS → MS → Prop) : Prop := ∀ (G : Hp) (σ : St) (H : Hp) (vs : List V) (R : St → Hp → Prop), Same C.G0 G → Own K H G (M ++ C.F) → Sl K G σ L → RepL K G vs ds →
  (∀ σ' L' G' M' H', Same G G' → Own K H' G' (M' ++ C.F) → Sl K G' σ' L' → Q L' M' → R σ' H') → g vs σ H R
/-- what follows a statement -/
structure Cont (G : Hp) (P : Post) (D : Ends) : Prop where
  nx : ∀ σ' L' G' M' H', Same G G' → Own K H' G' (M' ++ C.F) → Sl K G' σ' L' → P.nx L' M' → D.nx σ' H'
  rt : ∀ v d G' M' H', Same G G' → Own K H' G' (M' ++ C.F) → Rep K G' v d → P.rt d M' → D.rt v H'
  bk : ∀ σ' L' G' M' H', Same G G' → Own K H' G' (M' ++ C.F) → Sl K G' σ' L' → P.bk L' M' → D.bk σ' H'
  ct : ∀ σ' L' G' M' H', Same G G' → Own K H' G' (M' ++ C.F) → Sl K G' σ' L' → P.ct L' M' → D.ct σ' H'
def WS (t : TS) (L : LS) (M : MS) (P : Post) : Prop := ∀ (G : Hp) (σ : St) (H : Hp) (D : Ends), Same C.G0 G → Own K H G (M ++ C.F) → Sl K G σ L → Cont K C G P D → t D σ H
/-- an iterator yields these -/
def ItR (G : Hp) (J : It) (ds : List Dat) : Prop := ∀ G' H' (M' : MS), Same G G' → Own K H' G' M' →
  J.stop ds.length H' ∧ ∀ i, i < ds.length → J.go i H' ∧ ∀ x H'', J.yld i H' x H'' → ∃ G'', Same G' G'' ∧ Own K H'' G'' M' ∧ ∃ d, ds[i]? = some d ∧ Rep K G'' x d
def WI (wi : TI) (L : LS) (M : MS) (Q : List Dat → MS → Prop) : Prop := ∀ (G : Hp) (σ : St) (H : Hp) (R : It → Hp → Prop), Same C.G0 G → Own K H G (M ++ C.F) → Sl K G σ L →
  (∀ J ds G' M' H', Same G G' → Own K H' G' (M' ++ C.F) → ItR K G' J ds → Q ds M' → R J H') → wi σ H R
/-- what an exception bears -/
def ExR (G : Hp) (x : Exn) (d : Option Addr) : Prop := x.fs = [] ∨ ∃ (dd : Addr) (xs : List (Str × V)), d = some dd ∧ G dd = some (.xd xs) ∧ RepP K G xs x.fs
/-- a wish about exceptions -/
def XW (W : WX) (px : Exn → LS → MS → Prop) : Prop := ∀ (x : Exn) (dd : Option Addr) σ' L' G' M' H', Same C.G0 G' → Own K H' G' (M' ++ C.F) → Sl K G' σ' L' → ExR K G' x dd → px x L' M' → W (.ref x.c) dd σ' H'
def XE (E : XK) (px : Exn → MS → Prop) : Prop := ∀ (x : Exn) (dd : Option Addr) G' M' H', Same C.G0 G' → Own K H' G' (M' ++ C.F) → ExR K G' x dd → px x M' → E (.ref x.c) dd H'
end

/-- an owned object's content is exchanged; it goes -/
inductive Put (p : Addr) (d d' : Dat) : MS → MS → Prop
  | here {M : MS} : Put p d d' ((p, d) :: M) ((p, d') :: M)
  | there {q : Addr × Dat} {M M' : MS} : Put p d d' M M' → Put p d d' (q :: M) (q :: M')
inductive Del (p : Addr) (d : Dat) : MS → MS → Prop
  | here {M : MS} : Del p d ((p, d) :: M) M
  | there {q : Addr × Dat} {M M' : MS} : Del p d M M' → Del p d (q :: M) (q :: M')
theorem Put.split {p : Addr} {d d' : Dat} : ∀ {M M' : MS}, Put p d d' M M' → ∃ M1 M2, M = M1 ++ (p, d) :: M2 ∧ M' = M1 ++ (p, d') :: M2
  | _, _, .here => ⟨[], _, rfl, rfl⟩
  | _, _, .there (q := q) h => by
    obtain ⟨M1, M2, e1, e2⟩ := h.split
    exact ⟨q :: M1, M2, by rw [e1]; rfl, by rw [e2]; rfl⟩
theorem Del.split {p : Addr} {d : Dat} : ∀ {M M' : MS}, Del p d M M' → ∃ M1 M2, M = M1 ++ (p, d) :: M2 ∧ M' = M1 ++ M2
  | _, _, .here => ⟨[], _, rfl, rfl⟩
  | _, _, .there (q := q) h => by
    obtain ⟨M1, M2, e1, e2⟩ := h.split
    exact ⟨q :: M1, M2, by rw [e1]; rfl, by rw [e2]; rfl⟩

section
variable {K : PySem.W.Frag} {C : Ctx} {L : LS} {M : MS} {H G : Hp}
theorem Own.put {p : Addr} {d d' : Dat} {M' : MS} {o : HO} (I : Own K H G (M ++ C.F)) (h : Put p d d' M M') (r : RepO K G o d') : Own K (upd H p o) G (M' ++ C.F) := by
  obtain ⟨M1, M2, rfl, rfl⟩ := h.split
  rw [List.append_assoc, List.cons_append] at I ⊢
  exact I.write r
theorem Own.had {p : Addr} {d : Dat} {M' : MS} (I : Own K H G (M ++ C.F)) (h : Del p d M M') : ∃ o, H p = some o ∧ RepO K G o d := by
  obtain ⟨M1, M2, rfl, rfl⟩ := h.split
  obtain ⟨_, o, h1, h2⟩ := I.at_ (p, d) (by simp)
  exact ⟨o, h1, h2⟩
theorem Own.hadP {p : Addr} {d d' : Dat} {M' : MS} (I : Own K H G (M ++ C.F)) (h : Put p d d' M M') : ∃ o, H p = some o ∧ RepO K G o d := by
  obtain ⟨M1, M2, rfl, rfl⟩ := h.split
  obtain ⟨_, o, h1, h2⟩ := I.at_ (p, d) (by simp)
  exact ⟨o, h1, h2⟩
theorem Own.fz {p : Addr} {d : Dat} {M' : MS} (I : Own K H G (M ++ C.F)) (h : Del p d M M') : ∃ o, G p = none ∧ RepO K G o d ∧ Own K H (upd G p o) (M' ++ C.F) := by
  obtain ⟨M1, M2, rfl, rfl⟩ := h.split
  rw [List.append_assoc, List.cons_append] at I
  obtain ⟨o, _, h2, h3, h4⟩ := I.freeze
  rw [List.append_assoc]
  exact ⟨o, h2, h3, h4⟩
theorem RepO.lst_inv {o : HO} {ds : List Dat} (h : RepO K G o (.lst ds)) : ∃ xs, o = .lst xs ∧ RepL K G xs ds := by
  cases h with
  | lst r => exact ⟨_, rfl, r⟩
theorem RepO.dK_inv {o : HO} {ds : List (Key × Dat)} (h : RepO K G o (.dK ds)) : ∃ xs, o = .dK xs ∧ RepP K G xs ds := by
  cases h with
  | dK r => exact ⟨_, rfl, r⟩
theorem RepO.dT_inv {o : HO} {ds : List (List Key × Dat)} (h : RepO K G o (.dT ds)) : ∃ xs, o = .dT xs ∧ RepP K G xs ds := by
  cases h with
  | dT r => exact ⟨_, rfl, r⟩
theorem RepO.ins_inv {o : HO} {Cc : Addr} {ds : List (Str × Dat)} (h : RepO K G o (.ins Cc ds)) : ∃ dx xs, o = .ins Cc dx xs ∧ RepP K G xs ds := by
  cases h with
  | ins r => exact ⟨_, _, rfl, r⟩

/-- a list that is read: data, or owned -/
inductive LstOf (M : MS) : Dat → List Dat → Prop
  | dat {xs : List Dat} : LstOf M (.lst xs) xs
  | own {p : Addr} {xs : List Dat} {M' : MS} : Del p (.lst xs) M M' → LstOf M (.own p) xs
theorem LstOf.get {v : V} {d : Dat} {xs : List Dat} (h : LstOf M d xs) (I : Own K H G (M ++ C.F)) (r : Rep K G v d) : ∃ a vs, v = .ref a ∧ SqL K H a vs ∧ RepL K G vs xs := by
  cases h with
  | dat =>
    cases r with
    | lst s r => exact ⟨_, _, rfl, Same.sqL I.same s, r⟩
  | own hd =>
    cases r
    obtain ⟨o, ho, r0⟩ := I.had hd
    obtain ⟨vs, rfl, r⟩ := r0.lst_inv
    exact ⟨_, vs, rfl, SqL.of ho, r⟩
/-- a list or a tuple that is read -/
inductive SeqOf (M : MS) : Dat → List Dat → Prop
  | lst {d : Dat} {xs : List Dat} : LstOf M d xs → SeqOf M d xs
  | tup {xs : List Dat} : SeqOf M (.tup xs) xs
theorem SeqOf.get {v : V} {d : Dat} {xs : List Dat} (h : SeqOf M d xs) (I : Own K H G (M ++ C.F)) (r : Rep K G v d) : ∃ a vs, v = .ref a ∧ (SqL K H a vs ∨ SqT K H a vs) ∧ RepL K G vs xs := by
  cases h with
  | lst h =>
    obtain ⟨a, vs, e, s, r⟩ := h.get I r
    exact ⟨a, vs, e, .inl s, r⟩
  | tup =>
    cases r with
    | tup s r => exact ⟨_, _, rfl, .inr (Same.sqT I.same s), r⟩

variable {Q : Dat → MS → Prop} {QT : Bool → MS → Prop} {QA : List Dat → MS → Prop} {P : Post}
/-! ### weakening, freezing, dropping -/
theorem WE.imp {te : TE} {Q' : Dat → MS → Prop} (h : WE K C te L M Q') (i : ∀ d M', Q' d M' → Q d M') : WE K C te L M Q := fun G σ H R g I s k =>
  h G σ H R g I s fun v d G' M' H' a b c q => k v d G' M' H' a b c (i _ _ q)
theorem WT.imp {te : TT} {Q' : Bool → MS → Prop} (h : WT K C te L M Q') (i : ∀ d M', Q' d M' → QT d M') : WT K C te L M QT := fun G σ H R g I s k =>
  h G σ H R g I s fun d G' M' H' a b q => k d G' M' H' a b (i _ _ q)
/-- the answer is an owned object, frozen -/
theorem WE.fz {te : TE} (h : WE K C te L M fun x M1 => ∃ p d M2, x = .own p ∧ Del p d M1 M2 ∧ Q d M2) : WE K C te L M Q := fun G σ H R g I s k =>
  h G σ H R g I s fun v d G' M' H' a b c q => by
    obtain ⟨p, e, M2, rfl, hd, q⟩ := q
    obtain ⟨o, h2, h3, h4⟩ := b.fz hd
    cases c
    exact k _ _ _ _ _ (a.trans (Same.new h2)) h4 (h3.rep h2) q
/-- an owned object in slot i is frozen -/
theorem WS.fz {t : TS} {i : Nat} {p : Addr} {d : Dat} {M' : MS} (hi : L[i]? = some (some (.own p))) (hd : Del p d M M') (h : WS K C t (L.set i (some d)) M' P) : WS K C t L M P := fun G σ H D g I s k => by
  obtain ⟨o, h2, h3, h4⟩ := I.fz hd
  have e := Same.new (o := o) h2
  obtain ⟨v, hv, rv⟩ := s.get hi
  cases rv
  refine h _ σ H D (g.trans e) h4 (Sl.setL (s.mono e) hv (h3.rep h2)) ⟨fun σ' L' G' M' H' a => k.nx σ' L' G' M' H' (e.trans a), fun v d G' M' H' a => k.rt v d G' M' H' (e.trans a), fun σ' L' G' M' H' a => k.bk σ' L' G' M' H' (e.trans a), fun σ' L' G' M' H' a => k.ct σ' L' G' M' H' (e.trans a)⟩
theorem WS.drop {t : TS} {M' : MS} (hs : M'.Sublist M) (h : WS K C t L M' P) : WS K C t L M P := fun G σ H D g I s k => h G σ H D g (I.sub (hs.append_right _)) s k
theorem WS.perm {t : TS} {M' : MS} (hs : M.Perm M') (h : WS K C t L M' P) : WS K C t L M P := fun G σ H D g I s k => h G σ H D g (I.perm (hs.append_right _)) s k
theorem WS.imp {t : TS} {P' : Post} (h : WS K C t L M P') (h1 : ∀ L M, P'.nx L M → P.nx L M) (h2 : ∀ d M, P'.rt d M → P.rt d M) (h3 : ∀ L M, P'.bk L M → P.bk L M) (h4 : ∀ L M, P'.ct L M → P.ct L M) : WS K C t L M P := fun G σ H D g I s k =>
  h G σ H D g I s ⟨fun σ' L' G' M' H' a b c q => k.nx σ' L' G' M' H' a b c (h1 _ _ q), fun v d G' M' H' a b c q => k.rt v d G' M' H' a b c (h2 _ _ q), fun σ' L' G' M' H' a b c q => k.bk σ' L' G' M' H' a b c (h3 _ _ q), fun σ' L' G' M' H' a b c q => k.ct σ' L' G' M' H' a b c (h4 _ _ q)⟩

/-! ### names, constants -/
theorem we_var {i : Nat} {d : Dat} (h : L[i]? = some (some d)) (q : Q d M) : WE K C (tVar i) L M Q := fun G σ H R g I s k => by
  obtain ⟨v, hv, r⟩ := s.get h
  exact ⟨v, hv, k v d G M H (Same.refl G) I r q⟩
theorem we_int {i : Int} (q : Q (.int i) M) : WE K C (tC (.int i)) L M Q := fun G σ H R g I s k => k _ _ _ _ _ (Same.refl G) I (.int i) q
theorem we_bl {i : Bool} (q : Q (.bl i) M) : WE K C (tC (.bl i)) L M Q := fun G σ H R g I s k => k _ _ _ _ _ (Same.refl G) I (.bl i) q
theorem we_str {i : Str} (q : Q (.str i) M) : WE K C (tC (.str i)) L M Q := fun G σ H R g I s k => k _ _ _ _ _ (Same.refl G) I (.str i) q
theorem we_non (q : Q .non M) : WE K C (tC .non) L M Q := fun G σ H R g I s k => k _ _ _ _ _ (Same.refl G) I .non q
theorem we_ty {n : String} (q : Q (.ty n) M) : WE K C (tC (.ty n)) L M Q := fun G σ H R g I s k => k _ _ _ _ _ (Same.refl G) I (.ty n) q
/-- an address told by the top: a class -/
theorem we_ref {a : Addr} (q : Q (.own a) M) : WE K C (tC (.ref a)) L M Q := fun G σ H R g I s k => k _ _ _ _ _ (Same.refl G) I (.own a) q

/-! ### operators, tests -/
theorem we_op {r : R2} {ta tb : TE} (h : WE K C ta L M fun x M1 => WE K C tb L M1 fun y M2 => WR K C r x y M2 Q) : WE K C (tOp r ta tb) L M Q := fun G σ H R g I s k =>
  h G σ H _ g I s fun v x G1 M1 H1 e1 I1 r1 h1 => h1 G1 σ H1 _ (g.trans e1) I1 (s.mono e1) fun u y G2 M2 H2 e2 I2 r2 h2 =>
    h2 G2 H2 v u R ((g.trans e1).trans e2) I2 (r1.mono e2) r2 fun v d G' M' H' a b c q => k v d G' M' H' ((e1.trans e2).trans a) b c q
theorem we_un {r : V → Hp → VK → Prop} {ta : TE} (h : WE K C ta L M fun x M1 => WU K C r x M1 Q) : WE K C (tUn r ta) L M Q := fun G σ H R g I s k =>
  h G σ H _ g I s fun v x G1 M1 H1 e1 I1 r1 h1 => h1 G1 H1 v R (g.trans e1) I1 r1 fun v d G' M' H' a b c q => k v d G' M' H' (e1.trans a) b c q
def Bl (x : Dat) (k : Bool → Prop) : Prop := ∃ b, x = .bl b ∧ k b
theorem bl_ {b : Bool} {k : Bool → Prop} (h : k b) : Bl (.bl b) k := ⟨b, rfl, h⟩
theorem wt_test {te : TE} (h : WE K C te L M fun x M1 => Bl x fun b => QT b M1) : WT K C (tTest te) L M QT := fun G σ H R g I s k =>
  h G σ H _ g I s fun v x G1 M1 H1 e1 I1 r1 ⟨b, e, q⟩ => by
    subst e
    cases r1
    exact ⟨b, rfl, k b G1 M1 H1 e1 I1 q⟩
theorem wt_B {te : TE} (h : WE K C te L M fun x M1 => Bl x fun b => QT b M1) : WT K C (tB te) L M QT := fun G σ H R g I s k =>
  h G σ H _ g I s fun v x G1 M1 H1 e1 I1 r1 ⟨b, e, q⟩ => by
    subst e
    cases r1
    exact ⟨b, rfl, k b G1 M1 H1 e1 I1 q⟩
theorem wt_not {t : TT} (h : WT K C t L M fun b M1 => QT (!b) M1) : WT K C (tNot t) L M QT := fun G σ H R g I s k =>
  h G σ H _ g I s fun b G1 M1 H1 e1 I1 q => k _ G1 M1 H1 e1 I1 q
theorem wt_and {t u : TT} (h : WT K C t L M fun b M1 => (b = true → WT K C u L M1 QT) ∧ (b = false → QT false M1)) : WT K C (tAnd t u) L M QT := fun G σ H R g I s k =>
  h G σ H _ g I s fun b G1 M1 H1 e1 I1 q => by
    cases b with
    | true => exact iteT (q.1 rfl G1 σ H1 R (g.trans e1) I1 (s.mono e1) fun b G' M' H' a => k b G' M' H' (e1.trans a))
    | false => exact iteF (k _ G1 M1 H1 e1 I1 (q.2 rfl))
theorem wt_or {t u : TT} (h : WT K C t L M fun b M1 => (b = true → QT true M1) ∧ (b = false → WT K C u L M1 QT)) : WT K C (tOr t u) L M QT := fun G σ H R g I s k =>
  h G σ H _ g I s fun b G1 M1 H1 e1 I1 q => by
    cases b with
    | true => exact iteT (k _ G1 M1 H1 e1 I1 (q.1 rfl))
    | false => exact iteF (q.2 rfl G1 σ H1 R (g.trans e1) I1 (s.mono e1) fun b G' M' H' a => k b G' M' H' (e1.trans a))
theorem we_andV {ta tb : TE} (h : WE K C ta L M fun x M1 => Bl x fun b => (b = true → WE K C tb L M1 Q) ∧ (b = false → Q (.bl false) M1)) : WE K C (tAndV ta tb) L M Q := fun G σ H R g I s k =>
  h G σ H _ g I s fun v x G1 M1 H1 e1 I1 r1 ⟨b, e, q⟩ => by
    subst e
    cases r1
    refine ⟨b, rfl, ?_⟩
    cases b with
    | true => exact iteT (q.1 rfl G1 σ H1 R (g.trans e1) I1 (s.mono e1) fun v d G' M' H' a => k v d G' M' H' (e1.trans a))
    | false => exact iteF (k _ _ G1 M1 H1 e1 I1 (.bl false) (q.2 rfl))
theorem we_orV {ta tb : TE} (h : WE K C ta L M fun x M1 => Bl x fun b => (b = true → Q (.bl true) M1) ∧ (b = false → WE K C tb L M1 Q)) : WE K C (tOrV ta tb) L M Q := fun G σ H R g I s k =>
  h G σ H _ g I s fun v x G1 M1 H1 e1 I1 r1 ⟨b, e, q⟩ => by
    subst e
    cases r1
    refine ⟨b, rfl, ?_⟩
    cases b with
    | true => exact iteT (k _ _ G1 M1 H1 e1 I1 (.bl true) (q.1 rfl))
    | false => exact iteF (q.2 rfl G1 σ H1 R (g.trans e1) I1 (s.mono e1) fun v d G' M' H' a => k v d G' M' H' (e1.trans a))
theorem we_notV {ta : TE} (h : WE K C ta L M fun x M1 => Bl x fun b => Q (.bl (!b)) M1) : WE K C (tNotV ta) L M Q := fun G σ H R g I s k =>
  h G σ H _ g I s fun v x G1 M1 H1 e1 I1 r1 ⟨b, e, q⟩ => by
    subst e
    cases r1
    exact ⟨b, rfl, k _ _ G1 M1 H1 e1 I1 (.bl _) q⟩
theorem we_if {t : TT} {ta tb : TE} (h : WT K C t L M fun b M1 => (b = true → WE K C ta L M1 Q) ∧ (b = false → WE K C tb L M1 Q)) : WE K C (tIf t ta tb) L M Q := fun G σ H R g I s k =>
  h G σ H _ g I s fun b G1 M1 H1 e1 I1 q => by
    cases b with
    | true => exact iteT (q.1 rfl G1 σ H1 R (g.trans e1) I1 (s.mono e1) fun v d G' M' H' a => k v d G' M' H' (e1.trans a))
    | false => exact iteF (q.2 rfl G1 σ H1 R (g.trans e1) I1 (s.mono e1) fun v d G' M' H' a => k v d G' M' H' (e1.trans a))

/-! ### argument lists, displays -/
theorem wa_nil (q : QA [] M) : WA K C tNil L M QA := fun G σ H R g I s k => k _ _ _ _ _ (Same.refl G) I .nil q
theorem wa_cons {te : TE} {ta : TA} (h : WE K C te L M fun x M1 => WA K C ta L M1 fun xs M2 => QA (x :: xs) M2) : WA K C (tCons te ta) L M QA := fun G σ H R g I s k =>
  h G σ H _ g I s fun v x G1 M1 H1 e1 I1 r1 h1 => h1 G1 σ H1 _ (g.trans e1) I1 (s.mono e1) fun vs xs G2 M2 H2 e2 I2 r2 h2 =>
    k _ _ G2 M2 H2 (e1.trans e2) I2 (.cons (r1.mono e2) r2) h2
theorem we_tup {ta : TA} (h : WA K C ta L M fun xs M1 => xs.length ≤ 1000000 ∧ Q (.tup xs) M1) : WE K C (tTup ta) L M Q := fun G σ H R g I s k =>
  h G σ H _ g I s fun vs xs G1 M1 H1 e1 I1 r1 ⟨hl, q⟩ => ⟨by rw [r1.length]; exact Nat.le_trans hl (by decide), fun p hp => by
    obtain ⟨gp, I2⟩ := I1.lay (o := .tup vs) hp
    exact k _ _ _ M1 _ (e1.trans (Same.new gp)) I2 (.tup (SqT.of upd_same) (r1.mono (Same.new gp))) q⟩
theorem we_lst {ta : TA} (h : WA K C ta L M fun xs M1 => xs.length ≤ 1000000 ∧ ∀ p, Q (.own p) ((p, .lst xs) :: M1)) : WE K C (tLst ta) L M Q := fun G σ H R g I s k =>
  h G σ H _ g I s fun vs xs G1 M1 H1 e1 I1 r1 ⟨hl, q⟩ => ⟨by rw [r1.length]; exact Nat.le_trans hl (by decide), fun p hp =>
    k _ _ G1 ((p, .lst xs) :: M1) _ e1 (I1.alloc hp (.lst r1)) (.own p) (q p)⟩
theorem we_dK (q : ∀ p, Q (.own p) ((p, .dK []) :: M)) : WE K C tDNewK L M Q := fun G σ H R g I s k p hp => k _ _ G ((p, .dK []) :: M) _ (Same.refl G) (I.alloc hp (.dK .nil)) (.own p) (q p)
theorem we_dT (q : ∀ p, Q (.own p) ((p, .dT []) :: M)) : WE K C tDNewT L M Q := fun G σ H R g I s k p hp => k _ _ G ((p, .dT []) :: M) _ (Same.refl G) (I.alloc hp (.dT .nil)) (.own p) (q p)
/-! ### calls of built-ins, methods, slices -/
theorem we_cb {r : List V → Hp → VK → Prop} {ta : TA} (h : WA K C ta L M fun xs M1 => WC K C r xs M1 Q) : WE K C (tCB r ta) L M Q := fun G σ H R g I s k =>
  h G σ H _ g I s fun vs xs G1 M1 H1 e1 I1 r1 h1 => h1 G1 H1 vs R (g.trans e1) I1 r1 fun v d G' M' H' a b c q => k v d G' M' H' (e1.trans a) b c q
/-- the receiver of a built-in's method -/
def TyD (M : MS) (T : String) (x : Dat) : Prop := match x with
  | .str _ => T = "str"
  | .int _ => T = "int"
  | .own p => (T = "list" ∧ ∃ xs M', Del p (.lst xs) M M') ∨ (T = "dict" ∧ ((∃ xs M', Del p (.dK xs) M M') ∨ ∃ xs M', Del p (.dT xs) M M'))
  | .lst _ => T = "list"
  | _ => False
theorem TyD.get {T : String} {x : Dat} {v : V} (h : TyD M T x) (I : Own K H G (M ++ C.F)) (r : Rep K G v x) : tyV K T v H := by
  cases r <;> first | exact h.elim | exact h | skip
  · rename_i s r
    exact .inl ⟨h, _, Same.sqL I.same s⟩
  · rcases h with ⟨e, xs, M', hd⟩ | ⟨e, ⟨xs, M', hd⟩ | ⟨xs, M', hd⟩⟩
    · obtain ⟨o, ho, r⟩ := I.had hd
      obtain ⟨vs, rfl, _⟩ := r.lst_inv
      exact .inl ⟨e, vs, SqL.of ho⟩
    · obtain ⟨o, ho, r⟩ := I.had hd
      obtain ⟨vs, rfl, _⟩ := r.dK_inv
      exact .inr (.inr (.inl ⟨e, .inl ⟨vs, ho⟩⟩))
    · obtain ⟨o, ho, r⟩ := I.had hd
      obtain ⟨vs, rfl, _⟩ := r.dT_inv
      exact .inr (.inr (.inl ⟨e, .inr ⟨vs, ho⟩⟩))
theorem we_bm0 {T : String} {r : V → List V → Hp → VK → Prop} {to : TE} (h : WE K C to L M fun x M1 => TyD M1 T x ∧ WM K C r x [] M1 Q) : WE K C (tBM0 K T r to) L M Q := fun G σ H R g I s k =>
  h G σ H _ g I s fun v x G1 M1 H1 e1 I1 r1 ⟨ty, h1⟩ => ⟨ty.get I1 r1, h1 G1 H1 v [] R (g.trans e1) I1 r1 .nil fun v d G' M' H' a b c q => k v d G' M' H' (e1.trans a) b c q⟩
theorem we_bm {T : String} {r : V → List V → Hp → VK → Prop} {to : TE} {ta : TA} (h : WE K C to L M fun x M1 => TyD M1 T x ∧ WA K C ta L M1 fun xs M2 => WM K C r x xs M2 Q) : WE K C (tBM K T r to ta) L M Q := fun G σ H R g I s k =>
  h G σ H _ g I s fun v x G1 M1 H1 e1 I1 r1 ⟨ty, h1⟩ => ⟨ty.get I1 r1, h1 G1 σ H1 _ (g.trans e1) I1 (s.mono e1) fun vs xs G2 M2 H2 e2 I2 r2 h2 =>
    h2 G2 H2 v vs R ((g.trans e1).trans e2) I2 (r1.mono e2) r2 fun v d G' M' H' a b c q => k v d G' M' H' ((e1.trans e2).trans a) b c q⟩
theorem we_m0 {r : V → List V → Hp → VK → Prop} {to : TE} (h : WE K C to L M fun x M1 => (∃ z, x = .str z) ∧ WM K C r x [] M1 Q) : WE K C (tM0 r to) L M Q := fun G σ H R g I s k =>
  h G σ H _ g I s fun v x G1 M1 H1 e1 I1 r1 ⟨⟨z, e⟩, h1⟩ => ⟨by subst e; cases r1; exact ⟨z, rfl⟩, h1 G1 H1 v [] R (g.trans e1) I1 r1 .nil fun v d G' M' H' a b c q => k v d G' M' H' (e1.trans a) b c q⟩
theorem we_m1 {r : V → List V → Hp → VK → Prop} {to te : TE} (h : WE K C to L M fun x M1 => (∃ z, x = .str z) ∧ WE K C te L M1 fun y M2 => WM K C r x [y] M2 Q) : WE K C (tM1 r to te) L M Q := fun G σ H R g I s k =>
  h G σ H _ g I s fun v x G1 M1 H1 e1 I1 r1 ⟨⟨z, e⟩, h1⟩ => ⟨by subst e; cases r1; exact ⟨z, rfl⟩, h1 G1 σ H1 _ (g.trans e1) I1 (s.mono e1) fun u y G2 M2 H2 e2 I2 r2 h2 =>
    h2 G2 H2 v [u] R ((g.trans e1).trans e2) I2 (r1.mono e2) (.cons r2 .nil) fun v d G' M' H' a b c q => k v d G' M' H' ((e1.trans e2).trans a) b c q⟩
theorem wo_no {QO : Option Int → MS → Prop} (q : QO none M) : WO K C tNoPart L M QO := fun G σ H R g I s k => k _ _ _ _ (Same.refl G) I q
theorem wo_part {QO : Option Int → MS → Prop} {te : TE} (h : WE K C te L M fun x M1 => ∃ i, x = .int i ∧ QO (some i) M1) : WO K C (tPart te) L M QO := fun G σ H R g I s k =>
  h G σ H _ g I s fun v x G1 M1 H1 e1 I1 r1 ⟨i, e, q⟩ => by
    subst e
    cases r1
    exact ⟨i, rfl, k _ _ _ _ e1 I1 q⟩
theorem we_sl {r : V → Option Int → Option Int → Hp → VK → Prop} {te : TE} {tl th : TO} (h : WE K C te L M fun x M1 => WO K C tl L M1 fun lo M2 => WO K C th L M2 fun hi M3 => WSl K C r x lo hi M3 Q) : WE K C (tSl r te tl th) L M Q := fun G σ H R g I s k =>
  h G σ H _ g I s fun v x G1 M1 H1 e1 I1 r1 h1 => h1 G1 σ H1 _ (g.trans e1) I1 (s.mono e1) fun lo G2 M2 H2 e2 I2 h2 =>
    h2 G2 σ H2 _ ((g.trans e1).trans e2) I2 ((s.mono e1).mono e2) fun hi G3 M3 H3 e3 I3 h3 =>
      h3 G3 H3 v R (((g.trans e1).trans e2).trans e3) I3 ((r1.mono e2).mono e3) fun v d G' M' H' a b c q => k v d G' M' H' (((e1.trans e2).trans e3).trans a) b c q

/-! ### fields -/
theorem RepP.look : ∀ {vs : List (Str × V)} {ds : List (Str × Dat)} {f : Str} {d : Dat}, RepP K G vs ds → ds.lookup f = some d → ∃ v, vs.lookup f = some v ∧ Rep K G v d
  | _, _, f, d, .nil, e => by simp [List.lookup] at e
  | _, _, f, d, .cons (k := k) (v := v) h r, e => by
    by_cases z : f == k
    · simp only [List.lookup, z] at e ⊢
      cases e
      exact ⟨v, rfl, h⟩
    · have z' : (f == k) = false := by simpa using z
      simp only [List.lookup, z'] at e ⊢
      exact RepP.look r e
theorem RepP.lookN : ∀ {vs : List (Str × V)} {ds : List (Str × Dat)} {f : Str}, RepP K G vs ds → ds.lookup f = none → vs.lookup f = none
  | _, _, f, .nil, e => rfl
  | _, _, f, .cons (k := k) (v := v) h r, e => by
    by_cases z : f == k
    · simp only [List.lookup, z] at e
      cases e
    · have z' : (f == k) = false := by simpa using z
      simp only [List.lookup, z'] at e ⊢
      exact RepP.lookN r e
theorem RepP.len : ∀ {κ : Type} {vs : List (κ × V)} {ds : List (κ × Dat)}, RepP K G vs ds → vs.length = ds.length
  | _, _, _, .nil => rfl
  | _, _, _, .cons _ r => congrArg Nat.succ (RepP.len r)
inductive InsOf (M : MS) : Dat → Addr → List (Str × Dat) → Prop
  | dat {Cc : Addr} {fs : List (Str × Dat)} : InsOf M (.ins Cc fs) Cc fs
  | own {p Cc : Addr} {fs : List (Str × Dat)} {M' : MS} : Del p (.ins Cc fs) M M' → InsOf M (.own p) Cc fs
theorem InsOf.get {v : V} {d : Dat} {Cc : Addr} {fs : List (Str × Dat)} (h : InsOf M d Cc fs) (I : Own K H G (M ++ C.F)) (r : Rep K G v d) : ∃ a dx xs, v = .ref a ∧ H a = some (.ins Cc dx xs) ∧ RepP K G xs fs := by
  cases h with
  | dat =>
    cases r with
    | ins s r => exact ⟨_, _, _, rfl, I.same _ _ s, r⟩
  | own hd =>
    cases r
    obtain ⟨o, ho, r0⟩ := I.had hd
    obtain ⟨dx, xs, rfl, r⟩ := r0.ins_inv
    exact ⟨_, dx, xs, rfl, ho, r⟩
theorem we_fld {ta : TE} {f : Str} (h : WE K C ta L M fun x M1 => ∃ Cc fs d, InsOf M1 x Cc fs ∧ Cls K Cc ∧ NoAttr K Cc f ∧ fs.lookup f = some d ∧ Q d M1) : WE K C (tFld K ta f) L M Q := fun G σ H R g I s k =>
  h G σ H _ g I s fun v x G1 M1 H1 e1 I1 r1 ⟨Cc, fs, d, hi, hc, hn, hl, q⟩ => by
    obtain ⟨a, dx, xs, rfl, ha, r⟩ := hi.get I1 r1
    obtain ⟨u, hu, ru⟩ := r.look hl
    exact ⟨a, Cc, dx, xs, u, rfl, ha, hc, hn, hu, k _ _ _ _ _ e1 I1 ru q⟩
def putD (f : Str) (v : Dat) : List (Str × Dat) → List (Str × Dat)
  | [] => [(f, v)]
  | (g, x) :: r => if g = f then (g, v) :: r else (g, x) :: putD f v r
theorem RepP.put {f : Str} {v : V} {d : Dat} (h : Rep K G v d) : ∀ {vs : List (Str × V)} {ds : List (Str × Dat)}, RepP K G vs ds → RepP K G (putF f v vs) (putD f d ds)
  | _, _, .nil => .cons h .nil
  | _, _, .cons (k := k) h' r => by
    unfold putF putD
    split
    · exact .cons h r
    · exact .cons h' (RepP.put h r)
theorem ws_fld {ta tv : TE} {f : Str} (h : WE K C tv L M fun y M1 => WE K C ta L M1 fun x M2 => ∃ p Cc fs M3, x = .own p ∧ Put p (.ins Cc fs) (.ins Cc (putD f y fs)) M2 M3 ∧ Cls K Cc ∧ NoAttr K Cc f ∧ fs.length < 1000 ∧ P.nx L M3) : WS K C (sFld K ta tv f) L M P := fun G σ H D g I s k =>
  h G σ H _ g I s fun v y G1 M1 H1 e1 I1 r1 h1 => h1 G1 σ H1 _ (g.trans e1) I1 (s.mono e1) fun u x G2 M2 H2 e2 I2 r2 ⟨p, Cc, fs, M3, e, hp, hc, hn, hl, q⟩ => by
    subst e
    cases r2
    obtain ⟨o, ho, r0⟩ := I2.hadP hp
    obtain ⟨dx, xs, rfl, r⟩ := r0.ins_inv
    refine ⟨p, Cc, dx, xs, rfl, ho, hc, hn, by rw [r.len]; exact hl, ?_⟩
    exact k.nx _ _ _ M3 _ (e1.trans e2) (I2.put hp (.ins (r.put (r1.mono e2)))) ((s.mono e1).mono e2) q

/-! ### statements -/
theorem Cont.back {G' : Hp} {D : Ends} (k : Cont K C G P D) (e : Same G G') : Cont K C G' P D :=
  ⟨fun σ' L' G' M' H' a => k.nx σ' L' G' M' H' (e.trans a), fun v d G' M' H' a => k.rt v d G' M' H' (e.trans a), fun σ' L' G' M' H' a => k.bk σ' L' G' M' H' (e.trans a), fun σ' L' G' M' H' a => k.ct σ' L' G' M' H' (e.trans a)⟩
theorem ws_next (q : P.nx L M) : WS K C tNext L M P := fun G σ H D g I s k => k.nx _ _ _ _ _ (Same.refl G) I s q
theorem ws_brk (q : P.bk L M) : WS K C tBreak L M P := fun G σ H D g I s k => k.bk _ _ _ _ _ (Same.refl G) I s q
theorem ws_cont (q : P.ct L M) : WS K C tCont L M P := fun G σ H D g I s k => k.ct _ _ _ _ _ (Same.refl G) I s q
theorem ws_seq {t u : TS} (h : WS K C t L M { P with nx := fun L1 M1 => WS K C u L1 M1 P }) : WS K C (tSeq t u) L M P := fun G σ H D g I s k =>
  h G σ H { D with nx := u D } g I s ⟨fun σ' L' G' M' H' a b c q => q G' σ' H' D (g.trans a) b c (k.back a), k.rt, k.bk, k.ct⟩
theorem ws_cut {t u : TS} (Mid : LS → MS → Prop) (h : WS K C t L M { P with nx := Mid }) (h2 : ∀ L1 M1, Mid L1 M1 → WS K C u L1 M1 P) : WS K C (tSeq t u) L M P :=
  ws_seq (h.imp (fun L M q => h2 L M q) (fun _ _ q => q) (fun _ _ q => q) (fun _ _ q => q))
theorem ws_asg {te : TE} {gt : TG} (h : WE K C te L M fun d M1 => WG K C gt d L M1 P.nx) : WS K C (tAsg te gt) L M P := fun G σ H D g I s k =>
  h G σ H _ g I s fun v d G1 M1 H1 e1 I1 r1 h1 => h1 G1 σ H1 v _ (g.trans e1) I1 (s.mono e1) r1 fun σ' L' G' M' H' a b c q => k.nx _ _ _ _ _ (e1.trans a) b c q
theorem wg_name {i : Nat} {d : Dat} {QG : LS → MS → Prop} (q : QG (L.set i (some d)) M) : WG K C (gName i) d L M QG := fun G σ H v R g I s r k => k _ _ _ _ _ (Same.refl G) I (Sl.set i s r) q
theorem wgs_nil {QG : LS → MS → Prop} (q : QG L M) : WGs K C gNil [] L M QG := fun G σ H v R g I s r k => by
  cases r
  exact ⟨rfl, k _ _ _ _ _ (Same.refl G) I s q⟩
theorem wgs_cons {gt : TG} {gs : TGs} {d : Dat} {ds : List Dat} {QG : LS → MS → Prop} (h : WG K C gt d L M fun L1 M1 => WGs K C gs ds L1 M1 QG) : WGs K C (gCons gt gs) (d :: ds) L M QG := fun G σ H vs R g I s r k => by
  cases r with
  | cons r1 r2 =>
    exact ⟨_, _, rfl, h G σ H _ _ g I s r1 fun σ' L' G' M' H' a b c q => q G' σ' H' _ R (g.trans a) b c (r2.mono a) fun σ' L' G' M' H' a' b c q => k _ _ _ _ _ (a.trans a') b c q⟩
theorem wg_tup {n : Nat} {gs : TGs} {ds : List Dat} {QG : LS → MS → Prop} (hn : ds.length = n) (h : WGs K C gs ds L M QG) : WG K C (gTup K n gs) (.tup ds) L M QG := fun G σ H v R g I s r k => by
  cases r with
  | tup hs r => exact ⟨_, _, rfl, Same.sqT I.same hs, by rw [r.length]; exact hn, h G σ H _ R g I s r k⟩
theorem ws_ret {te : TE} (h : WE K C te L M P.rt) : WS K C (tRet te) L M P := fun G σ H D g I s k => h G σ H _ g I s fun v d G' M' H' a b c q => k.rt _ _ _ _ _ a b c q
theorem ws_retN (q : P.rt .non M) : WS K C tRetN L M P := fun G σ H D g I s k => k.rt _ _ _ _ _ (Same.refl G) I .non q
theorem ws_drop {te : TE} (h : WE K C te L M fun _ M1 => P.nx L M1) : WS K C (tDrop te) L M P := fun G σ H D g I s k => h G σ H _ g I s fun v d G' M' H' a b c q => k.nx _ _ _ _ _ a b (s.mono a) q
theorem ws_if {c : TT} {t u : TS} (h : WT K C c L M fun b M1 => (b = true → WS K C t L M1 P) ∧ (b = false → WS K C u L M1 P)) : WS K C (tIfS c t u) L M P := fun G σ H D g I s k =>
  h G σ H _ g I s fun b G1 M1 H1 e1 I1 q => by
    cases b with
    | true => exact iteT (q.1 rfl G1 σ H1 D (g.trans e1) I1 (s.mono e1) (k.back e1))
    | false => exact iteF (q.2 rfl G1 σ H1 D (g.trans e1) I1 (s.mono e1) (k.back e1))
theorem ws_par {i j : Nat} {ta : TA} (h : WA K C ta L M fun ds M1 => ∃ x y, ds = [x, y] ∧ P.nx ((L.set i (some x)).set j (some y)) M1) : WS K C (tPar i j ta) L M P := fun G σ H D g I s k =>
  h G σ H _ g I s fun vs ds G1 M1 H1 e1 I1 r1 ⟨x, y, e, q⟩ => by
    subst e
    cases r1 with
    | cons a r =>
      cases r with
      | cons b r =>
        cases r
        exact ⟨_, _, rfl, k.nx _ _ _ _ _ e1 I1 (Sl.set j (Sl.set i (s.mono e1) a) b) q⟩
theorem ws_aug {i : Nat} {te : TE} {f : Int → Int → Int} {a : Int} (hx : L[i]? = some (some (.int a))) (h : WE K C te L M fun y M1 => ∃ b, y = .int b ∧ P.nx (L.set i (some (.int (f a b)))) M1) : WS K C (tAug i te (ipI f)) L M P := fun G σ H D g I s k => by
  obtain ⟨v, hv, rv⟩ := s.get hx
  cases rv
  refine ⟨_, hv, h G σ H _ g I s fun u y G1 M1 H1 e1 I1 r1 ⟨b, e, q⟩ => ?_⟩
  subst e
  cases r1
  exact ⟨a, b, rfl, rfl, k.nx _ _ _ _ _ e1 I1 (Sl.set i (s.mono e1) (.int _)) q⟩
/-! ### loops -/
theorem ws_for {wi : TI} {gt : TG} {tb : TS} (h : WI K C wi L M fun ds M1 => ∃ Iv : Nat → LS → MS → Prop, Iv 0 L M1 ∧
    (∀ i x L M, ds[i]? = some x → Iv i L M → WG K C gt x L M fun L2 M2 => WS K C tb L2 M2 { nx := Iv (i + 1), rt := P.rt, ct := Iv (i + 1), bk := P.nx }) ∧ ∀ L M, Iv ds.length L M → P.nx L M) : WS K C (tFor wi gt tb) L M P := fun G σ H D g I s k =>
  h G σ H _ g I s fun J ds G1 M1 H1 e1 I1 it ⟨Iv, h0, hs, hd⟩ => by
    refine ⟨fun i m σ H => m = ds.length - i ∧ i ≤ ds.length ∧ ∃ L M G, Same G1 G ∧ Own K H G (M ++ C.F) ∧ Sl K G σ L ∧ Iv i L M, ⟨ds.length, by simp, Nat.zero_le _, L, M1, G1, Same.refl _, I1, s.mono e1, h0⟩, ?_⟩
    rintro i m σ H ⟨rfl, hi, L, M, G2, e2, I2, s2, hI⟩
    obtain ⟨st, go⟩ := it G2 H (M ++ C.F) e2 I2
    by_cases hlt : i < ds.length
    · obtain ⟨g1, g2⟩ := go i hlt
      refine .inr ⟨g1, fun σ' H' => ∃ L M G, Same G1 G ∧ Own K H' G (M ++ C.F) ∧ Sl K G σ' L ∧ Iv (i + 1) L M, fun σ' H' z => ⟨ds.length - (i + 1), by omega, rfl, hlt, z⟩, fun x H' y => ?_⟩
      obtain ⟨G3, e3, I3, d, hd', r3⟩ := g2 x H' y
      refine hs i d L M hd' hI G3 σ H' x _ ((((g.trans e1).trans e2)).trans e3) I3 (s2.mono e3) r3 fun σ4 L4 G4 M4 H4 e4 I4 s4 q => ?_
      refine q G4 σ4 H4 _ (((((g.trans e1).trans e2)).trans e3).trans e4) I4 s4 ⟨fun σ' L' G' M' H' a b c q => ⟨L', M', G', ((e2.trans e3).trans e4).trans a, b, c, q⟩, fun v d G' M' H' a => k.rt v d G' M' H' ((((e1.trans e2)).trans e3).trans e4 |>.trans a), fun σ' L' G' M' H' a => k.nx σ' L' G' M' H' ((((e1.trans e2)).trans e3).trans e4 |>.trans a), fun σ' L' G' M' H' a b c q => ⟨L', M', G', ((e2.trans e3).trans e4).trans a, b, c, q⟩⟩
    · have e : i = ds.length := by omega
      subst e
      exact .inl ⟨st, k.nx _ _ _ _ _ (e1.trans e2) I2 s2 (hd _ _ hI)⟩
theorem ws_while {c : TT} {tb : TS} (Iv : Nat → LS → MS → Prop) (m0 : Nat) (h0 : Iv m0 L M)
    (hs : ∀ m L M, Iv m L M → WT K C c L M fun b M1 => (b = true → WS K C tb L M1 { nx := fun L M => ∃ m', m' < m ∧ Iv m' L M, rt := P.rt, ct := fun L M => ∃ m', m' < m ∧ Iv m' L M, bk := P.nx }) ∧ (b = false → P.nx L M1)) : WS K C (tWhile c tb) L M P := fun G σ H D g I s k => by
  refine ⟨fun m σ H => ∃ L M G1, Same G G1 ∧ Own K H G1 (M ++ C.F) ∧ Sl K G1 σ L ∧ Iv m L M, ⟨m0, L, M, G, Same.refl _, I, s, h0⟩, ?_⟩
  rintro m σ H ⟨L, M, G1, e1, I1, s1, hI⟩
  refine hs m L M hI G1 σ H _ (g.trans e1) I1 s1 fun b G2 M2 H2 e2 I2 q => ?_
  cases b with
  | false => exact iteF (k.nx _ _ _ _ _ (e1.trans e2) I2 (s1.mono e2) (q.2 rfl))
  | true =>
    refine iteT ⟨fun σ' H' => ∃ m', m' < m ∧ ∃ L M G1, Same G G1 ∧ Own K H' G1 (M ++ C.F) ∧ Sl K G1 σ' L ∧ Iv m' L M, fun σ' H' z => z, ?_⟩
    refine q.1 rfl G2 σ H2 _ ((g.trans e1).trans e2) I2 (s1.mono e2) ⟨fun σ' L' G' M' H' a b c ⟨m', hm, q⟩ => ⟨m', hm, L', M', G', (e1.trans e2).trans a, b, c, q⟩, fun v d G' M' H' a => k.rt v d G' M' H' ((e1.trans e2).trans a), fun σ' L' G' M' H' a => k.nx σ' L' G' M' H' ((e1.trans e2).trans a), fun σ' L' G' M' H' a b c ⟨m', hm, q⟩ => ⟨m', hm, L', M', G', (e1.trans e2).trans a, b, c, q⟩⟩
end
end Sy

/-! Operators whatever the operands are; their symbolic rules. -/
namespace Sy
open PySem PySem.Spec PyProof.Rows L2 TL

abbrev S (l : List Nat) : Str := ⟨l.toArray⟩
abbrev T (s : String) : List Nat := s.toList.map Char.toNat
theorem lit_S (s : String) : Str.ofString s = S (T s) := ext_tl (tl_ofString s)
theorem S_tl (x : Str) : S (tl x) = x := mk_tl x
theorem S_len (l : List Nat) : (S l).length = l.length := by simp [Str.length]
theorem S_app (a b : List Nat) : S a ++ S b = S (a ++ b) := ext_tl (by rw [tl_append])
theorem S_inj {a b : List Nat} (h : S a = S b) : a = b := by
  have e := congrArg tl h
  exact e
theorem S_eq {a b : List Nat} : S a = S b ↔ a = b := ⟨S_inj, fun e => by rw [e]⟩

section
variable {X : Cx}
/-! ### + -/
theorem op_catL : OpR X (binaryOp .Add) (fun x y H Q => ∃ l b xs zs, x = .ref l ∧ y = .ref b ∧ SqL X.K H l xs ∧ SqL X.K H b zs ∧ xs.length + zs.length ≤ sizeLine ∧ ∀ p, H p = none → Q (.ref p) (upd H p (.lst (xs ++ zs)))) := by
  intro pins s σ H x y v u Q I rx ry h
  obtain ⟨l, b, xs, zs, rfl, rfl, hH, hB, hz, q⟩ := h
  cases rx
  cases ry
  obtain ⟨its, r, ⟨⟨cls, dd, data, sl⟩, n, ho, hc, _, hd⟩, hl⟩ := I.list hH
  obtain ⟨its2, r2, ⟨⟨cls2, dd2, data2, sl2⟩, n2, ho2, hc2, _, hd2⟩, hl2⟩ := I.list hB
  simp only at hc hd hc2 hd2
  subst hc hd hc2 hd2
  have e1 := r.length
  have e2 := r2.length
  refine concat_meets ⟨_, ho, rfl⟩ ⟨_, ho2, rfl⟩ noFill_list_add seq_list_add PySem.F.slot_list_add PySem.F.entry_list_add (PySem.F.args_list_add_2 _ _) (list_addW l b its.toArray its2.toArray n n2 dd dd2 sl sl2 (by rw [List.size_toArray, List.size_toArray]; omega)) ⟨ho, ho2, ?_⟩
  have ea : its.toArray ++ its2.toArray = (its ++ its2).toArray := by simp
  rw [ea]
  exact ⟨.ref _, _, I.lnew (t' := s.toks) (r.append r2) (by rw [List.length_append]; omega), rfl, q _ I.fresh⟩
def rAddU (K : PySem.W.Frag) : R2 := fun x y H Q => rI0 (fun i j => .int (i + j)) x y H Q ∨ (∃ i j, x = .str i ∧ y = .str j ∧ i.length + j.length ≤ sizeLine ∧ Q (.str (i ++ j)) H) ∨
  (∃ l b xs zs, x = .ref l ∧ y = .ref b ∧ SqL K H l xs ∧ SqL K H b zs ∧ xs.length + zs.length ≤ sizeLine ∧ ∀ p, H p = none → Q (.ref p) (upd H p (.lst (xs ++ zs)))) ∨ rCatA K x y H Q
theorem op_addU : OpR X (binaryOp .Add) (rAddU X.K) := op_add.or (op_add_str.or (op_catL.or op_catA))
/-! ### * -/
theorem foldl_rep {α : Type} (l : List α) : ∀ (k : Nat) (acc : List α), List.foldl (fun x1 x2 => x1 ++ x2) acc.toArray (List.replicate k l.toArray) = (acc ++ (List.replicate k l).flatten).toArray
  | 0, acc => by simp
  | k + 1, acc => by
    have e : acc.toArray ++ l.toArray = (acc ++ l).toArray := by simp
    rw [List.replicate_succ, List.foldl_cons, e, foldl_rep l k, List.replicate_succ, List.flatten_cons, List.append_assoc]
theorem op_repS : OpR X (binaryOp .Mult) (fun x y H Q => ∃ (l : List Nat) (k : Nat), x = .str (S l) ∧ y = .int k ∧ k ≤ 1000000 ∧ l.length * k ≤ 1000000 ∧ Q (.str (S (List.replicate k l).flatten)) H) := by
  intro pins s σ H x y v u Q I rx ry h
  obtain ⟨l, k, rfl, rfl, hk, hz, q⟩ := h
  obtain ⟨t, rfl⟩ := rx
  obtain ⟨t2, rfl⟩ := ry
  have hs : (sizeLine : Nat) = 16777216 := sizeLine_eq
  refine PySem.P.mul_str ?_ ?_ ?_ ?_
  · have h1 : ¬ ((k : Int) < -(2 ^ 63 : Int)) := by omega
    have h2 : ¬ ((k : Int) ≥ 2 ^ 63) := by omega
    rw [decide_eq_false h1, decide_eq_false h2]
    rfl
  · intro h1 _ h2
    have hk1 : 1 ≤ k := by omega
    have : ((S l).length : Int) ≤ (2 ^ 63 - 1) / (k : Int) := by
      refine (Int.le_ediv_iff_mul_le (by omega)).mpr ?_
      rw [S_len]
      have : (l.length : Int) * (k : Int) = ((l.length * k : Nat) : Int) := by simp
      omega
    omega
  · intro h1 _
    have e : (S l).length * ((k : Int).toNat) ≤ 1000000 := by
      rw [S_len, Int.toNat_natCast]
      exact hz
    simp only [Builtin.Str.tooLong, decide_eq_false_iff_not]
    omega
  · split
    · have k0 : k = 0 := by omega
      subst k0
      refine ⟨by decide, ⟨.str (S (List.replicate 0 l).flatten), H, I.tok _, ⟨_, rfl⟩, q⟩⟩
    · split
      · rename_i h1 h2
        refine ⟨.str (S (List.replicate k l).flatten), H, I, ?_, q⟩
        have e : S (List.replicate k l).flatten = S l := by
          rw [Bool.or_eq_true] at h2
          rcases h2 with h2 | h2
          · have : k = 1 := by
              have := beq_iff_eq.mp h2
              omega
            subst this
            simp
          · have : l = [] := by
              have h3 := beq_iff_eq.mp h2
              rw [S_len] at h3
              exact List.length_eq_zero_iff.mp h3
            subst this
            simp
        rw [e]
        exact ⟨t, rfl⟩
      · have e : (List.replicate ((k : Int).toNat) (S l).cps).foldl (fun x1 x2 => x1 ++ x2) #[] = ((List.replicate k l).flatten).toArray := by
          have := foldl_rep l k []
          simpa using this
        rw [e]
        refine ⟨?_, ⟨.str (S (List.replicate k l).flatten), H, I.tok _, ⟨_, rfl⟩, q⟩⟩
        show (((List.replicate k l).flatten).toArray).size ≤ sizeLine
        rw [List.size_toArray, List.length_flatten, List.map_replicate, List.sum_replicate_nat]
        have : k * l.length = l.length * k := Nat.mul_comm _ _
        omega
def rMulU : R2 := fun x y H Q => rI CMul (fun i j => .int (i * j)) x y H Q ∨ (∃ (l : List Nat) (k : Nat), x = .str (S l) ∧ y = .int k ∧ k ≤ 1000000 ∧ l.length * k ≤ 1000000 ∧ Q (.str (S (List.replicate k l).flatten)) H) ∨ rRep x y H Q
theorem op_mulU : OpR X (binaryOp .Mult) rMulU := op_mul.or (op_repS.or op_rep)
/-! ### == -/
def rEqU (K : PySem.W.Frag) : R2 := fun x y H Q => rEq x y H Q ∨ rEqD K x y H Q
def rNeU (K : PySem.W.Frag) : R2 := fun x y H Q => rNe x y H Q ∨ rNeD K x y H Q
theorem op_eqU (hu : X.A.units + 64 < cLine) : OpR X (compareOp .Eq) (rEqU X.K) := op_eq.or (op_eqD hu)
theorem op_neU (hu : X.A.units + 64 < cLine) : OpR X (compareOp .NotEq) (rNeU X.K) := op_ne.or (op_neD hu)
/-! ### in -/
def rInT (K : PySem.W.Frag) : R2 := fun x y H Q => ∃ d ds, Dp K H x d ∧ Dp K H y (.tuple ds) ∧ SeqAt.shaped d = true ∧ SeqAt.shaped (.tuple ds) = true ∧ Q (.bl (ds.any fun z => PyData.eqv z d)) H
def rNotInT (K : PySem.W.Frag) : R2 := fun x y H Q => ∃ d ds, Dp K H x d ∧ Dp K H y (.tuple ds) ∧ SeqAt.shaped d = true ∧ SeqAt.shaped (.tuple ds) = true ∧ Q (.bl (!ds.any fun z => PyData.eqv z d)) H
theorem op_inT (hu : X.A.units + 65 < cLine) : OpR X (compareOp .In) (rInT X.K) := by
  intro pins s σ H x y v u Q I rx ry h
  obtain ⟨d, ds, hd, he, sd, se, q⟩ := h
  obtain ⟨as, r1⟩ := Dp.reads I d x v hd rx
  obtain ⟨bs, r2⟩ := Dp.reads I (.tuple ds) y u he ry
  exact SeqAt.in_tuple_reads r2 r1 (SeqAt.canLay_of_shaped se) (SeqAt.canLay_of_shaped sd) (room_in_shaped sd hu) ⟨.bl _, H, I, rfl, q⟩
theorem op_notInT (hu : X.A.units + 65 < cLine) : OpR X (compareOp .NotIn) (rNotInT X.K) := by
  intro pins s σ H x y v u Q I rx ry h
  obtain ⟨d, ds, hd, he, sd, se, q⟩ := h
  obtain ⟨as, r1⟩ := Dp.reads I d x v hd rx
  obtain ⟨bs, r2⟩ := Dp.reads I (.tuple ds) y u he ry
  exact SeqAt.notIn_tuple_reads r2 r1 (SeqAt.canLay_of_shaped se) (SeqAt.canLay_of_shaped sd) (room_in_shaped sd hu) ⟨.bl _, H, I, rfl, q⟩
def rInU (K : PySem.W.Frag) : R2 := fun x y H Q => rIn K false x y H Q ∨ (∃ (c : Nat) (z : Str), x = .str ⟨#[c]⟩ ∧ y = .str z ∧ Q (.bl (decide (c ∈ z.cps.toList))) H) ∨ rInD K x y H Q ∨ rInT K x y H Q
def rNotInU (K : PySem.W.Frag) : R2 := fun x y H Q => rIn K true x y H Q ∨ (∃ (c : Nat) (z : Str), x = .str ⟨#[c]⟩ ∧ y = .str z ∧ Q (.bl (!decide (c ∈ z.cps.toList))) H) ∨ rNotInD K x y H Q ∨ rNotInT K x y H Q
theorem op_inU (hu : X.A.units + 65 < cLine) : OpR X (compareOp .In) (rInU X.K) := op_in_seq.or (op_in_sign.or ((op_inD hu).or (op_inT hu)))
theorem op_notInU (hu : X.A.units + 65 < cLine) : OpR X (compareOp .NotIn) (rNotInU X.K) := op_notIn_seq.or (op_notIn_sign.or ((op_notInD hu).or (op_notInT hu)))
/-! ### slices, len -/
def rSlU (K : PySem.W.Frag) : V → Option Int → Option Int → Hp → VK → Prop := fun x lo hi H Q => rSlS x lo hi H Q ∨ rSlL K x lo hi H Q ∨ rSlA K x lo hi H Q
theorem sl_U : L2.SlR X (rSlU X.K) := sl_str.or (sl_list.or sl_tupA)
end

/-! ## the symbolic rules -/
section
variable {K : PySem.W.Frag} {C : Ctx} {L : LS} {M : MS} {Q : Dat → MS → Prop}
theorem wr_add_i {i j : Int} (q : Q (.int (i + j)) M) : WR K C (rAddU K) (.int i) (.int j) M Q := fun G H v u R g I r1 r2 k => by
  cases r1
  cases r2
  exact .inl ⟨i, j, rfl, rfl, k _ _ _ _ _ (Same.refl G) I (.int _) q⟩
theorem wr_add_s {a b : List Nat} (hz : a.length + b.length ≤ 1000000) (q : Q (.str (S (a ++ b))) M) : WR K C (rAddU K) (.str (S a)) (.str (S b)) M Q := fun G H v u R g I r1 r2 k => by
  cases r1
  cases r2
  refine .inr (.inl ⟨_, _, rfl, rfl, by rw [S_len, S_len]; exact Nat.le_trans hz (by decide), ?_⟩)
  rw [S_app]
  exact k _ _ _ _ _ (Same.refl G) I (.str _) q
theorem wr_add_l {x y : Dat} {xs ys : List Dat} (hx : LstOf M x xs) (hy : LstOf M y ys) (hz : xs.length + ys.length ≤ 1000000) (q : ∀ p, Q (.own p) ((p, .lst (xs ++ ys)) :: M)) : WR K C (rAddU K) x y M Q := fun G H v u R g I r1 r2 k => by
  obtain ⟨a, vs, rfl, s1, l1⟩ := hx.get I r1
  obtain ⟨b, ws, rfl, s2, l2⟩ := hy.get I r2
  refine .inr (.inr (.inl ⟨a, b, vs, ws, rfl, rfl, s1, s2, by rw [l1.length, l2.length]; exact Nat.le_trans hz (by decide), fun p hp => ?_⟩))
  exact k _ _ G ((p, .lst (xs ++ ys)) :: M) _ (Same.refl G) (I.alloc hp (.lst (l1.append l2))) (.own p) (q p)
theorem wr_add_t {xs ys : List Dat} (hz : xs.length + ys.length ≤ 1000000) (q : Q (.tup (xs ++ ys)) M) : WR K C (rAddU K) (.tup xs) (.tup ys) M Q := fun G H v u R g I r1 r2 k => by
  cases r1 with
  | @tup a vs _ s1 l1 =>
    cases r2 with
    | @tup b ws _ s2 l2 =>
      refine .inr (.inr (.inr ⟨a, b, vs, ws, rfl, rfl, Same.sqT I.same s1, Same.sqT I.same s2, by rw [l1.length, l2.length]; exact Nat.le_trans hz (by decide), fun e => ?_, fun _ e => ?_, fun _ _ p hp => ?_⟩))
      · subst e
        cases l1
        exact k _ _ _ _ _ (Same.refl G) I (.tup s2 l2) q
      · subst e
        cases l2
        rw [List.append_nil] at q
        exact k _ _ _ _ _ (Same.refl G) I (.tup s1 l1) q
      · obtain ⟨gp, I2⟩ := I.lay (o := .tup (vs ++ ws)) hp
        exact k _ _ _ M _ (Same.new gp) I2 (.tup (SqT.of upd_same) ((l1.append l2).mono (Same.new gp))) q
theorem wr_sub {g : Int → Int → V} {f : Int → Int → Int} {i j : Int} (e : g = fun i j => .int (f i j)) (q : Q (.int (f i j)) M) : WR K C (rI0 g) (.int i) (.int j) M Q := fun G H v u R g I r1 r2 k => by
  subst e
  cases r1
  cases r2
  exact ⟨i, j, rfl, rfl, k _ _ _ _ _ (Same.refl G) I (.int _) q⟩
theorem wr_I {Cd : Int → Int → Prop} {g : Int → Int → V} {f : Int → Int → Int} {i j : Int} (e : g = fun i j => .int (f i j)) (hc : Cd i j) (q : Q (.int (f i j)) M) : WR K C (rI Cd g) (.int i) (.int j) M Q := fun G H v u R g I r1 r2 k => by
  subst e
  cases r1
  cases r2
  exact ⟨i, j, rfl, rfl, hc, k _ _ _ _ _ (Same.refl G) I (.int _) q⟩
theorem wr_mul_i {i j : Int} (hc : CMul i j) (q : Q (.int (i * j)) M) : WR K C rMulU (.int i) (.int j) M Q := fun G H v u R g I r1 r2 k => by
  cases r1
  cases r2
  exact .inl ⟨i, j, rfl, rfl, hc, k _ _ _ _ _ (Same.refl G) I (.int _) q⟩
theorem wr_mul_s {l : List Nat} {k : Nat} (hk : k ≤ 1000000) (hz : l.length * k ≤ 1000000) (q : Q (.str (S (List.replicate k l).flatten)) M) : WR K C rMulU (.str (S l)) (.int k) M Q := fun G H v u R g I r1 r2 kk => by
  cases r1
  cases r2
  exact .inr (.inl ⟨l, k, rfl, rfl, hk, hz, kk _ _ _ _ _ (Same.refl G) I (.str _) q⟩)
/-- comparisons of ints -/
theorem wr_cmp {g : Int → Int → V} {f : Int → Int → Bool} {i j : Int} (e : g = fun i j => .bl (f i j)) (q : Q (.bl (f i j)) M) : WR K C (rI0 g) (.int i) (.int j) M Q := fun G H v u R g I r1 r2 k => by
  subst e
  cases r1
  cases r2
  exact ⟨i, j, rfl, rfl, k _ _ _ _ _ (Same.refl G) I (.bl _) q⟩
theorem dec_i {i j : Int} : decide (V.int i = V.int j) = decide (i = j) := by
  rw [dec_int]
  exact Bool.beq_eq_decide_eq i j
theorem dec_b {i j : Bool} : decide (V.bl i = V.bl j) = decide (i = j) := by
  rw [dec_bl]
  exact Bool.beq_eq_decide_eq i j
theorem dec_s {i j : Str} : decide (V.str i = V.str j) = decide (i = j) := by
  by_cases h : i = j
  · subst h
    simp
  · have : ¬ (V.str i = V.str j) := fun e => h (V.str.inj e)
    rw [decide_eq_false h, decide_eq_false this]
theorem wr_eq_i {i j : Int} (q : Q (.bl (decide (i = j))) M) : WR K C (rEqU K) (.int i) (.int j) M Q := fun G H v u R g I r1 r2 k => by
  cases r1
  cases r2
  refine .inl ⟨rfl, ?_⟩
  rw [dec_i]
  exact k _ _ _ _ _ (Same.refl G) I (.bl _) q
theorem wr_ne_i {i j : Int} (q : Q (.bl (!decide (i = j))) M) : WR K C (rNeU K) (.int i) (.int j) M Q := fun G H v u R g I r1 r2 k => by
  cases r1
  cases r2
  refine .inl ⟨rfl, ?_⟩
  rw [dec_i]
  exact k _ _ _ _ _ (Same.refl G) I (.bl _) q
theorem wr_eq_s {i j : Str} (q : Q (.bl (decide (i = j))) M) : WR K C (rEqU K) (.str i) (.str j) M Q := fun G H v u R g I r1 r2 k => by
  cases r1
  cases r2
  refine .inl ⟨rfl, ?_⟩
  rw [dec_s]
  exact k _ _ _ _ _ (Same.refl G) I (.bl _) q
theorem wr_ne_s {i j : Str} (q : Q (.bl (!decide (i = j))) M) : WR K C (rNeU K) (.str i) (.str j) M Q := fun G H v u R g I r1 r2 k => by
  cases r1
  cases r2
  refine .inl ⟨rfl, ?_⟩
  rw [dec_s]
  exact k _ _ _ _ _ (Same.refl G) I (.bl _) q
theorem wr_isN_t (q : Q (.bl true) M) : WR K C (fun x y H Q => y = .non ∧ Q (.bl (decide (x = .non))) H) .non .non M Q := fun G H v u R g I r1 r2 k => by
  cases r1
  cases r2
  exact ⟨rfl, k _ _ _ _ _ (Same.refl G) I (.bl true) q⟩
theorem wr_notN_t (q : Q (.bl false) M) : WR K C (fun x y H Q => y = .non ∧ Q (.bl (!decide (x = .non))) H) .non .non M Q := fun G H v u R g I r1 r2 k => by
  cases r1
  cases r2
  exact ⟨rfl, k _ _ _ _ _ (Same.refl G) I (.bl false) q⟩
theorem rep_ne {G : Hp} {v : V} {d : Dat} (r : Rep K G v d) (h : d ≠ .non) : decide (v = .non) = false := by
  refine decide_eq_false fun e => ?_
  subst e
  cases r
  exact h rfl
theorem wr_isN_f {d : Dat} (hd : d ≠ .non) (q : Q (.bl false) M) : WR K C (fun x y H Q => y = .non ∧ Q (.bl (decide (x = .non))) H) d .non M Q := fun G H v u R g I r1 r2 k => by
  cases r2
  refine ⟨rfl, ?_⟩
  rw [rep_ne r1 hd]
  exact k _ _ _ _ _ (Same.refl G) I (.bl false) q
theorem wr_notN_f {d : Dat} (hd : d ≠ .non) (q : Q (.bl true) M) : WR K C (fun x y H Q => y = .non ∧ Q (.bl (!decide (x = .non))) H) d .non M Q := fun G H v u R g I r1 r2 k => by
  cases r2
  refine ⟨rfl, ?_⟩
  rw [rep_ne r1 hd]
  exact k _ _ _ _ _ (Same.refl G) I (.bl true) q
/-! ### data as == sees it -/
mutual
inductive Py (M : MS) : Dat → PyData → Prop
  | non : Py M .non .none
  | bl (b : Bool) : Py M (.bl b) (.bool b)
  | int (i : Int) : Py M (.int i) (.int i)
  | str (x : Str) : Py M (.str x) (.str x)
  | lst {d : Dat} {xs : List Dat} {es : List PyData} : LstOf M d xs → PyL M xs es → Py M d (.list es)
  | tup {xs : List Dat} {es : List PyData} : PyL M xs es → Py M (.tup xs) (.tuple es)
inductive PyL (M : MS) : List Dat → List PyData → Prop
  | nil : PyL M [] []
  | cons {d : Dat} {ds : List Dat} {e : PyData} {es : List PyData} : Py M d e → PyL M ds es → PyL M (d :: ds) (e :: es)
end
variable {G H : Hp}
mutual
theorem Py.dp (I : Own K H G (M ++ C.F)) : ∀ {d : Dat} {e : PyData} {v : V}, Py M d e → Rep K G v d → Dp K H v e
  | _, _, _, .non, r => by cases r; exact .non
  | _, _, _, .bl b, r => by cases r; exact .bl b
  | _, _, _, .int b, r => by cases r; exact .int b
  | _, _, _, .str b, r => by cases r; exact .str b
  | _, _, _, .lst h p, r => by
    obtain ⟨a, vs, rfl, s, l⟩ := h.get I r
    exact .lst s (PyL.dp I p l)
  | _, _, _, .tup p, r => by
    cases r with
    | tup s l => exact .tup (Same.sqT I.same s) (PyL.dp I p l)
theorem PyL.dp (I : Own K H G (M ++ C.F)) : ∀ {ds : List Dat} {es : List PyData} {vs : List V}, PyL M ds es → RepL K G vs ds → DpAll K H vs es
  | _, _, _, .nil, .nil => .nil
  | _, _, _, .cons p ps, .cons r rs => .cons (Py.dp I p r) (PyL.dp I ps rs)
end
theorem PyL.strs : ∀ xs : List Str, PyL M (xs.map Dat.str) (xs.map PyData.str)
  | [] => .nil
  | x :: xs => .cons (.str x) (PyL.strs xs)
theorem PyL.ints : ∀ xs : List Int, PyL M (xs.map Dat.int) (xs.map PyData.int)
  | [] => .nil
  | x :: xs => .cons (.int x) (PyL.ints xs)
theorem wr_eq_d {x y : Dat} {d e : PyData} (hx : Py M x d) (hy : Py M y e) (sd : SeqAt.shaped d = true) (se : SeqAt.shaped e = true) (q : Q (.bl (PyData.eqv d e)) M) : WR K C (rEqU K) x y M Q := fun G H v u R g I r1 r2 k =>
  .inr ⟨d, e, Py.dp I hx r1, Py.dp I hy r2, sd, se, k _ _ _ _ _ (Same.refl G) I (.bl _) q⟩
theorem wr_ne_d {x y : Dat} {d e : PyData} (hx : Py M x d) (hy : Py M y e) (sd : SeqAt.shaped d = true) (se : SeqAt.shaped e = true) (q : Q (.bl (!PyData.eqv d e)) M) : WR K C (rNeU K) x y M Q := fun G H v u R g I r1 r2 k =>
  .inr ⟨d, e, Py.dp I hx r1, Py.dp I hy r2, sd, se, k _ _ _ _ _ (Same.refl G) I (.bl _) q⟩
theorem wr_in_l {x y : Dat} {d : PyData} {ds : List PyData} (hx : Py M x d) (hy : Py M y (.list ds)) (sd : SeqAt.shaped d = true) (se : SeqAt.shaped (.list ds) = true) (q : Q (.bl (ds.any fun z => PyData.eqv z d)) M) : WR K C (rInU K) x y M Q := fun G H v u R g I r1 r2 k =>
  .inr (.inr (.inl ⟨d, ds, Py.dp I hx r1, Py.dp I hy r2, sd, se, k _ _ _ _ _ (Same.refl G) I (.bl _) q⟩))
theorem wr_in_t {x y : Dat} {d : PyData} {ds : List PyData} (hx : Py M x d) (hy : Py M y (.tuple ds)) (sd : SeqAt.shaped d = true) (se : SeqAt.shaped (.tuple ds) = true) (q : Q (.bl (ds.any fun z => PyData.eqv z d)) M) : WR K C (rInU K) x y M Q := fun G H v u R g I r1 r2 k =>
  .inr (.inr (.inr ⟨d, ds, Py.dp I hx r1, Py.dp I hy r2, sd, se, k _ _ _ _ _ (Same.refl G) I (.bl _) q⟩))
theorem wr_notin_l {x y : Dat} {d : PyData} {ds : List PyData} (hx : Py M x d) (hy : Py M y (.list ds)) (sd : SeqAt.shaped d = true) (se : SeqAt.shaped (.list ds) = true) (q : Q (.bl (!ds.any fun z => PyData.eqv z d)) M) : WR K C (rNotInU K) x y M Q := fun G H v u R g I r1 r2 k =>
  .inr (.inr (.inl ⟨d, ds, Py.dp I hx r1, Py.dp I hy r2, sd, se, k _ _ _ _ _ (Same.refl G) I (.bl _) q⟩))
theorem wr_notin_t {x y : Dat} {d : PyData} {ds : List PyData} (hx : Py M x d) (hy : Py M y (.tuple ds)) (sd : SeqAt.shaped d = true) (se : SeqAt.shaped (.tuple ds) = true) (q : Q (.bl (!ds.any fun z => PyData.eqv z d)) M) : WR K C (rNotInU K) x y M Q := fun G H v u R g I r1 r2 k =>
  .inr (.inr (.inr ⟨d, ds, Py.dp I hx r1, Py.dp I hy r2, sd, se, k _ _ _ _ _ (Same.refl G) I (.bl _) q⟩))
theorem wr_in_s {c : Nat} {l : List Nat} (q : Q (.bl (decide (c ∈ l))) M) : WR K C (rInU K) (.str (S [c])) (.str (S l)) M Q := fun G H v u R g I r1 r2 k => by
  cases r1
  cases r2
  exact .inr (.inl ⟨c, S l, rfl, rfl, k _ _ _ _ _ (Same.refl G) I (.bl _) q⟩)
theorem wr_notin_s {c : Nat} {l : List Nat} (q : Q (.bl (!decide (c ∈ l))) M) : WR K C (rNotInU K) (.str (S [c])) (.str (S l)) M Q := fun G H v u R g I r1 r2 k => by
  cases r1
  cases r2
  exact .inr (.inl ⟨c, S l, rfl, rfl, k _ _ _ _ _ (Same.refl G) I (.bl _) q⟩)
/-! ### subscripts -/
theorem wr_ix {x : Dat} {xs : List Dat} {i : Int} {d : Dat} (hx : SeqOf M x xs) (hi : atI xs i = some d) (q : Q d M) : WR K C (rIx K) x (.int i) M Q := fun G H v u R g I r1 r2 k => by
  obtain ⟨a, vs, rfl, s, l⟩ := hx.get I r1
  cases r2
  have : ∃ w, atI vs i = some w ∧ Rep K G w d := by
    unfold atI at hi ⊢
    rw [l.length]
    cases e : ixN xs.length i with
    | none => rw [e] at hi; cases hi
    | some j =>
      rw [e] at hi
      exact l.get hi
  obtain ⟨w, hw, rw'⟩ := this
  rcases s with s | s
  · exact .inl ⟨a, vs, i, w, rfl, rfl, s, hw, k _ _ _ _ _ (Same.refl G) I rw' q⟩
  · exact .inr (.inl ⟨a, vs, i, w, rfl, rfl, s, hw, k _ _ _ _ _ (Same.refl G) I rw' q⟩)
theorem wr_ix_s {l : List Nat} {i : Int} {c : Nat} (hl : l.length ≤ 1000000) (hi : atI l i = some c) (q : Q (.str (S [c])) M) : WR K C (rIx K) (.str (S l)) (.int i) M Q := fun G H v u R g I r1 r2 k => by
  cases r1
  cases r2
  exact .inr (.inr ⟨S l, i, c, rfl, rfl, by rw [S_len]; exact Nat.le_trans hl (by decide), hi, k _ _ _ _ _ (Same.refl G) I (.str _) q⟩)
/-! ### slices -/
def cut {α : Type} (xs : List α) (lo hi : Option Int) : List α := (xs.drop (HT.sIx xs.length 0 lo)).take (HT.sIx xs.length xs.length hi - HT.sIx xs.length 0 lo)
theorem cut_rep {vs : List V} {ds : List Dat} (lo hi : Option Int) (r : RepL K G vs ds) : RepL K G (cutV vs lo hi) (cut ds lo hi) := by
  unfold cutV cut
  rw [r.length]
  exact (r.drop _).take _
theorem wsl_s {l : List Nat} {lo hi : Option Int} (hl : l.length ≤ 1000000) (q : Q (.str (S (cut l lo hi))) M) : WSl K C (rSlU K) (.str (S l)) lo hi M Q := fun G H v R g I r k => by
  cases r
  refine .inl ⟨S l, rfl, by rw [S_len]; exact Nat.le_trans hl (by decide), ?_⟩
  have e : cutS (S l) lo hi = S (cut l lo hi) := by
    unfold cutS cut
    rw [S_len]
  rw [e]
  exact k _ _ _ _ _ (Same.refl G) I (.str _) q
theorem wsl_l {x : Dat} {xs : List Dat} {lo hi : Option Int} (hx : LstOf M x xs) (q : ∀ p, Q (.own p) ((p, .lst (cut xs lo hi)) :: M)) : WSl K C (rSlU K) x lo hi M Q := fun G H v R g I r k => by
  obtain ⟨a, vs, rfl, s, l⟩ := hx.get I r
  refine .inr (.inl ⟨a, vs, rfl, s, fun p hp => ?_⟩)
  exact k _ _ G ((p, .lst (cut xs lo hi)) :: M) _ (Same.refl G) (I.alloc hp (.lst (cut_rep lo hi l))) (.own p) (q p)
theorem cutV_whole {xs : List V} {lo hi : Option Int} (h : HT.sIx xs.length 0 lo = 0 ∧ HT.sIx xs.length xs.length hi = xs.length) : cutV xs lo hi = xs := by
  unfold cutV
  rw [h.1, h.2]
  simp
theorem wsl_t {xs : List Dat} {lo hi : Option Int} (q : Q (.tup (cut xs lo hi)) M) : WSl K C (rSlU K) (.tup xs) lo hi M Q := fun G H v R g I r k => by
  cases r with
  | @tup a vs _ s l =>
    have rc := cut_rep lo hi l
    refine .inr (.inr ⟨a, vs, rfl, Same.sqT I.same s, fun hw => ?_, fun hw p hp => ?_⟩)
    · rw [cutV_whole hw] at rc
      exact k _ _ _ _ _ (Same.refl G) I (.tup s rc) q
    · obtain ⟨gp, I2⟩ := I.lay (o := .tup (cutV vs lo hi)) hp
      exact k _ _ _ M _ (Same.new gp) I2 (.tup (SqT.of upd_same) (rc.mono (Same.new gp))) q
/-! ### len, int -/
abbrev rLen (K : PySem.W.Frag) : List V → Hp → VK → Prop := fun xs H Q => ∃ x n, xs = [x] ∧ LenV K x H n ∧ Q (.int n) H
theorem wc_len {x : Dat} {xs : List Dat} (hx : SeqOf M x xs) (q : Q (.int (xs.length : Nat)) M) : WC K C (rLen K) [x] M Q := fun G H vs R g I r k => by
  cases r with
  | cons r rr =>
    cases rr
    obtain ⟨a, vs, rfl, s, l⟩ := hx.get I r
    refine ⟨_, vs.length, rfl, ?_, ?_⟩
    · rcases s with s | s
      · exact .inl ⟨vs, s, rfl⟩
      · exact .inr ⟨vs, s, rfl⟩
    · rw [l.length]
      exact k _ _ _ _ _ (Same.refl G) I (.int _) q
theorem wc_len_s {l : List Nat} (hl : l.length ≤ 1000000) (q : Q (.int (l.length : Nat)) M) : WC K C (rLen K) [.str (S l)] M Q := fun G H vs R g I r k => by
  cases r with
  | cons r rr =>
    cases rr
    cases r
    refine ⟨_, (S l).length, rfl, ⟨by rw [S_len]; exact Nat.le_trans hl (by decide), rfl⟩, ?_⟩
    rw [S_len]
    exact k _ _ _ _ _ (Same.refl G) I (.int _) q
abbrev rInt1 : List V → Hp → VK → Prop := fun xs H Q => (∃ i, xs = [.int i] ∧ Q (.int i) H) ∨ ∃ k, xs = [.bl k] ∧ Q (.int (if k then 1 else 0)) H
theorem wc_int_b {b : Bool} (q : Q (.int (if b then 1 else 0)) M) : WC K C rInt1 [.bl b] M Q := fun G H vs R g I r k => by
  cases r with
  | cons r rr =>
    cases rr
    cases r
    exact .inr ⟨b, rfl, k _ _ _ _ _ (Same.refl G) I (.int _) q⟩
theorem wc_int_i {i : Int} (q : Q (.int i) M) : WC K C rInt1 [.int i] M Q := fun G H vs R g I r k => by
  cases r with
  | cons r rr =>
    cases rr
    cases r
    exact .inl ⟨i, rfl, k _ _ _ _ _ (Same.refl G) I (.int _) q⟩
/-! ### methods of texts, of lists -/
abbrev rSw : V → List V → Hp → VK → Prop := fun x xs H Q => ∃ a b, x = .str a ∧ xs = [.str b] ∧ Q (.bl (Txt.startswith a b)) H
theorem sw_eq (a b : List Nat) : Txt.startswith (S a) (S b) = b.isPrefixOf a := by
  unfold Txt.startswith
  rw [PySem.StrLaws.subAt_eq]
  show (decide (0 + (S b).length ≤ (S a).length) && (a.drop 0).take (S b).length == b) = _
  rw [S_len, S_len, List.drop_zero, Nat.zero_add]
  by_cases h : b <+: a
  · rw [List.isPrefixOf_iff_prefix.mpr h]
    obtain ⟨r, rfl⟩ := h
    simp
  · have h2 : b.isPrefixOf a = false := by
      cases e : b.isPrefixOf a with
      | false => rfl
      | true => exact absurd (List.isPrefixOf_iff_prefix.mp e) h
    rw [h2]
    cases e : (decide (b.length ≤ a.length) && List.take b.length a == b) with
    | false => rfl
    | true =>
      rw [Bool.and_eq_true] at e
      exact absurd (beq_iff_eq.mp e.2 ▸ List.take_prefix _ _) h
theorem wm_sw {a b : List Nat} (q : Q (.bl (b.isPrefixOf a)) M) : WM K C rSw (.str (S a)) [.str (S b)] M Q := fun G H v vs R g I r rs k => by
  cases r
  cases rs with
  | cons r rr =>
    cases rr
    cases r
    refine ⟨_, _, rfl, rfl, ?_⟩
    rw [sw_eq]
    exact k _ _ _ _ _ (Same.refl G) I (.bl _) q
theorem wm_append {p : Addr} {xs : List Dat} {y : Dat} {M' : MS} (hp : Put p (.lst xs) (.lst (xs ++ [y])) M M') (hz : xs.length < 1000000) (q : Q .non M') : WM K C rAppend (.own p) [y] M Q := fun G H v vs R g I r rs k => by
  cases r
  cases rs with
  | cons r rr =>
    cases rr
    obtain ⟨o, ho, r0⟩ := I.hadP hp
    obtain ⟨ws, rfl, l⟩ := r0.lst_inv
    refine ⟨p, ws, _, rfl, rfl, ho, by rw [l.length]; exact Nat.lt_of_lt_of_le hz (by decide), ?_⟩
    exact k _ _ _ M' _ (Same.refl G) (I.put hp (.lst (l.snoc r))) .non q
end
end Sy

/-! Defs, calls, classes, exceptions, what is walked, comprehensions. -/
namespace Sy
open PySem PySem.Spec PyProof.Rows L2 TL

/-- a def's promise over data -/
abbrev AS := List Dat → MS → (Dat → MS → Prop) → (Exn → MS → Prop) → Prop
def SpF (K : PySem.W.Frag) (spec : AS) : Sp := fun vs H Q E => ∃ (G : Hp) (ds : List Dat) (M F : MS) (q : Dat → MS → Prop) (e : Exn → MS → Prop), Own K H G (M ++ F) ∧ RepL K G vs ds ∧ spec ds M q e ∧
  (∀ v d G' M' H', Same G G' → Own K H' G' (M' ++ F) → Rep K G' v d → q d M' → Q v H') ∧ XE K ⟨G, F⟩ E e
theorem SpF.len {K : PySem.W.Frag} {spec : AS} {n : Nat} (h : ∀ ds M q e, spec ds M q e → ds.length = n) : ∀ vs H Q E, SpF K spec vs H Q E → vs.length = n := fun vs H Q E ⟨G, ds, M, F, q, e, _, r, s, _⟩ => by
  rw [r.length]
  exact h _ _ _ _ s
/-- the answer as it is wanted: owned objects dropped, frozen -/
inductive Fin (q : Dat → MS → Prop) : Dat → MS → Prop
  | ret {d : Dat} {M : MS} : q d M → Fin q d M
  | drop {d x : Dat} {p : Addr} {M M' : MS} : Del p x M M' → Fin q d M' → Fin q d M
  | fz {d : Dat} {p : Addr} {M M' : MS} : Del p d M M' → Fin q d M' → Fin q (.own p) M
theorem Fin.nil {q : Dat → MS → Prop} {d : Dat} (h : q d []) : ∀ M : MS, Fin q d M
  | [] => .ret h
  | (_, _) :: M => .drop .here (Fin.nil h M)
theorem Fin.own {q : Dat → MS → Prop} {d : Dat} {p : Addr} {M M' : MS} (hd : Del p d M M') (h : q d []) : Fin q (.own p) M := .fz hd (Fin.nil h M')
section
variable {K : PySem.W.Frag} {C : Ctx} {L : LS} {M : MS} {G H : Hp} {Q : Dat → MS → Prop} {QA : List Dat → MS → Prop} {P : Post}
theorem Fin.get {q : Dat → MS → Prop} {d : Dat} (h : Fin q d M) : ∀ {G : Hp} {v : V}, Own K H G (M ++ C.F) → Rep K G v d → ∃ d' M' G', Same G G' ∧ Own K H G' (M' ++ C.F) ∧ Rep K G' v d' ∧ q d' M' := by
  induction h with
  | ret h =>
    intro G v I r
    exact ⟨_, _, _, Same.refl _, I, r, h⟩
  | drop hd _ ih =>
    intro G v I r
    obtain ⟨M1, M2, rfl, rfl⟩ := hd.split
    exact ih (I.sub (by simp)) r
  | fz hd _ ih =>
    intro G v I r
    obtain ⟨o, h2, h3, h4⟩ := I.fz hd
    cases r
    obtain ⟨d', M', G', e, r⟩ := ih h4 (h3.rep h2)
    exact ⟨d', M', G', (Same.new h2).trans e, r⟩
/-- a def's slots at its entry -/
def slots (n : Nat) (ds : List Dat) : LS := ds.map some ++ List.replicate (n - ds.length) none
theorem start_slots {N : List Str} {vs : List V} {ds : List Dat} (r : RepL K G vs ds) : Sl K G (L2.start N vs) (slots N.length ds) := by
  unfold L2.start slots
  rw [r.length]
  exact Sl.app (Sl.some_of r) (Sl.nones _)
theorem body_run {spec : AS} {N : List Str} {t : TS} {vs : List V} {QV : VK} {E : XK} (h : SpF K spec vs H QV E)
    (hw : ∀ (C : Ctx) ds M (q : Dat → MS → Prop) (e : Exn → MS → Prop), XE K C E e → spec ds M q e → WS K C t (slots N.length ds) M ⟨fun _ M' => Fin q .non M', Fin q, fun _ _ => False, fun _ _ => False⟩) :
    t { nx := fun _ H' => QV .non H', rt := QV } (L2.start N vs) H := by
  obtain ⟨G, ds, M, F, q, e, I, r, s, hq, he⟩ := h
  refine hw ⟨G, F⟩ ds M q e he s G _ H _ (Same.refl G) I (start_slots r) ⟨fun σ' L' G' M' H' a b c f => ?_, fun v d G' M' H' a b c f => ?_, fun _ _ _ _ _ _ _ _ f => f.elim, fun _ _ _ _ _ _ _ _ f => f.elim⟩
  · obtain ⟨d, M2, G2, e2, I2, r2, q2⟩ := f.get (C := ⟨G, F⟩) b .non
    cases d <;> first | cases r2 | skip
    exact hq _ _ _ _ _ (a.trans e2) I2 .non q2
  · obtain ⟨d, M2, G2, e2, I2, r2, q2⟩ := f.get (C := ⟨G, F⟩) b c
    exact hq _ _ _ _ _ (a.trans e2) I2 r2 q2

/-! ### calls -/
/-- what a call asks: a part of the owned objects for the callee, the rest stays -/
def Cl (spec : AS) (ds : List Dat) (M : MS) (Q : Dat → MS → Prop) (px : Exn → MS → Prop) : Prop := ∃ Mc Fr q e, M.Perm (Mc ++ Fr) ∧ spec ds Mc q e ∧ (∀ r M', q r M' → Q r (M' ++ Fr)) ∧ ∀ x M', e x M' → px x (M' ++ Fr)
theorem Cl.run {spec : AS} {ds : List Dat} {vs : List V} {px : Exn → MS → Prop} {R : VK} {E : XK} (h : Cl spec ds M Q px) (g : Same C.G0 G) (I : Own K H G (M ++ C.F)) (r : RepL K G vs ds)
    (k : ∀ v d G' M' H', Same G G' → Own K H' G' (M' ++ C.F) → Rep K G' v d → Q d M' → R v H') (he : XE K ⟨G, C.F⟩ E px) : SpF K spec vs H R E := by
  obtain ⟨Mc, Fr, q, e, hp, hs, hq, hx⟩ := h
  have I2 : Own K H G (Mc ++ (Fr ++ C.F)) := by
    rw [← List.append_assoc]
    exact I.perm (hp.append_right _)
  exact ⟨G, ds, Mc, Fr ++ C.F, q, e, I2, r, hs, fun v d G' M' H' a b c z => k v d G' _ H' a (by rw [List.append_assoc]; exact b) c (hq _ _ z), fun x dd G' M' H' a b c z => he x dd G' (M' ++ Fr) H' a (by rw [List.append_assoc]; exact b) c (hx _ _ z)⟩
theorem we_call {spec : AS} {ta : TA} {dvs : List V} {dds : List Dat} (hd : ∀ G, RepL K G dvs dds) (h : WA K C ta L M fun ds M1 => Cl spec (ds ++ dds) M1 Q fun _ _ => False) : WE K C (tCall (SpF K spec) dvs E0 ta) L M Q := fun G σ H R g I s k =>
  h G σ H _ g I s fun vs ds G1 M1 H1 e1 I1 r1 q => q.run (g.trans e1) I1 (r1.append (hd G1)) (fun v d G' M' H' a => k v d G' M' H' (e1.trans a)) fun _ _ _ _ _ _ _ _ z => z.elim
theorem XW.wider {W : WX} {px : Exn → LS → MS → Prop} {G1 : Hp} (e : Same C.G0 G1) (h : XW K C W px) : XW K ⟨G1, C.F⟩ W px := fun x dd σ' L' G' M' H' a => h x dd σ' L' G' M' H' (e.trans a)
theorem XE.wider {E : XK} {px : Exn → MS → Prop} {G1 : Hp} (e : Same C.G0 G1) (h : XE K C E px) : XE K ⟨G1, C.F⟩ E px := fun x dd G' M' H' a => h x dd G' M' H' (e.trans a)
/-- a def's wish as a wish of its statements -/
theorem XE.xw {E : XK} {px : Exn → MS → Prop} (h : XE K C E px) : XW K C (fun cls d _ H => E cls d H) fun x _ M => px x M := fun x dd σ' L' G' M' H' a b _ c d => h x dd G' M' H' a b c d
theorem we_callS {spec : AS} {ta : TA} {W : WX} {px : Exn → LS → MS → Prop} {dvs : List V} {dds : List Dat} (hd : ∀ G, RepL K G dvs dds) (hx : XW K C W px) (h : WA K C ta L M fun ds M1 => Cl spec (ds ++ dds) M1 Q fun x M2 => px x L M2) : WE K C (tCallSD (SpF K spec) dvs (L2.WE W) ta) L M Q := fun G σ H R g I s k =>
  h G σ H _ g I s fun vs ds G1 M1 H1 e1 I1 r1 q => q.run (g.trans e1) I1 (r1.append (hd G1)) (fun v d G' M' H' a => k v d G' M' H' (e1.trans a)) fun x dd G' M' H' a b c z => hx x dd σ L G' M' H' ((g.trans e1).trans a) b ((s.mono e1).mono a) c z
theorem Own.junk {p : Addr} {o : HO} (I : Own K H G M) (hp : H p = none) : Own K (upd H p o) G M :=
  ⟨fun a u e => by
    rw [upd_ne (ne_of_none (I.same _ _ e) hp)]
    exact I.same _ _ e, fun q hq => by
    obtain ⟨g, o', h1, h2⟩ := I.at_ q hq
    exact ⟨g, o', by rw [upd_ne (ne_of_none h1 hp)]; exact h1, h2⟩, I.nd⟩
/-- C(..), the instance frozen -/
theorem we_make {Cc : Addr} {spec : AS} {ta : TA} {dvs : List V} {dds : List Dat} (hd : ∀ G, RepL K G dvs dds) (h : WA K C ta L M fun ds M1 => ∀ x, Cl spec (.own x :: (ds ++ dds)) ((x, .ins Cc []) :: M1) (fun r M2 => r = .non ∧ ∃ fs M3, Del x (.ins Cc fs) M2 M3 ∧ Q (.ins Cc fs) M3) fun _ _ => False) :
    WE K C (tMake Cc (SpF K spec) dvs E0 ta) L M Q := fun G σ H R g I s k =>
  h G σ H _ g I s fun vs ds G1 M1 H1 e1 I1 r1 q x dx hx hdx ne => by
    have hx2 : upd H1 dx (.own x) x = none := by
      rw [upd_ne (Ne.symm ne)]
      exact hx
    have I2 : Own K (upd (upd H1 dx (.own x)) x (.ins Cc dx [])) G1 (((x, Dat.ins Cc []) :: M1) ++ C.F) := (I1.junk hdx).alloc hx2 (.ins .nil)
    refine (q x).run (g.trans e1) I2 (.cons (.own x) (r1.append (hd G1))) (fun v d G' M' H' a b c z => ?_) fun _ _ _ _ _ _ _ _ z => z.elim
    obtain ⟨e, fs, M3, hdl, qq⟩ := z
    subst e
    cases c
    obtain ⟨o, h2, h3, h4⟩ := b.fz hdl
    exact ⟨rfl, k _ _ _ _ _ ((e1.trans a).trans (Same.new h2)) h4 (h3.rep h2) qq⟩
/-- C(..), the instance owned -/
theorem we_makeO {Cc : Addr} {spec : AS} {ta : TA} {dvs : List V} {dds : List Dat} (hd : ∀ G, RepL K G dvs dds) (h : WA K C ta L M fun ds M1 => ∀ x, Cl spec (.own x :: (ds ++ dds)) ((x, .ins Cc []) :: M1) (fun r M2 => r = .non ∧ Q (.own x) M2) fun _ _ => False) :
    WE K C (tMake Cc (SpF K spec) dvs E0 ta) L M Q := fun G σ H R g I s k =>
  h G σ H _ g I s fun vs ds G1 M1 H1 e1 I1 r1 q x dx hx hdx ne => by
    have hx2 : upd H1 dx (.own x) x = none := by
      rw [upd_ne (Ne.symm ne)]
      exact hx
    have I2 : Own K (upd (upd H1 dx (.own x)) x (.ins Cc dx [])) G1 (((x, Dat.ins Cc []) :: M1) ++ C.F) := (I1.junk hdx).alloc hx2 (.ins .nil)
    refine (q x).run (g.trans e1) I2 (.cons (.own x) (r1.append (hd G1))) (fun v d G' M' H' a b c z => ?_) fun _ _ _ _ _ _ _ _ z => z.elim
    obtain ⟨e, qq⟩ := z
    subst e
    cases c
    exact ⟨rfl, k _ _ _ _ _ (e1.trans a) b (.own x) qq⟩
end

/-! ### a method of an instance of one of several classes -/
/-- each class that Ok tells has the method, and it keeps its promise -/
structure MethU (P : Program) (w : World) (K : PySem.W.Frag) (mg : Str → Option Value) (base : Heap) (CX : CXT) (k : Nat) (m : Str) (ps : List Str) (Ok : Addr → Prop) (sp : Addr → Sp) : Prop where
  get : ∀ C, Ok C → Cls K C ∧ ∃ f fd, Meth K C m f ∧ FnOk P w K mg base CX k f fd ps (sp C) ∧ Binds K fd ps []
def tMethU (m : Str) (Ok : Addr → Prop) (sp : Addr → Sp) (E : L2.St → XK) (ta : TE) (t : TA) : TE := fun σ H Q => ta σ H fun x H1 => ∃ a C dx fs, x = .ref a ∧ H1 a = some (.ins C dx fs) ∧ Ok C ∧ fs.lookup m = none ∧ t σ H1 fun vs H2 => sp C (x :: vs) H2 Q (E σ)
section
variable {X : Cx} {CX : CXT} {k : Nat} {ps : List Str} {sp : Addr → Sp} {Ok : Addr → Prop} {E : L2.St → XK} {m : Str} {pos apos : Pos} {e o : Expr} {es : List Expr} {ta : TE} {t : TA}
theorem pe_methU {pl : Sem Bool} (U : MethU X.prog X.w X.K X.mg X.base CX k m ps Ok sp) (he : PE X o ta) (hr : Room k X.A) (hx : ∀ σ, PassesAt CX X σ (E σ)) (ha : PA X (e :: es) t)
    (hst : starEach (e :: es) X.env = (false, eval e X.env) :: starEach es X.env := by rfl) (hpl : (backTo pos (starEach es X.env)).any (·.1) = false := by rfl)
    (ht : eval (.Call (.Attribute o m apos) (e :: es) [] pos) X.env = (do
      let ov ← eval o X.env
      standAt apos.atName
      let (f, first) ← holding [ov] (getMethod ov m pl)
      callWith pos f first (backTo pos (starEach (e :: es) X.env)) (backToKw pos (keywordEach [] X.env))) := by rfl) :
    PE X (.Call (.Attribute o m apos) (e :: es) [] pos) (tMethU m Ok sp E ta t) := by
  refine ⟨fun pins s σ H Q I h => ?_⟩
  refine PySem.W.methodCall_KW (pl := pl) (thn (he.run pins s σ H _ I h) fun u s1 ⟨x, H1, I1, rx, a, C, dx, fs, ex, ea, ok, l, q⟩ => ?_) ht
  obtain ⟨c, f, fd, hm, F, hb⟩ := U.get C ok
  subst ex
  obtain rfl : u = Value.ref a := rx
  refine getmeth_ok I1 ea c hm l ?_
  refine PySem.W.callWith_K (first := [.ref a]) (h₀ := X.base) I.ok.mod.kin hm.kp (thn (ha.run pos pins s1 σ H1 _ I1 q) fun us s2 ⟨vs, H2, I2, r, q2⟩ => ⟨I2.kIn, ?_⟩) hst hpl
  exact run_fnS (us := .ref a :: us) (vs := .ref a :: vs) F hr hb (hx σ) I2 (.cons rfl r) q2
theorem pe_methU0 {pl : Sem Bool} (U : MethU X.prog X.w X.K X.mg X.base CX k m ps Ok sp) (he : PE X o ta) (hr : Room k X.A) (hx : ∀ σ, PassesAt CX X σ (E σ))
    (ht : eval (.Call (.Attribute o m apos) [] [] pos) X.env = (do
      let ov ← eval o X.env
      standAt apos.atName
      let (f, first) ← holding [ov] (getMethod ov m pl)
      callWith pos f first (backTo pos (starEach [] X.env)) (backToKw pos (keywordEach [] X.env))) := by rfl) :
    PE X (.Call (.Attribute o m apos) [] [] pos) (tMethU m Ok sp E ta tNil) := by
  refine ⟨fun pins s σ H Q I h => ?_⟩
  refine PySem.W.methodCall_KW (pl := pl) (thn (he.run pins s σ H _ I h) fun u s1 ⟨x, H1, I1, rx, a, C, dx, fs, ex, ea, ok, l, q⟩ => ?_) ht
  obtain ⟨c, f, fd, hm, F, hb⟩ := U.get C ok
  subst ex
  obtain rfl : u = Value.ref a := rx
  refine getmeth_ok I1 ea c hm l ?_
  exact PySem.W.callWith_K0 (first := [.ref a]) I1.kIn hm.kp (run_fnS (us := [.ref a]) (vs := [.ref a]) F hr hb (hx σ) I1 (.cons rfl .nil) q)
end
theorem passE0 {X : Cx} {σ : L2.St} : PassesAt CX0 X σ E0 := fun _ _ _ _ _ _ h => h.elim
section
variable {K : PySem.W.Frag} {C : Ctx} {L : LS} {M : MS} {G H : Hp} {Q : Dat → MS → Prop} {QA : List Dat → MS → Prop} {P : Post}
theorem we_methU {m : Str} {Ok : Addr → Prop} {spec : Addr → AS} {ta : TE} {t : TA} (h : WE K C ta L M fun x M1 => ∃ Cc fs, InsOf M1 x Cc fs ∧ Ok Cc ∧ fs.lookup m = none ∧ WA K C t L M1 fun ds M2 => Cl (spec Cc) (x :: ds) M2 Q fun _ _ => False) :
    WE K C (tMethU m Ok (fun c => SpF K (spec c)) (fun _ => E0) ta t) L M Q := fun G σ H R g I s k =>
  h G σ H _ g I s fun v x G1 M1 H1 e1 I1 r1 ⟨Cc, fs, hi, ok, hl, q⟩ => by
    obtain ⟨a, dx, xs, rfl, ha, r⟩ := hi.get I1 r1
    refine ⟨a, Cc, dx, xs, rfl, ha, ok, r.lookN hl, ?_⟩
    exact q G1 σ H1 _ (g.trans e1) I1 (s.mono e1) fun vs ds G2 M2 H2 e2 I2 r2 q2 => q2.run ((g.trans e1).trans e2) I2 (.cons (r1.mono e2) r2) (fun v d G' M' H' a => k v d G' M' H' ((e1.trans e2).trans a)) fun _ _ _ _ _ _ _ _ z => z.elim
theorem we_methUS {m : Str} {Ok : Addr → Prop} {spec : Addr → AS} {ta : TE} {t : TA} {W : WX} {px : Exn → LS → MS → Prop} (hx : XW K C W px) (h : WE K C ta L M fun x M1 => ∃ Cc fs, InsOf M1 x Cc fs ∧ Ok Cc ∧ fs.lookup m = none ∧ WA K C t L M1 fun ds M2 => Cl (spec Cc) (x :: ds) M2 Q fun x M3 => px x L M3) :
    WE K C (tMethU m Ok (fun c => SpF K (spec c)) (L2.WE W) ta t) L M Q := fun G σ H R g I s k =>
  h G σ H _ g I s fun v x G1 M1 H1 e1 I1 r1 ⟨Cc, fs, hi, ok, hl, q⟩ => by
    obtain ⟨a, dx, xs, rfl, ha, r⟩ := hi.get I1 r1
    refine ⟨a, Cc, dx, xs, rfl, ha, ok, r.lookN hl, ?_⟩
    exact q G1 σ H1 _ (g.trans e1) I1 (s.mono e1) fun vs ds G2 M2 H2 e2 I2 r2 q2 => q2.run ((g.trans e1).trans e2) I2 (.cons (r1.mono e2) r2) (fun v d G' M' H' a => k v d G' M' H' ((e1.trans e2).trans a)) fun x dd G' M' H' a b c z => hx x dd σ L G' M' H' (((g.trans e1).trans e2).trans a) b (((s.mono e1).mono e2).mono a) c z
end

/-! ### own exceptions with one field -/
/-- self.f = v, all that __init__ does -/
def spXI (C : Addr) (f : Str) : Sp := fun vs H Q _ => ∃ (a : Addr) (v : V), vs = [.ref a, v] ∧ H a = some (exo a C none) ∧ ∀ dx, H dx = none → dx ≠ a → Q .non (upd (upd H dx (exd dx [(f, v)])) a (exo a C (some dx)))
theorem spXI.len {C : Addr} {f : Str} : ∀ vs H Q E, spXI C f vs H Q E → vs.length = 2 := fun vs H Q E ⟨a, v, e, _⟩ => by rw [e]; rfl
theorem xinit_run {K : PySem.W.Frag} {C : Addr} {f : Str} {N : List Str} (hN : N.length = 2) (T : OexC K C) (hf : PySem.W.findIn K (.ref C) f = some none) {vs : List V} {H : Hp} {Q : VK} {E : XK} (h : spXI C f vs H Q E) :
    tOst K f (tVar 0) (tVar 1) { nx := fun _ H' => Q .non H', rt := Q } (L2.start N vs) H := by
  obtain ⟨a, v, rfl, ha, q⟩ := h
  have e : L2.start N [V.ref a, v] = [some (.ref a), some v] := by
    unfold L2.start
    rw [hN]
    rfl
  rw [e]
  exact ⟨v, rfl, .ref a, rfl, a, C, rfl, T, hf, .inl ⟨ha, fun dx h1 h2 => q dx h1 h2⟩⟩
/-- raise C(e) -/
def tRaiseF (C : Addr) (f : Str) (W : WX) (ta : TA) : TS := fun _ σ H => tMkO C (spXI C f) [] ta σ H fun cls d H' => W cls d σ H'
theorem xi_heap {C a dx : Addr} {f : Str} {v : V} {H1 : Hp} (ha : H1 a = none) (h2 : dx ≠ a) : upd (del (upd (upd (upd H1 a (exo a C none)) dx (exd dx [(f, v)])) a (exo a C (some dx))) a) dx (.xd [(f, v)]) = upd H1 dx (.xd [(f, v)]) := by
  funext b
  by_cases hb : b = dx
  · subst hb
    rw [upd_same, upd_same]
  · rw [upd_ne hb, upd_ne hb]
    by_cases hb2 : b = a
    · subst hb2
      rw [del_same, ha]
    · rw [del_ne hb2, upd_ne hb2, upd_ne hb, upd_ne hb2]
section
variable {X : Cx} {CX : CXT} {x f : Str} {C fI : Addr} {k : Nat} {fd : FuncData} {ps : List Str} {W : WX} {te : TE} {e : Expr} {p pos pos2 : Pos}
theorem ps_raiseF (hc : X.calm = true) (tk : Takes X W) (T : OexC X.K C) (iC : PySem.W.findIn X.K (.ref C) "__init__" = some (some (.ref fI))) (tI : PySem.W.typeIn X.K (.ref fI) = some (.type "function"))
    (F1 : FnOk X.prog X.w X.K X.mg X.base CX0 k fI fd ps (spXI C f)) (hr : Room (k + 1) X.A) (hb : Binds X.K fd ps []) (hg : Gl X x) (hm : X.mg x = some (.ref C)) (he : PE X e te)
    (hdb : (x == ("__debug__" : Str)) = false := by decide) (hs : starEach [e] X.env = (false, eval e X.env) :: starEach [] X.env := by rfl) (hpl : (backTo pos (starEach [] X.env)).any (·.1) = false := by rfl) :
    PS X (.Raise (some (.Call (.Name x p) [e] [] pos)) none pos2) (tRaiseF C f W (tCons te tNil)) :=
  ps_raise hc tk (pmk_oex T iC tI F1 hr hb .nil (fun _ _ _ _ _ _ _ h => h.elim) hg hm (pa_cons he pa_nil hs) hdb hs hpl)
end
section
variable {K : PySem.W.Frag} {C : Ctx} {L : LS} {M : MS} {G H : Hp} {Q : Dat → MS → Prop} {QA : List Dat → MS → Prop} {P : Post}
theorem ws_raise {W : WX} {Cc : Addr} {f : Str} {ta : TA} {px : Exn → LS → MS → Prop} (hx : XW K C W px) (h : WA K C ta L M fun ds M1 => ∃ d, ds = [d] ∧ px ⟨Cc, [(f, d)]⟩ L M1) : WS K C (tRaiseF Cc f W ta) L M P := fun G σ H D g I s k =>
  h G σ H _ g I s fun vs ds G1 M1 H1 e1 I1 r1 ⟨d, e, q⟩ => by
    subst e
    cases r1 with
    | @cons v _ _ _ r rr =>
      cases rr
      refine ⟨by show 1 ≤ 1000; decide, fun a ha => ⟨a, v, rfl, upd_same, fun dx h1 h2 => ⟨rfl, dx, [(f, v)], ?_, ?_, ?_, ?_⟩⟩⟩
      · rw [upd_same]
      · rw [upd_ne h2, upd_same]
      · rw [upd_ne h2] at h1
        exact h1
      · rw [upd_ne h2] at h1
        rw [xi_heap ha h2]
        obtain ⟨gp, I2⟩ := I1.lay (o := .xd [(f, v)]) h1
        exact hx ⟨Cc, [(f, d)]⟩ (some dx) σ L _ M1 _ ((g.trans e1).trans (Same.new gp)) I2 ((s.mono e1).mono (Same.new gp)) (.inr ⟨dx, _, rfl, upd_same, .cons (r.mono (Same.new gp)) .nil⟩) q
/-! ### try .. except as -/
def tTryAs (K : PySem.W.Frag) (c : Value) (i : Nat) (tb : WX → TS) (ts : Addr → Value → Option Addr → TS) (Wout : WX) : TS := fun D σ H => tb (wAs K c i ts Wout D) D σ H
theorem ps_tryF {X : Cx} {x n : Str} {c : Value} {i : Nat} {body suite : List Stmt} {b₀ : Stmt} {np pos pos' : Pos} {tb : WX → TS} {ts : Addr → Value → Option Addr → TS} {Wout : WX} (hs : X.stack = X.env :: X.outer) (hf : X.env.frame = some X.env.locals) (hN : X.N.Nodup) (hi : X.N[i]? = some n) (hln : X.env.kindOf n = some .local) (hc : Names X x c) (tk : Takes X Wout)
    (hb : ∀ (W : WX) (pn : List (Addr × Obj)) (xe : Value → Shared → Prop), Takes (X.tr pn xe) W → PassesOwn (model X.prog X.w) X.A X.env xe → PSs (X.tr pn xe) body (tb W))
    (hsu : ∀ (a : Addr) (oe : Obj) (cls : Value) (d : Option Addr) (pn : List (Addr × Obj)), Zc cls d oe → (∃ vs, oe.data = .fields vs) → PSs (X.suite a ((a, oe) :: pn)) (b₀ :: suite) (ts a cls d)) :
    PS X (.Try body [.ExceptHandler (some (.Name x np)) (some n) (b₀ :: suite) pos'] [] [] pos) (tTryAs X.K c i tb ts Wout) := ps_try_as hs hf hN hi hln hc tk hb hsu
theorem ws_try {c : Value} {i : Nat} {tb : WX → TS} {ts : Addr → Value → Option Addr → TS} {Wout : WX} (pb : Exn → LS → MS → Prop) (px : Exn → LS → MS → Prop)
    (hb : ∀ G1, Same C.G0 G1 → ∀ W, XW K ⟨G1, C.F⟩ W pb → WS K ⟨G1, C.F⟩ (tb W) L M P)
    (hs : ∀ x L1 M1, pb x L1 M1 → ∃ b, PySem.W.exmOne K (.ref x.c) c = some b ∧ (b = true → ∀ a d, WS K C (ts a (.ref x.c) d) (L1.set i (some (.exn a x.c d x.fs))) M1
      { nx := fun L M => P.nx (L.set i none) M, rt := P.rt, bk := fun L M => P.bk (L.set i none) M, ct := fun L M => P.ct (L.set i none) M }) ∧ (b = false → px x L1 M1))
    (hx : XW K C Wout px) : WS K C (tTryAs K c i tb ts Wout) L M P := fun G σ H D g I s k => by
  refine hb G g (wAs K c i ts Wout D) (fun x dd σ' L' G' M' H' a b cS ex p => ?_) G σ H D (Same.refl G) I s ⟨k.nx, k.rt, k.bk, k.ct⟩
  obtain ⟨b1, h1, h2, h3⟩ := hs x L' M' p
  refine ⟨b1, h1, fun eb ad had => ?_, fun eb => hx x dd σ' L' G' M' H' (g.trans a) b cS ex (h3 eb)⟩
  have re : Rep K G' (.ref ad) (.exn ad x.c dd x.fs) := by
    rcases ex with e | ⟨d2, xs, e1, e2, r⟩
    · rw [e]
      exact .exn0 ad x.c dd
    · rw [e1]
      exact .exn e2 r
  refine h2 eb ad dd G' _ H' _ (g.trans a) b (Sl.set i cS re) ⟨fun σ2 L2 G2 M2 H2 a2 b2 c2 q => k.nx _ _ G2 M2 H2 (a.trans a2) b2 (Sl.unset i c2) q, fun v d G2 M2 H2 a2 => k.rt v d G2 M2 H2 (a.trans a2), fun σ2 L2 G2 M2 H2 a2 b2 c2 q => k.bk _ _ G2 M2 H2 (a.trans a2) b2 (Sl.unset i c2) q, fun σ2 L2 G2 M2 H2 a2 b2 c2 q => k.ct _ _ G2 M2 H2 (a.trans a2) b2 (Sl.unset i c2) q⟩
theorem we_xf {a Cc : Addr} {d : Option Addr} {f : Str} {te : TE} (h : WE K C te L M fun x M1 => ∃ ds v, x = .exn a Cc d ds ∧ ds.lookup f = some v ∧ Q v M1) : WE K C (tXf a (.ref Cc) d Cc f te) L M Q := fun G σ H R g I s k =>
  h G σ H _ g I s fun v x G1 M1 H1 e1 I1 r1 ⟨ds, y, e, hl, q⟩ => by
    subst e
    cases r1 with
    | exn0 => simp [List.lookup] at hl
    | exn hd r =>
      obtain ⟨u, hu, ru⟩ := r.look hl
      exact ⟨rfl, rfl, _, _, u, rfl, I1.same _ _ hd, hu, k _ _ _ _ _ e1 I1 ru q⟩
end
/-! ### isinstance of the exception that the suite holds (its class any own one) -/
def rIsX (K : PySem.W.Frag) (a : Addr) (cls : Value) (d : Option Addr) : List V → Hp → VK → Prop := fun xs H Q => ∃ (c : V) (cv : Value) (D : Addr) (b : Bool), xs = [.ref a, c] ∧ cls = .ref D ∧ ExcC K D ∧ (∀ u, RelV c u → u = cv) ∧ PySem.W.kitOne K (.ref D) cv = some b ∧ (d = none ∨ ∃ dd fs, d = some dd ∧ H dd = some (.xd fs)) ∧ Q (.bl b) H
theorem pin_inst {X : Cx} {a : Addr} {oe : Obj} {cls : Value} {d : Option Addr} {D : Addr} {pins : List (Addr × Obj)} {σ : L2.St} {H : Hp} {s : Shared} (hp : (a, oe) ∈ X.pn ++ pins) (hz : Zc cls d oe) (hf : ∃ vs, oe.data = .fields vs) (I : Inv X pins σ H s) (hc : cls = .ref D) (hd : d = none ∨ ∃ dd fs, d = some dd ∧ H dd = some (.xd fs)) :
    ∃ od, PySem.W.InstAt s.heap a oe D od := by
  obtain ⟨hget, _⟩ := I.pin (a, oe) hp
  obtain ⟨vs, hv⟩ := hf
  have hno : PySem.W.notCls oe = true := by unfold PySem.W.notCls; rw [hv] <;> rfl
  rcases hd with rfl | ⟨dd, fs, rfl, h⟩
  · exact ⟨none, hget, hz.1.trans hc, hno, by rw [hz.2]; trivial⟩
  · obtain ⟨mA, hns, _⟩ := (show ObjOk X.prog X.w H s.heap dd (.xd fs) from I.hok dd _ h)
    obtain ⟨od, ho, _⟩ := lookIn_ns hns
    exact ⟨some od, hget, hz.1.trans hc, hno, by rw [hz.2]; exact ho⟩
theorem call_isX {X : Cx} {a : Addr} {oe : Obj} {cls : Value} {d : Option Addr} {pn : List (Addr × Obj)} (hz : Zc cls d oe) (hf : ∃ vs, oe.data = .fields vs) : CallR (X.suite a ((a, oe) :: pn)) (.builtin "isinstance") (rIsX X.K a cls d) := by
  intro pins s σ H xs us Q I r h
  obtain ⟨c, cv, D, b, rfl, hc, Cx', hcv, e, hd, q⟩ := h
  cases r with
  | cons rx rr =>
    cases rr with
    | cons rt rr =>
      cases rr
      cases rx
      have ec := hcv _ rt
      subst ec
      obtain ⟨od, J⟩ := pin_inst (List.mem_append.mpr (.inl List.mem_cons_self)) hz hf I hc hd
      obtain ⟨cdD, hcD, _⟩ := PySem.W.any_some Cx'.hd
      exact PySem.W.kia_one (PySem.W.kitx_exc (by rw [hcD]; rfl) Cx'.hg Cx'.hk Cx'.hs Cx'.ha Cx'.hn Cx'.ht Cx'.hm) I.kIn J e (fun z => nomatch z) fun tk => ⟨.bl b, H, I.kept (t' := tk) fun _ _ z => z, rfl, q⟩
section
variable {K : PySem.W.Frag} {C : Ctx} {L : LS} {M : MS} {G H : Hp} {Q : Dat → MS → Prop} {QA : List Dat → MS → Prop} {P : Post}
theorem wc_isX {a D : Addr} {d : Option Addr} {fs : List (Str × Dat)} {c : Dat} {cv : Value} {b : Bool} (hC : ExcC K D) (hc : (∃ A, c = .own A ∧ cv = .ref A) ∨ ∃ n, c = .ty n ∧ cv = .type n) (hfs : fs ≠ []) (hb : PySem.W.kitOne K (.ref D) cv = some b) (q : Q (.bl b) M) : WC K C (rIsX K a (.ref D) d) [.exn a D d fs, c] M Q := fun G H vs R g I r k => by
  cases r with
  | cons r1 rr =>
    cases rr with
    | cons r2 rr =>
      cases rr
      have rel : ∀ (cV : V), Rep K G cV c → ∀ u, RelV cV u → u = cv := by
        rcases hc with ⟨A, rfl, rfl⟩ | ⟨n, rfl, rfl⟩
        · intro cV r u h
          cases r
          exact h
        · intro cV r u h
          cases r
          exact h
      cases r1 with
      | exn0 => exact absurd rfl hfs
      | exn hd rp => exact ⟨_, cv, D, b, rfl, rfl, hC, rel _ r2, hb, .inr ⟨_, _, rfl, I.same _ _ hd⟩, k _ _ _ _ _ (Same.refl G) I (.bl b) q⟩
/-! ### isinstance of other things -/
theorem wc_isi {x : Dat} {t : Value} {c : Dat} {cv : Value} {b : Bool} (hx : (∃ i, x = .int i ∧ t = .type "int") ∨ (∃ i, x = .str i ∧ t = .type "str") ∨ (∃ i, x = .bl i ∧ t = .type "bool") ∨ (x = .non ∧ t = .type "NoneType") ∨ (∃ p, x = .own p ∧ ((t = .type "list" ∧ ∃ xs M', Del p (.lst xs) M M') ∨ t = .type "dict" ∧ ∃ xs M', Del p (.dK xs) M M')) ∨ ∃ xs, x = .tup xs ∧ t = .type "tuple")
    (hc : (∃ n, c = .ty n ∧ cv = .type n)) (hb : PySem.W.kitOne K t cv = some b) (q : Q (.bl b) M) : WC K C (rIsi K) [x, c] M Q := fun G H vs R g I r k => by
  cases r with
  | cons r1 rr =>
    cases rr with
    | cons r2 rr =>
      cases rr
      obtain ⟨n, rfl, rfl⟩ := hc
      cases r2
      have fin : ∀ (v : V), TyX K H v t → rIsi K [v, .ty n] H R := fun v tx => ⟨v, .ty n, t, .type n, b, rfl, .ty n, tx, hb, k _ _ _ _ _ (Same.refl G) I (.bl b) q⟩
      rcases hx with ⟨i, rfl, rfl⟩ | ⟨i, rfl, rfl⟩ | ⟨i, rfl, rfl⟩ | ⟨rfl, rfl⟩ | ⟨p, rfl, hx⟩ | ⟨xs, rfl, rfl⟩
      · cases r1
        exact fin _ (.base (.int i))
      · cases r1
        exact fin _ (.base (.str i))
      · cases r1
        exact fin _ (.base (.bl i))
      · cases r1
        exact fin _ (.base .non)
      · cases r1
        rcases hx with ⟨rfl, xs, M', hd⟩ | ⟨rfl, xs, M', hd⟩
        · obtain ⟨o, ho, r0⟩ := I.had hd
          obtain ⟨vs, rfl, _⟩ := r0.lst_inv
          exact fin _ (.base (.lst ho))
        · obtain ⟨o, ho, r0⟩ := I.had hd
          obtain ⟨vs, rfl, _⟩ := r0.dK_inv
          exact fin _ (.base (.dK ho))
      · cases r1 with
        | tup s l =>
          rcases s with (s | ⟨o, s⟩) | ⟨o, its, n', hk, hc', _⟩
          · exact fin _ (.base (.tup (I.same _ _ s)))
          · exact fin _ (.fTuple (I.same _ _ s))
          · exact fin _ (.kTuple hk hc')
/-! ### what is walked -/
theorem itr_list {a : Addr} {vs : List V} {ds : List Dat} (s : SqL K G a vs) (r : RepL K G vs ds) (hj : ∀ H ws, SqL K H a vs → SqL K H a ws → ws = vs) : ItR K G (Itl K a) ds := fun G' H' M' e I => by
  have s' : SqL K H' a vs := Same.sqL (e.trans I.same) s
  refine ⟨⟨vs, s', by rw [r.length]; exact Nat.le_refl _⟩, fun i hi => ?_⟩
  have hi' : i < vs.length := by rw [r.length]; exact hi
  refine ⟨⟨vs, vs[i], s', List.getElem?_eq_getElem hi'⟩, fun x H'' y => ?_⟩
  obtain ⟨rfl, hy⟩ := y
  have hx := hy vs s'
  obtain ⟨d, hd, rd⟩ := r.getV hx
  exact ⟨G', Same.refl _, I, d, hd, rd.mono e⟩
theorem wi_list {tl : TE} {QI : List Dat → MS → Prop} (h : WE K C tl L M fun x M1 => ∃ ds, x = .lst ds ∧ QI ds M1) : WI K C (iList K tl) L M QI := fun G σ H R g I s k =>
  h G σ H _ g I s fun v x G1 M1 H1 e1 I1 r1 ⟨ds, e, q⟩ => by
    subst e
    cases r1 with
    | @lst a vs _ sq r =>
      refine ⟨a, rfl, ⟨vs, Same.sqL I1.same sq⟩, k _ ds G1 M1 H1 e1 I1 (fun G' H' M' e I => ?_) q⟩
      have s' : SqL K H' a vs := Same.sqL (e.trans I.same) sq
      refine ⟨⟨vs, s', by rw [r.length]; exact Nat.le_refl _⟩, fun i hi => ?_⟩
      have hi' : i < vs.length := by rw [r.length]; exact hi
      refine ⟨⟨vs, vs[i], s', List.getElem?_eq_getElem hi'⟩, fun x H'' y => ?_⟩
      obtain ⟨rfl, hy⟩ := y
      obtain ⟨d, hd, rd⟩ := r.getV (hy vs s')
      exact ⟨G', Same.refl _, I, d, hd, rd.mono e⟩
theorem wi_tup {tl : TE} {QI : List Dat → MS → Prop} (h : WE K C tl L M fun x M1 => ∃ ds, x = .tup ds ∧ QI ds M1) : WI K C (iTup K tl) L M QI := fun G σ H R g I s k =>
  h G σ H _ g I s fun v x G1 M1 H1 e1 I1 r1 ⟨ds, e, q⟩ => by
    subst e
    cases r1 with
    | @tup a vs _ sq r =>
      refine ⟨a, rfl, ⟨vs, Same.sqT I1.same sq⟩, k _ ds G1 M1 H1 e1 I1 (fun G' H' M' e I => ?_) q⟩
      have s' : SqT K H' a vs := Same.sqT (e.trans I.same) sq
      refine ⟨⟨vs, s', by rw [r.length]; exact Nat.le_refl _⟩, fun i hi => ?_⟩
      have hi' : i < vs.length := by rw [r.length]; exact hi
      refine ⟨⟨vs, vs[i], s', List.getElem?_eq_getElem hi'⟩, fun x H'' y => ?_⟩
      obtain ⟨rfl, hy⟩ := y
      obtain ⟨d, hd, rd⟩ := r.getV (hy vs s')
      exact ⟨G', Same.refl _, I, d, hd, rd.mono e⟩
theorem itr_range {lo : Int} {n : Nat} : ItR K G (Itr lo n) ((List.range n).map fun (i : Nat) => Dat.int (lo + i)) := fun G' H' M' e I => by
  refine ⟨?_, fun i hi => ?_⟩
  · show n ≤ _
    rw [List.length_map, List.length_range]
    exact Nat.le_refl _
  · rw [List.length_map, List.length_range] at hi
    refine ⟨hi, fun x H'' y => ?_⟩
    obtain ⟨rfl, rfl⟩ := y
    exact ⟨G', Same.refl _, I, .int (lo + i), by simp [hi], .int _⟩
theorem wi_range1 {ta : TA} {QI : List Dat → MS → Prop} (h : WA K C ta L M fun xs M1 => ∃ n : Int, xs = [.int n] ∧ (-1000000 ≤ n ∧ n ≤ 1000000) ∧ QI ((List.range n.toNat).map fun (i : Nat) => Dat.int i) M1) : WI K C (iRng1 ta) L M QI := fun G σ H R g I s k =>
  h G σ H _ g I s fun vs xs G1 M1 H1 e1 I1 r1 ⟨n, e, hn, q⟩ => by
    subst e
    cases r1 with
    | cons r rr =>
      cases rr
      cases r
      refine ⟨n, rfl, by omega, by omega, k _ _ G1 M1 H1 e1 I1 (itr_range (lo := 0)) ?_⟩
      have e : (fun (i : Nat) => Dat.int (0 + (i : Int))) = fun (i : Nat) => Dat.int i := by
        funext i
        rw [Int.zero_add]
      rw [e]
      exact q
theorem wi_range2 {ta : TA} {QI : List Dat → MS → Prop} (h : WA K C ta L M fun xs M1 => ∃ a b : Int, xs = [.int a, .int b] ∧ (-1000000 ≤ a ∧ a ≤ 1000000 ∧ -1000000 ≤ b ∧ b ≤ 1000000) ∧ QI ((List.range (b - a).toNat).map fun (i : Nat) => Dat.int (a + i)) M1) : WI K C (iRng2 ta) L M QI := fun G σ H R g I s k =>
  h G σ H _ g I s fun vs xs G1 M1 H1 e1 I1 r1 ⟨a, b, e, hn, q⟩ => by
    subst e
    cases r1 with
    | cons r rr =>
      cases rr with
      | cons r2 rr =>
        cases rr
        cases r
        cases r2
        exact ⟨a, b, rfl, by omega, k _ _ G1 M1 H1 e1 I1 (itr_range (lo := a)) q⟩
theorem wi_str {te : TE} {QI : List Dat → MS → Prop} (h : WE K C te L M fun x M1 => ∃ l : List Nat, x = .str (S l) ∧ QI (l.map fun c => Dat.str (S [c])) M1) : WI K C (iStr te) L M QI := fun G σ H R g I s k =>
  h G σ H _ g I s fun v x G1 M1 H1 e1 I1 r1 ⟨l, e, q⟩ => by
    subst e
    cases r1
    refine ⟨S l, rfl, k _ _ G1 M1 H1 e1 I1 (fun G' H' M' e I => ⟨?_, fun i hi => ?_⟩) q⟩
    · show (S l).cps.size ≤ _
      rw [List.length_map]
      simp
    · rw [List.length_map] at hi
      refine ⟨by show i < (S l).cps.size; simpa using hi, fun x H'' y => ?_⟩
      obtain ⟨rfl, c, hc, rfl⟩ := y
      have hc' : l[i]? = some c := by simpa using hc
      exact ⟨G', Same.refl _, I, .str (S [c]), by rw [List.getElem?_map, hc']; rfl, .str _⟩
/-! ### comprehensions -/
def wipeL (L : LS) : List Nat → LS
  | [] => L
  | v :: vs => (wipeL L vs).set v none
theorem Sl.wipe {σ : St} (s : Sl K G σ L) : ∀ vs : List Nat, Sl K G (wipe σ vs) (wipeL L vs)
  | [] => s
  | v :: vs => Sl.unset v (Sl.wipe s vs)
/-- a target that stores in these slots alone -/
def Tgt (g : TG) (vs : List Nat) : Prop := ∀ x σ H (Q : St → Hp → Prop), g x (wipe σ vs) H Q → g x (wipe σ vs) H fun σ2 H2 => wipe σ2 vs = wipe σ vs ∧ Q σ2 H2
theorem wipe_idem : ∀ (vs : List Nat) (σ : St) (i : Nat) (v : Option V), i ∈ vs → wipe ((wipe σ vs).set i v) vs = wipe σ vs := by
  have key : ∀ (vs : List Nat) (σ τ : St), σ.length = τ.length → (∀ j, j ∉ vs → σ[j]? = τ[j]?) → wipe σ vs = wipe τ vs := by
    intro vs
    induction vs with
    | nil => exact fun σ τ hl h => List.ext_getElem? fun j => h j (by simp)
    | cons v vs ih =>
      intro σ τ hl h
      have e : ∀ (σ : St), wipe σ (v :: vs) = wipe (σ.set v none) vs := by
        intro σ
        clear ih h hl
        show (wipe σ vs).set v none = _
        induction vs with
        | nil => rfl
        | cons w vs ih =>
          show ((wipe σ vs).set w none).set v none = (wipe (σ.set v none) vs).set w none
          rw [← ih]
          by_cases hv : w = v
          · subst hv; rfl
          · exact List.set_comm _ _ hv
      rw [e, e]
      refine ih _ _ (by rw [List.length_set, List.length_set]; exact hl) fun j hj => ?_
      by_cases hv : v = j
      · subst hv
        have h2 : List.length σ = List.length τ := hl
        rw [List.getElem?_set, List.getElem?_set, if_pos rfl, if_pos rfl, h2]
      · rw [List.getElem?_set_ne hv, List.getElem?_set_ne hv]
        exact h j (by
          intro m
          rcases List.mem_cons.mp m with e | m
          · exact hv e.symm
          · exact hj m)
  intro vs σ i v hi
  have out : ∀ (vs : List Nat) (σ : St) (j : Nat), j ∉ vs → (wipe σ vs)[j]? = σ[j]? := by
    intro vs
    induction vs with
    | nil => exact fun _ _ _ => rfl
    | cons w vs ih =>
      intro σ j hj
      show ((wipe σ vs).set w none)[j]? = _
      rw [List.getElem?_set_ne (fun e => hj (by simp [e])), ih σ j (fun m => hj (by simp [m]))]
  refine key vs _ _ (by rw [List.length_set, wipe_length]) fun j hj => ?_
  rw [List.getElem?_set_ne (by intro e; subst e; exact hj hi), out vs σ j hj]
theorem tgt_name {i : Nat} : Tgt (gName i) [i] := fun x σ H Q h => ⟨wipe_idem [i] σ i _ (by simp), h⟩
theorem tgt_two {i j : Nat} : Tgt (gTup K 2 (gCons (gName i) (gCons (gName j) gNil))) [i, j] := fun x σ H Q h => by
  obtain ⟨a, xs, rfl, hs, hn, v, r, rfl, v2, r2, rfl, rfl, q⟩ := h
  refine ⟨a, _, rfl, hs, hn, v, _, rfl, v2, _, rfl, rfl, ?_, q⟩
  have e1 := wipe_idem [i, j] σ i (some v) (by simp)
  have e : ∀ (σ : St) (w : Option V), wipe (σ.set j w) [i, j] = wipe σ [i, j] := fun σ w => by
    show ((σ.set j w).set j none).set i none = _
    rw [List.set_set]
    rfl
  rw [e, e1]
theorem we_lc {wi : TI} {gt : TG} {tt : TT} {te : TE} {vs : List Nat} (hg : Tgt gt vs) (h : WI K C wi L M fun ds M1 => ∃ Iv : Nat → List Dat → MS → Prop, Iv 0 [] M1 ∧ ds.length ≤ 1000000 ∧
    (∀ i x acc M, ds[i]? = some x → Iv i acc M → ∀ F, WG K ⟨C.G0, F⟩ gt x (wipeL L vs) M fun L2 M2 => WT K ⟨C.G0, F⟩ tt L2 M2 fun b M3 => (b = true → WE K ⟨C.G0, F⟩ te L2 M3 fun y M4 => Iv (i + 1) (acc ++ [y]) M4) ∧ (b = false → Iv (i + 1) acc M3)) ∧
    ∀ acc M, Iv ds.length acc M → ∀ p, Q (.own p) ((p, .lst acc) :: M)) : WE K C (tLc wi gt tt te vs) L M Q := fun G σ H R g I s k =>
  h G σ H _ g I s fun J ds G1 M1 H1 e1 I1 it ⟨Iv, h0, hz, hs, hd⟩ D hD => by
    refine ⟨fun i m H => m = ds.length - i ∧ i ≤ ds.length ∧ ∃ acc M G, acc.length ≤ i ∧ Same G1 G ∧ Own K H G (((D, .lst acc) :: M) ++ C.F) ∧ Iv i acc M, ⟨ds.length, by simp, Nat.zero_le _, [], M1, G1, Nat.le_refl _, Same.refl _, I1.alloc hD (.lst .nil), h0⟩, ?_⟩
    rintro i m H ⟨rfl, hi, acc, M, G2, ha, e2, I2, hI⟩
    obtain ⟨st, go⟩ := it G2 H _ e2 I2
    by_cases hlt : i < ds.length
    · obtain ⟨g1, g2⟩ := go i hlt
      refine .inr ⟨g1, fun H' => ∃ acc M G, acc.length ≤ i + 1 ∧ Same G1 G ∧ Own K H' G (((D, .lst acc) :: M) ++ C.F) ∧ Iv (i + 1) acc M, fun H' ⟨acc, M, G, z⟩ => ⟨ds.length - (i + 1), by omega, rfl, hlt, acc, M, G, z⟩, fun x H' y => ?_⟩
      obtain ⟨G3, e3, I3, d, hd', r3⟩ := g2 x H' y
      have I3' : Own K H' G3 (M ++ ((D, Dat.lst acc) :: C.F)) := I3.perm (by
        show ((D, Dat.lst acc) :: (M ++ C.F)).Perm _
        exact List.perm_middle.symm)
      refine hg _ _ _ _ ?_
      refine hs i d acc M hd' hI ((D, Dat.lst acc) :: C.F) G3 _ H' x _ (((g.trans e1).trans e2).trans e3) I3' (((s.wipe vs).mono e1).mono (e2.trans e3)) r3 fun σ4 L4 G4 M4 H4 e4 I4 s4 q => ?_
      refine q G4 σ4 H4 _ ((((g.trans e1).trans e2).trans e3).trans e4) I4 s4 fun b G5 M5 H5 e5 I5 q5 => ?_
      cases b with
      | false =>
        refine iteF ⟨acc, M5, G5, by omega, (((e2.trans e3).trans e4).trans e5), I5.perm ?_, q5.2 rfl⟩
        show (M5 ++ ((D, Dat.lst acc) :: C.F)).Perm ((D, Dat.lst acc) :: (M5 ++ C.F))
        exact List.perm_middle
      | true =>
        refine iteT (q5.1 rfl G5 σ4 H5 _ (((((g.trans e1).trans e2).trans e3).trans e4).trans e5) I5 (s4.mono e5) fun v dv G6 M6 H6 e6 I6 r6 q6 => ?_)
        have I6' : Own K H6 G6 ((D, Dat.lst acc) :: (M6 ++ C.F)) := I6.perm List.perm_middle
        obtain ⟨_, o, ho, ro⟩ := I6'.at_ (D, Dat.lst acc) List.mem_cons_self
        obtain ⟨ws, rfl, lw⟩ := ro.lst_inv
        refine ⟨ws, ho, by rw [lw.length]; exact Nat.lt_of_le_of_lt ha (Nat.lt_of_lt_of_le (Nat.lt_of_lt_of_le hlt hz) (by decide)), acc ++ [dv], M6, G6, by rw [List.length_append]; exact Nat.succ_le_succ ha, ((((e2.trans e3).trans e4).trans e5).trans e6), ?_, q6⟩
        exact Own.write (M1 := []) (d' := Dat.lst (acc ++ [dv])) I6' (.lst (lw.snoc r6))
    · have e : i = ds.length := by omega
      subst e
      exact .inl ⟨st, k _ _ _ _ _ (e1.trans e2) I2 (.own D) (hd _ _ hI D)⟩
theorem wt_yes {QT : Bool → MS → Prop} (q : QT true M) : WT K C tYes L M QT := fun G σ H R g I s k => k _ _ _ _ (Same.refl G) I q
end
end Sy

/-! Defs of the text by name; what is walked, whatever it is; the symbolic step. -/
namespace Sy
open PySem PySem.Spec PyProof.Rows L2 TL

/-- a def of the module as the top has left it -/
structure DefAt (K : PySem.W.Frag) (mg : Str → Option Value) (x : Str) (st : Stmt) (ps : List Str) where
  f : Addr
  fd : FuncData
  F : Fun K x x st f fd
  g : mg x = some (.ref f)
  b : Binds K fd ps []
section
variable {X : Cx} {x : Str} {st : Stmt} {ps : List Str} {k : Nat} {sp : Sp} {p pos : Pos} {e : Expr} {es : List Expr} {t : TA} {W : WX}
theorem pe_f {d : DefAt X.K X.mg x st ps} (ok : FnOk X.prog X.w X.K X.mg X.base CX0 k d.f d.fd ps sp) (hr : Room k X.A) (ha : PA X (e :: es) t) (hg : Gl X x := by rfl) (hdb : (x == ("__debug__" : Str)) = false := by decide)
    (he : starEach (e :: es) X.env = (false, eval e X.env) :: starEach es X.env := by rfl) (hpl : (backTo pos (starEach es X.env)).any (·.1) = false := by rfl) : PE X (.Call (.Name x p) (e :: es) [] pos) (tCall sp [] E0 t) :=
  pe_call ok hr hg d.g d.F.kp d.b .nil pass0 ha hdb he hpl
theorem pe_f0 {d : DefAt X.K X.mg x st ps} (ok : FnOk X.prog X.w X.K X.mg X.base CX0 k d.f d.fd ps sp) (hr : Room k X.A) (hg : Gl X x := by rfl) (hdb : (x == ("__debug__" : Str)) = false := by decide) : PE X (.Call (.Name x p) [] [] pos) (tCall sp [] E0 tNil) :=
  pe_call0 ok hr hg d.g d.F.kp d.b .nil pass0 hdb
/-- a def that may raise -/
theorem pe_fS {d : DefAt X.K X.mg x st ps} (ok : FnOk X.prog X.w X.K X.mg X.base (L2.CX X.prog X.w) k d.f d.fd ps sp) (hr : Room k X.A) (hx : ∀ σ, PassesAt (L2.CX X.prog X.w) X σ (L2.WE W σ)) (ha : PA X (e :: es) t) (hg : Gl X x := by rfl) (hdb : (x == ("__debug__" : Str)) = false := by decide)
    (he : starEach (e :: es) X.env = (false, eval e X.env) :: starEach es X.env := by rfl) (hpl : (backTo pos (starEach es X.env)).any (·.1) = false := by rfl) : PE X (.Call (.Name x p) (e :: es) [] pos) (tCallSD sp [] (L2.WE W) t) :=
  pe_callSD ok hr hg d.g d.F.kp d.b .nil hx ha hdb he hpl
/-- what is never raised -/
def W0 : WX := fun _ _ _ _ => False
theorem passL0 : ∀ σ, PassesAt (L2.CX X.prog X.w) X σ (L2.WE W0 σ) := fun σ _ _ _ _ _ _ h => by
  obtain ⟨_, _, _, _, _, _, _, _, _, _, _, _, z⟩ := h
  exact z.elim
/-! ### for over a list, a tuple, a text -/
def iU (K : PySem.W.Frag) (tl : TE) : TI := fun σ H R => iList K tl σ H R ∨ iTup K tl σ H R ∨ iStr tl σ H R
theorem pi_U {tg l : Expr} {tl : TE} (hl : PE X l tl) : PI X tg l (iU X.K tl) := ⟨fun pins s σ H R I h => by
  rcases h with h | h | h
  · exact (pi_list hl).run pins s σ H R I h
  · exact (pi_tup hl).run pins s σ H R I h
  · exact (pi_str hl).run pins s σ H R I h⟩
theorem ok_xinit {P : Program} {w : World} {K : PySem.W.Frag} {mg : Str → Option Value} {base : Heap} {st : Stmt} {C f : Addr} {fd : FuncData} {qual fl : Str} {N : List Str} (F : Fun K "__init__" qual st f fd) (S : FnScope N N (defScope st)) (hN : N.length = 2) (T : OexC K C) (hf : PySem.W.findIn K (.ref C) fl = some none)
    (hb : ∀ (X : Cx), X.N = N → X.K = K → X.env.scope = defScope st → PSs X (defBody st) (tOst K fl (tVar 0) (tVar 1))) : FnOk P w K mg base CX0 1 f fd N (spXI C fl) := by
  refine F.ok S (fun vs H Q E h => by rw [spXI.len vs H Q E h, hN]) (fun cdv A outer s H vs Q E hr h => ⟨_, hb _ rfl rfl rfl, xinit_run hN T hf h⟩)
end
section
variable {K : PySem.W.Frag} {C : Ctx} {L : LS} {M : MS} {G H : Hp} {Q : Dat → MS → Prop} {QA : List Dat → MS → Prop} {P : Post}
theorem wi_U_l {tl : TE} {QI : List Dat → MS → Prop} (h : WE K C tl L M fun x M1 => ∃ ds, x = .lst ds ∧ QI ds M1) : WI K C (iU K tl) L M QI := fun G σ H R g I s k => .inl (wi_list h G σ H R g I s k)
theorem wi_U_t {tl : TE} {QI : List Dat → MS → Prop} (h : WE K C tl L M fun x M1 => ∃ ds, x = .tup ds ∧ QI ds M1) : WI K C (iU K tl) L M QI := fun G σ H R g I s k => .inr (.inl (wi_tup h G σ H R g I s k))
theorem wi_U_s {tl : TE} {QI : List Dat → MS → Prop} (h : WE K C tl L M fun x M1 => ∃ l : List Nat, x = .str (S l) ∧ QI (l.map fun c => Dat.str (S [c])) M1) : WI K C (iU K tl) L M QI := fun G σ H R g I s k => .inr (.inr (wi_str h G σ H R g I s k))
theorem we_lit {x : String} (q : Q (.str (S (T x))) M) : WE K C (tC (.str (Str.ofString x))) L M Q := by
  rw [lit_S]
  exact we_str q
/-- o[i] = e, a list -/
def SetL (o i v : Dat) (M : MS) (Q : MS → Prop) : Prop := ∃ p xs n j M4, o = .own p ∧ i = .int n ∧ Put p (.lst xs) (.lst (xs.set j v)) M M4 ∧ ixN xs.length n = some j ∧ Q M4
theorem setl_ {p : Addr} {xs : List Dat} {n : Int} {j : Nat} {v : Dat} {M4 : MS} {Q : MS → Prop} (hp : Put p (.lst xs) (.lst (xs.set j v)) M M4) (hj : ixN xs.length n = some j) (q : Q M4) : SetL (.own p) (.int n) v M Q := ⟨p, xs, n, j, M4, rfl, rfl, hp, hj, q⟩
theorem ws_setL {te to ti : TE} (h : WE K C te L M fun v M1 => WE K C to L M1 fun o M2 => WE K C ti L M2 fun i M3 => SetL o i v M3 fun M4 => P.nx L M4) : WS K C (tAsg te (gSub to ti rSetL)) L M P := fun G σ H D g I s k =>
  h G σ H _ g I s fun v x G1 M1 H1 e1 I1 r1 h1 => h1 G1 σ H1 _ (g.trans e1) I1 (s.mono e1) fun u o G2 M2 H2 e2 I2 r2 h2 => h2 G2 σ H2 _ ((g.trans e1).trans e2) I2 ((s.mono e1).mono e2) fun y i G3 M3 H3 e3 I3 r3 ⟨p, xs, n, j, M4, eo, ei, hp, hj, q⟩ => by
    subst eo ei
    cases r2
    cases r3
    obtain ⟨o, ho, r0⟩ := I3.hadP hp
    obtain ⟨ws, rfl, l⟩ := r0.lst_inv
    refine ⟨p, ws, n, j, rfl, rfl, ho, by rw [l.length]; exact hj, ?_⟩
    exact k.nx _ _ _ M4 _ ((e1.trans e2).trans e3) (I3.put hp (.lst (l.set j ((r1.mono e2).mono e3)))) (((s.mono e1).mono e2).mono e3) q
/-! ways -/
theorem br_dec {p A B : Prop} [Decidable p] (h1 : p → A) (h2 : ¬ p → B) : (decide p = true → A) ∧ (decide p = false → B) := ⟨fun e => h1 (of_decide_eq_true e), fun e => h2 (of_decide_eq_false e)⟩
theorem br_ndec {p A B : Prop} [Decidable p] (h1 : ¬ p → A) (h2 : p → B) : ((!decide p) = true → A) ∧ ((!decide p) = false → B) := by
  by_cases h : p
  · rw [decide_eq_true h]
    exact ⟨fun e => (nomatch e), fun _ => h2 h⟩
  · rw [decide_eq_false h]
    exact ⟨fun _ => h1 h, fun e => nomatch e⟩
theorem br_t {A B : Prop} (h1 : A) : (true = true → A) ∧ (true = false → B) := ⟨fun _ => h1, fun e => nomatch e⟩
theorem br_f {A B : Prop} (h2 : B) : (false = true → A) ∧ (false = false → B) := ⟨fun e => (nomatch e), fun _ => h2⟩
theorem br_b {b : Bool} {A B : Prop} (h1 : b = true → A) (h2 : b = false → B) : (b = true → A) ∧ (b = false → B) := ⟨h1, h2⟩
/-- a call of a def that leaves the owned objects alone -/
theorem cl_pure {spec : AS} {ds : List Dat} {px : Exn → MS → Prop} (h : spec ds [] (fun r M' => M' = [] ∧ Q r M) fun _ _ => False) : Cl spec ds M Q px := ⟨[], M, _, _, by simp, h, fun r M' ⟨e, q⟩ => by subst e; exact q, fun _ _ z => z.elim⟩
theorem cl_pureX {spec : AS} {ds : List Dat} {px : Exn → MS → Prop} (h : spec ds [] (fun r M' => M' = [] ∧ Q r M) fun x M' => M' = [] ∧ px x M) : Cl spec ds M Q px := ⟨[], M, _, _, by simp, h, fun r M' ⟨e, q⟩ => by subst e; exact q, fun x M' ⟨e, q⟩ => by subst e; exact q⟩
/-- .. that takes one owned object -/
theorem Del.perm {p : Addr} {d : Dat} : ∀ {M M' : MS}, Del p d M M' → M.Perm ((p, d) :: M')
  | _, _, .here => List.Perm.refl _
  | _, _, .there h => ((Del.perm h).cons _).trans (List.Perm.swap _ _ _)
theorem cl_one {spec : AS} {ds : List Dat} {p : Addr} {d : Dat} {M' : MS} {px : Exn → MS → Prop} (hd : Del p d M M') (h : spec ds [(p, d)] (fun r M2 => ∃ d', M2 = [(p, d')] ∧ Q r ((p, d') :: M')) fun _ _ => False) : Cl spec ds M Q px := ⟨[(p, d)], M', _, _, hd.perm, h, fun r M2 ⟨d', e, q⟩ => by subst e; exact q, fun _ _ z => z.elim⟩
end
section
variable {K : PySem.W.Frag} {C : Ctx} {M : MS} {Q : Dat → MS → Prop} {i j : Int}
theorem wr_sub_i (q : Q (.int (i - j)) M) : WR K C (rI0 fun i j => .int (i - j)) (.int i) (.int j) M Q := wr_sub (f := fun i j => i - j) rfl q
theorem wr_lt_i (q : Q (.bl (decide (i < j))) M) : WR K C (rI0 fun i j => .bl (decide (i < j))) (.int i) (.int j) M Q := wr_cmp (f := fun i j => decide (i < j)) rfl q
theorem wr_le_i (q : Q (.bl (decide (i ≤ j))) M) : WR K C (rI0 fun i j => .bl (decide (i ≤ j))) (.int i) (.int j) M Q := wr_cmp (f := fun i j => decide (i ≤ j)) rfl q
theorem wr_gt_i (q : Q (.bl (decide (j < i))) M) : WR K C (rI0 fun i j => .bl (decide (j < i))) (.int i) (.int j) M Q := wr_cmp (f := fun i j => decide (j < i)) rfl q
theorem wr_ge_i (q : Q (.bl (decide (j ≤ i))) M) : WR K C (rI0 fun i j => .bl (decide (j ≤ i))) (.int i) (.int j) M Q := wr_cmp (f := fun i j => decide (j ≤ i)) rfl q
theorem wr_fdiv_i (hc : 0 < j ∧ j < 1073741824) (q : Q (.int (i / j)) M) : WR K C (rI CDiv fun i j => .int (i / j)) (.int i) (.int j) M Q := wr_I (f := fun i j => i / j) rfl hc q
theorem wr_mod_i (hc : 0 < j) (q : Q (.int (i % j)) M) : WR K C (rI (fun _ j => 0 < j) fun i j => .int (i % j)) (.int i) (.int j) M Q := wr_I (f := fun i j => i % j) rfl hc q
theorem wr_pow_i (hc : 0 ≤ j ∧ j ≤ 1000000 ∧ i.natAbs < 2 ^ 64) (q : Q (.int (i ^ j.toNat)) M) : WR K C (rI CPow fun i j => .int (i ^ j.toNat)) (.int i) (.int j) M Q := wr_I (f := fun i j => i ^ j.toNat) rfl hc q
end
section
variable {K : PySem.W.Frag} {C : Ctx} {L : LS} {M : MS} {G H : Hp} {Q : Dat → MS → Prop} {P : Post}
theorem we_call0 {spec : AS} {ta : TA} (h : WA K C ta L M fun ds M1 => Cl spec ds M1 Q fun _ _ => False) : WE K C (tCall (SpF K spec) [] E0 ta) L M Q := we_call (fun _ => .nil) (by
  have e : (fun ds M1 => Cl spec (ds ++ []) M1 Q fun _ _ => False) = fun ds M1 => Cl spec ds M1 Q fun _ _ => False := by
    funext ds M1
    rw [List.append_nil]
  rw [e]
  exact h)
theorem we_callS0 {spec : AS} {ta : TA} {W : WX} {px : Exn → LS → MS → Prop} (hx : XW K C W px) (h : WA K C ta L M fun ds M1 => Cl spec ds M1 Q fun x M2 => px x L M2) : WE K C (tCallSD (SpF K spec) [] (L2.WE W) ta) L M Q := we_callS (fun _ => .nil) hx (by
  have e : (fun ds M1 => Cl spec (ds ++ []) M1 Q fun x M2 => px x L M2) = fun ds M1 => Cl spec ds M1 Q fun x M2 => px x L M2 := by
    funext ds M1
    rw [List.append_nil]
  rw [e]
  exact h)
theorem XW.none : XW K C W0 fun _ _ _ => False := fun _ _ _ _ _ _ _ _ _ _ _ h => h.elim
theorem atI_of {α : Type} {xs : List α} {z : Int} {j : Nat} {v : α} (e : z = (j : Int)) (h : xs[j]? = some v) : atI xs z = some v := by
  rw [e]
  exact atI_nat h
/-- an item whatever the place -/
theorem wr_ix_any {x : Dat} {xs : List Dat} {i : Int} (hx : SeqOf M x xs) (hi : 0 ≤ i ∧ i < xs.length) (q : ∀ (j : Nat) d, i = j → xs[j]? = some d → Q d M) : WR K C (rIx K) x (.int i) M Q := by
  have hj : i.toNat < xs.length := by omega
  exact wr_ix hx (d := xs[i.toNat]) (atI_of (j := i.toNat) (by omega) (List.getElem?_eq_getElem hj)) (q i.toNat _ (by omega) (List.getElem?_eq_getElem hj))
theorem wr_ix_s_any {l : List Nat} {i : Int} (hl : l.length ≤ 1000000) (hi : 0 ≤ i ∧ i < l.length) (q : ∀ (j : Nat) c, i = j → l[j]? = some c → Q (.str (S [c])) M) : WR K C (rIx K) (.str (S l)) (.int i) M Q := by
  have hj : i.toNat < l.length := by omega
  exact wr_ix_s hl (c := l[i.toNat]) (atI_of (j := i.toNat) (by omega) (List.getElem?_eq_getElem hj)) (q i.toNat _ (by omega) (List.getElem?_eq_getElem hj))
end
/-! what a reading asks of a value, by a word of its own -/
def IsS (x : Dat) (k : Prop) : Prop := (∃ z, x = .str z) ∧ k
theorem isS_ {z : Str} {k : Prop} (h : k) : IsS (.str z) k := ⟨⟨z, rfl⟩, h⟩
def Few (xs : List Dat) (k : Prop) : Prop := xs.length ≤ 1000000 ∧ k
theorem few_ {xs : List Dat} {k : Prop} (h1 : xs.length ≤ 1000000) (h : k) : Few xs k := ⟨h1, h⟩
def FewN (xs : List Dat) (k : Addr → Prop) : Prop := xs.length ≤ 1000000 ∧ ∀ p, k p
theorem fewN_ {xs : List Dat} {k : Addr → Prop} (h1 : xs.length ≤ 1000000) (h : ∀ p, k p) : FewN xs k := ⟨h1, h⟩
def IsI (x : Dat) (k : Int → Prop) : Prop := ∃ i, x = .int i ∧ k i
theorem isI_ {i : Int} {k : Int → Prop} (h : k i) : IsI (.int i) k := ⟨i, rfl, h⟩
def TyK (M : MS) (T : String) (x : Dat) (k : Prop) : Prop := TyD M T x ∧ k
theorem tyK_l {M M' : MS} {p : Addr} {xs : List Dat} {k : Prop} (hd : Del p (.lst xs) M M') (h : k) : TyK M "list" (.own p) k := ⟨.inl ⟨rfl, _, _, hd⟩, h⟩
theorem tyK_d {M M' : MS} {p : Addr} {xs : List (Key × Dat)} {k : Prop} (hd : Del p (.dK xs) M M') (h : k) : TyK M "dict" (.own p) k := ⟨.inr ⟨rfl, .inl ⟨_, _, hd⟩⟩, h⟩
theorem tyK_s {M : MS} {z : Str} {k : Prop} (h : k) : TyK M "str" (.str z) k := ⟨rfl, h⟩
theorem tyK_L {M : MS} {xs : List Dat} {k : Prop} (h : k) : TyK M "list" (.lst xs) k := ⟨rfl, h⟩
def Two (ds : List Dat) (k : Dat → Dat → Prop) : Prop := ∃ x y, ds = [x, y] ∧ k x y
theorem two_ {x y : Dat} {k : Dat → Dat → Prop} (h : k x y) : Two [x, y] k := ⟨x, y, rfl, h⟩
def OneX (ds : List Dat) (k : Dat → Prop) : Prop := ∃ d, ds = [d] ∧ k d
theorem oneX_ {x : Dat} {k : Dat → Prop} (h : k x) : OneX [x] k := ⟨x, rfl, h⟩
section
variable {K : PySem.W.Frag} {C : Ctx} {L : LS} {M : MS} {G H : Hp} {Q : Dat → MS → Prop} {P : Post}
theorem we_m1' {r : V → List V → Hp → VK → Prop} {to te : TE} (h : WE K C to L M fun x M1 => IsS x (WE K C te L M1 fun y M2 => WM K C r x [y] M2 Q)) : WE K C (tM1 r to te) L M Q := we_m1 h
theorem we_m0' {r : V → List V → Hp → VK → Prop} {to : TE} (h : WE K C to L M fun x M1 => IsS x (WM K C r x [] M1 Q)) : WE K C (tM0 r to) L M Q := we_m0 h
theorem we_tup' {ta : TA} (h : WA K C ta L M fun xs M1 => Few xs (Q (.tup xs) M1)) : WE K C (tTup ta) L M Q := we_tup h
theorem we_lst' {ta : TA} (h : WA K C ta L M fun xs M1 => FewN xs fun p => Q (.own p) ((p, .lst xs) :: M1)) : WE K C (tLst ta) L M Q := we_lst h
theorem we_bm' {T : String} {r : V → List V → Hp → VK → Prop} {to : TE} {ta : TA} (h : WE K C to L M fun x M1 => TyK M1 T x (WA K C ta L M1 fun xs M2 => WM K C r x xs M2 Q)) : WE K C (tBM K T r to ta) L M Q := we_bm h
theorem we_bm0' {T : String} {r : V → List V → Hp → VK → Prop} {to : TE} (h : WE K C to L M fun x M1 => TyK M1 T x (WM K C r x [] M1 Q)) : WE K C (tBM0 K T r to) L M Q := we_bm0 h
theorem wo_part' {QO : Option Int → MS → Prop} {te : TE} (h : WE K C te L M fun x M1 => IsI x fun i => QO (some i) M1) : WO K C (tPart te) L M QO := wo_part h
theorem ws_par' {i j : Nat} {ta : TA} (h : WA K C ta L M fun ds M1 => Two ds fun x y => P.nx ((L.set i (some x)).set j (some y)) M1) : WS K C (tPar i j ta) L M P := ws_par h
theorem ws_aug' {i : Nat} {te : TE} {f : Int → Int → Int} {a : Int} (hx : L[i]? = some (some (.int a))) (h : WE K C te L M fun y M1 => IsI y fun b => P.nx (L.set i (some (.int (f a b)))) M1) : WS K C (tAug i te (ipI f)) L M P := ws_aug hx h
theorem ws_raise' {W : WX} {Cc : Addr} {f : Str} {ta : TA} {px : Exn → LS → MS → Prop} (hx : XW K C W px) (h : WA K C ta L M fun ds M1 => OneX ds fun d => px ⟨Cc, [(f, d)]⟩ L M1) : WS K C (tRaiseF Cc f W ta) L M P := ws_raise hx h
end
theorem Fin.keep {q : Dat → MS → Prop} {r : Dat} {p : Addr} {d : Dat} : ∀ {M M' : MS}, Del p d M M' → q r [(p, d)] → Fin q r M
  | _, M', .here, h => by
    induction M' with
    | nil => exact .ret h
    | cons x M' ih => exact .drop (.there (.here (p := x.1) (d := x.2))) ih
  | _, _, .there (q := x) hd, h => .drop (.here (p := x.1) (d := x.2)) (Fin.keep hd h)
theorem fn_none {P : Program} {w : World} {K : PySem.W.Frag} {mg : Str → Option Value} {base : Heap} {CX : CXT} {f : Addr} {fd : FuncData} {ps : List Str} : FnOk P w K mg base CX 0 f fd ps (SpF K fun _ _ _ _ => False) :=
  ⟨fun _ _ _ _ ⟨_, _, _, _, _, _, _, _, h, _⟩ => h.elim, fun _ _ _ _ _ _ _ _ _ _ _ _ _ ⟨_, _, _, _, _, _, _, _, h, _⟩ => h.elim⟩
/-- a row's draw -/
def spTake : AS := fun ds M q e => ∃ p a c b, ds = [.own p, .int b] ∧ M = [(p, .lst [.int a, .int c])] ∧ (0 < b ∧ b < 1073741824) ∧ (0 ≤ c ∧ c ≤ 1000000) ∧ ∀ t a', 0 ≤ t → t < b → q (.int t) [(p, .lst [.int a', .int (c + 1)])]
theorem cl_take {p : Addr} {a c b : Int} {M M' : MS} {Q : Dat → MS → Prop} {px : Exn → MS → Prop} (hd : Del p (.lst [.int a, .int c]) M M') (hb : 0 < b ∧ b < 1073741824) (hc : 0 ≤ c ∧ c ≤ 1000000) (k : ∀ t a', 0 ≤ t → t < b → Q (.int t) ((p, .lst [.int a', .int (c + 1)]) :: M')) : Cl spTake [.own p, .int b] M Q px :=
  ⟨[(p, .lst [.int a, .int c])], M', fun r M2 => ∃ d', M2 = [(p, d')] ∧ Q r ((p, d') :: M'), fun _ _ => False, hd.perm, ⟨p, a, c, b, rfl, rfl, hb, hc, fun t a' h0 h1 => ⟨_, rfl, k t a' h0 h1⟩⟩, fun r M2 ⟨d', e, q⟩ => by subst e; exact q, fun _ _ z => z.elim⟩
theorem pe_cast {X : Cx} {e : Expr} {t t' : TE} (h : PE X e t) (ht : t = t') : PE X e t' := ht ▸ h
theorem pts_cast {X : Cx} {e : List Expr} {t t' : TT} (h : PTs X e t) (ht : t = t') : PTs X e t' := ht ▸ h
theorem blkK (X : Cx) (s : Shared) (H : Hp) (scope : Scope) (cenv : Env) (fp : List Addr) : (X.blk s H scope cenv fp).K = X.K := rfl
theorem pss_cast {X : Cx} {e : List Stmt} {t t' : TS} (h : PSs X e t) (ht : t = t') : PSs X e t' := ht ▸ h
theorem trK (X : Cx) (pn : List (Addr × Obj)) (xe : Value → Shared → Prop) : (X.tr pn xe).K = X.K := rfl
theorem suiteK (X : Cx) (a : Addr) (pn : List (Addr × Obj)) : (X.suite a pn).K = X.K := rfl
end Sy

/-! k61: the mathematics. Texts are lists of codes. -/
namespace K61
open Sy

inductive Kd where | level | upright | single | beside | above | turned | mirrored
  deriving DecidableEq
inductive Tr where
  | leaf (k : Fin 3) | un (m : Bool) (t : Tr) | bi (a : Bool) (t u : Tr)

abbrev tLevel : List Nat := T "level"
abbrev tUpright : List Nat := T "upright"
abbrev tSingle : List Nat := T "single"
abbrev tTurned : List Nat := T "turned"
abbrev tMirrored : List Nat := T "mirrored"
abbrev tBeside : List Nat := T "beside"
abbrev tAbove : List Nat := T "above"
def leafW : Fin 3 → List Nat
  | 0 => tLevel
  | 1 => tUpright
  | 2 => tSingle
def unW (m : Bool) : List Nat := if m then tMirrored else tTurned
def biW (a : Bool) : List Nat := if a then tAbove else tBeside
/-- the text -/
def ren : Tr → List Nat
  | .leaf k => leafW k
  | .un m t => T "(" ++ unW m ++ T " " ++ ren t ++ T ")"
  | .bi a t u => T "(" ++ ren t ++ T " " ++ biW a ++ T " " ++ ren u ++ T ")"
def dep : Tr → Nat
  | .leaf _ => 0
  | .un _ t => dep t + 1
  | .bi _ t u => max (dep t) (dep u) + 1
def kd : Tr → Kd
  | .leaf 0 => .level
  | .leaf 1 => .upright
  | .leaf 2 => .single
  | .un true _ => .mirrored
  | .un false _ => .turned
  | .bi true _ _ => .above
  | .bi false _ _ => .beside
def wd : Kd → List Nat
  | .level => tLevel
  | .upright => tUpright
  | .single => tSingle
  | .beside => tBeside
  | .above => tAbove
  | .turned => tTurned
  | .mirrored => tMirrored
theorem ren_len : ∀ t : Tr, (ren t).length ≤ 21 * 2 ^ dep t - 13
  | .leaf 0 => by decide
  | .leaf 1 => by decide
  | .leaf 2 => by decide
  | .un m t => by
    have h := ren_len t
    have e : (unW m).length ≤ 8 := by cases m <;> decide
    have p : 0 < 2 ^ dep t := Nat.two_pow_pos _
    show (T "(" ++ unW m ++ T " " ++ ren t ++ T ")").length ≤ 21 * 2 ^ (dep t + 1) - 13
    rw [Nat.pow_succ]
    simp only [List.length_append]
    have e1 : (T "(").length = 1 := rfl
    have e2 : (T " ").length = 1 := rfl
    have e3 : (T ")").length = 1 := rfl
    omega
  | .bi a t u => by
    have h := ren_len t
    have h2 := ren_len u
    have e : (biW a).length ≤ 6 := by cases a <;> decide
    have p : 0 < 2 ^ dep t := Nat.two_pow_pos _
    have q1 : 2 ^ dep t ≤ 2 ^ max (dep t) (dep u) := Nat.pow_le_pow_right (by decide) (Nat.le_max_left _ _)
    have q2 : 2 ^ dep u ≤ 2 ^ max (dep t) (dep u) := Nat.pow_le_pow_right (by decide) (Nat.le_max_right _ _)
    have p2 : 0 < 2 ^ dep u := Nat.two_pow_pos _
    show (T "(" ++ ren t ++ T " " ++ biW a ++ T " " ++ ren u ++ T ")").length ≤ 21 * 2 ^ (max (dep t) (dep u) + 1) - 13
    rw [Nat.pow_succ]
    simp only [List.length_append]
    have e1 : (T "(").length = 1 := rfl
    have e2 : (T " ").length = 1 := rfl
    have e3 : (T ")").length = 1 := rfl
    omega
/-! ### the reader -/
def cutP (h l : List Nat) : Option (List Nat) := if h.isPrefixOf l then some (l.drop h.length) else none
def wholeP (l : List Nat) : Option (Tr × List Nat) :=
  if tLevel.isPrefixOf l then some (.leaf 0, l.drop 5) else if tUpright.isPrefixOf l then some (.leaf 1, l.drop 7) else (cutP tSingle l).map fun r => (.leaf 2, r)
def tP (rec : List Nat → Option (Tr × List Nat)) (l : List Nat) : Option (Tr × List Nat) :=
  if (T "turned ").isPrefixOf l then (rec (l.drop 7)).bind fun p => (cutP (T ")") p.2).map fun r => (.un false p.1, r)
  else (cutP (T "mirrored ") l).bind fun l' => (rec l').bind fun p => (cutP (T ")") p.2).map fun r => (.un true p.1, r)
def jP (rec : List Nat → Option (Tr × List Nat)) (l : List Nat) : Option (Tr × List Nat) :=
  (rec l).bind fun p => if (T " beside ").isPrefixOf p.2 then (rec (p.2.drop 8)).bind fun q => (cutP (T ")") q.2).map fun r => (.bi false p.1 q.1, r)
    else (cutP (T " above ") p.2).bind fun l' => (rec l').bind fun q => (cutP (T ")") q.2).map fun r => (.bi true p.1 q.1, r)
def pF : Nat → List Nat → Option (Tr × List Nat)
  | 0, l => if (T "(").isPrefixOf l then none else wholeP l
  | n + 1, l => if (T "(").isPrefixOf l then (if (T "(turned ").isPrefixOf l || (T "(mirrored ").isPrefixOf l then tP (pF n) (l.drop 1) else jP (pF n) (l.drop 1)) else wholeP l
theorem pre_iff {h l : List Nat} : h.isPrefixOf l = true ↔ ∃ r, l = h ++ r := by
  rw [List.isPrefixOf_iff_prefix]
  exact ⟨fun ⟨r, e⟩ => ⟨r, e.symm⟩, fun ⟨r, e⟩ => ⟨r, e.symm⟩⟩
theorem cutP_some {h l r : List Nat} (e : cutP h l = some r) : l = h ++ r := by
  unfold cutP at e
  split at e
  · rename_i hp
    obtain ⟨r', rfl⟩ := pre_iff.mp hp
    simp at e
    rw [e]
  · cases e
theorem cutP_app (h r : List Nat) : cutP h (h ++ r) = some r := by
  unfold cutP
  rw [if_pos (pre_iff.mpr ⟨r, rfl⟩)]
  simp
theorem wholeP_some {l r : List Nat} {t : Tr} (e : wholeP l = some (t, r)) : l = ren t ++ r ∧ dep t = 0 := by
  unfold wholeP at e
  split at e
  · rename_i h
    obtain ⟨r', rfl⟩ := pre_iff.mp h
    simp at e
    obtain ⟨rfl, rfl⟩ := e
    exact ⟨rfl, rfl⟩
  · split at e
    · rename_i h
      obtain ⟨r', rfl⟩ := pre_iff.mp h
      simp at e
      obtain ⟨rfl, rfl⟩ := e
      exact ⟨rfl, rfl⟩
    · rw [Option.map_eq_some_iff] at e
      obtain ⟨r', h, e⟩ := e
      cases e
      exact ⟨cutP_some h, rfl⟩
theorem unT (m : Bool) : T "(" ++ unW m ++ T " " = if m then T "(mirrored " else T "(turned " := by cases m <;> rfl
/-- what is read is written so -/
theorem pF_some : ∀ (n : Nat) (l r : List Nat) (t : Tr), pF n l = some (t, r) → l = ren t ++ r ∧ dep t ≤ n
  | 0, l, r, t, e => by
    unfold pF at e
    split at e
    · cases e
    · obtain ⟨h1, h2⟩ := wholeP_some e
      exact ⟨h1, Nat.le_of_eq h2⟩
  | n + 1, l, r, t, e => by
    have ih := pF_some n
    unfold pF at e
    split at e
    · rename_i h0
      obtain ⟨l0, rfl⟩ := pre_iff.mp h0
      have d1 : (T "(" ++ l0).drop 1 = l0 := rfl
      rw [d1] at e
      split at e
      · unfold tP at e
        split at e
        · rename_i h
          obtain ⟨l1, rfl⟩ := pre_iff.mp h
          rw [Option.bind_eq_some_iff] at e
          obtain ⟨⟨t1, r1⟩, e1, e⟩ := e
          rw [Option.map_eq_some_iff] at e
          obtain ⟨r2, e2, e⟩ := e
          cases e
          obtain ⟨q1, q2⟩ := ih _ _ _ e1
          have q3 := cutP_some e2
          have q1' : l1 = ren t1 ++ r1 := q1
          refine ⟨?_, by show dep t1 + 1 ≤ n + 1; omega⟩
          subst q1'
          simp only at q3
          subst q3
          show _ = T "(" ++ unW false ++ T " " ++ ren t1 ++ T ")" ++ r
          rw [unT]
          simp only [List.append_assoc]
          rfl
        · rw [Option.bind_eq_some_iff] at e
          obtain ⟨l1, e0, e⟩ := e
          have q0 := cutP_some e0
          rw [Option.bind_eq_some_iff] at e
          obtain ⟨⟨t1, r1⟩, e1, e⟩ := e
          rw [Option.map_eq_some_iff] at e
          obtain ⟨r2, e2, e⟩ := e
          cases e
          obtain ⟨q1, q2⟩ := ih _ _ _ e1
          have q3 := cutP_some e2
          refine ⟨?_, by show dep t1 + 1 ≤ n + 1; omega⟩
          simp only at q3
          subst q0
          subst q1
          subst q3
          show _ = T "(" ++ unW true ++ T " " ++ ren t1 ++ T ")" ++ r
          rw [unT]
          simp only [List.append_assoc]
          rfl
      · unfold jP at e
        rw [Option.bind_eq_some_iff] at e
        obtain ⟨⟨t1, r1⟩, e1, e⟩ := e
        obtain ⟨q1, q2⟩ := ih _ _ _ e1
        simp only at e
        split at e
        · rename_i h
          obtain ⟨l1, rfl⟩ := pre_iff.mp h
          rw [Option.bind_eq_some_iff] at e
          obtain ⟨⟨t2, r2⟩, e2, e⟩ := e
          rw [Option.map_eq_some_iff] at e
          obtain ⟨r3, e3, e⟩ := e
          cases e
          obtain ⟨q3, q4⟩ := ih _ _ _ e2
          have q3' : l1 = ren t2 ++ r2 := q3
          have q5 := cutP_some e3
          refine ⟨?_, by show max (dep t1) (dep t2) + 1 ≤ n + 1; omega⟩
          simp only at q5
          subst q1
          subst q3'
          subst q5
          show _ = T "(" ++ ren t1 ++ T " " ++ T "beside" ++ T " " ++ ren t2 ++ T ")" ++ r
          have eb : T " beside " = T " " ++ T "beside" ++ T " " := rfl
          rw [eb]
          simp only [List.append_assoc]
        · rw [Option.bind_eq_some_iff] at e
          obtain ⟨l1, e0, e⟩ := e
          have q0 := cutP_some e0
          rw [Option.bind_eq_some_iff] at e
          obtain ⟨⟨t2, r2⟩, e2, e⟩ := e
          rw [Option.map_eq_some_iff] at e
          obtain ⟨r3, e3, e⟩ := e
          cases e
          obtain ⟨q3, q4⟩ := ih _ _ _ e2
          have q5 := cutP_some e3
          refine ⟨?_, by show max (dep t1) (dep t2) + 1 ≤ n + 1; omega⟩
          simp only at q5 q0
          subst q1
          subst q0
          subst q3
          subst q5
          show _ = T "(" ++ ren t1 ++ T " " ++ T "above" ++ T " " ++ ren t2 ++ T ")" ++ r
          have eb : T " above " = T " " ++ T "above" ++ T " " := rfl
          rw [eb]
          simp only [List.append_assoc]
    · obtain ⟨h1, h2⟩ := wholeP_some e
      exact ⟨h1, by omega⟩
theorem pF_len {n : Nat} {l r : List Nat} {t : Tr} (e : pF n l = some (t, r)) : r.length ≤ l.length := by
  obtain ⟨h, _⟩ := pF_some n l r t e
  rw [h, List.length_append]
  omega
theorem cutP_len {h l r : List Nat} (e : cutP h l = some r) : r.length ≤ l.length := by
  rw [cutP_some e, List.length_append]
  omega
/-- no text of a part begins as others' do -/
theorem ren_head : ∀ t : Tr, (∃ r, ren t = T "(" ++ r ∧ ∃ k, dep t = k + 1) ∨ (∃ k, t = .leaf k)
  | .leaf k => .inr ⟨k, rfl⟩
  | .un m t => .inl ⟨_, by show T "(" ++ unW m ++ T " " ++ ren t ++ T ")" = _; rw [List.append_assoc, List.append_assoc, List.append_assoc], _, rfl⟩
  | .bi a t u => .inl ⟨_, by show T "(" ++ ren t ++ T " " ++ biW a ++ T " " ++ ren u ++ T ")" = _; rw [List.append_assoc, List.append_assoc, List.append_assoc, List.append_assoc, List.append_assoc], _, rfl⟩
theorem whole_leaf (k : Fin 3) (r : List Nat) : wholeP (leafW k ++ r) = some (.leaf k, r) := by
  match k with
  | 0 => rfl
  | 1 => rfl
  | 2 => rfl
theorem paren_leaf (k : Fin 3) (r : List Nat) : (T "(").isPrefixOf (leafW k ++ r) = false := by
  match k with
  | 0 => rfl
  | 1 => rfl
  | 2 => rfl
/-- what is written so is read -/
theorem pF_ren : ∀ (n : Nat) (t : Tr) (r : List Nat), dep t ≤ n → pF n (ren t ++ r) = some (t, r)
  | 0, .leaf k, r, _ => by
    unfold pF
    show (if (T "(").isPrefixOf (leafW k ++ r) = true then none else wholeP (leafW k ++ r)) = _
    rw [paren_leaf, whole_leaf]
    rfl
  | 0, .un _ t, r, h => absurd h (by show ¬ dep t + 1 ≤ 0; omega)
  | 0, .bi _ t u, r, h => absurd h (by show ¬ max (dep t) (dep u) + 1 ≤ 0; omega)
  | n + 1, .leaf k, r, _ => by
    unfold pF
    show (if (T "(").isPrefixOf (leafW k ++ r) = true then _ else wholeP (leafW k ++ r)) = _
    rw [paren_leaf, whole_leaf]
    rfl
  | n + 1, .un m t, r, h => by
    have ht : dep t ≤ n := by
      have : dep t + 1 ≤ n + 1 := h
      omega
    have ih := pF_ren n t (T ")" ++ r) ht
    have e : ren (.un m t) ++ r = T "(" ++ ((unW m ++ T " ") ++ (ren t ++ (T ")" ++ r))) := by
      show T "(" ++ unW m ++ T " " ++ ren t ++ T ")" ++ r = _
      simp only [List.append_assoc]
    rw [e]
    unfold pF
    rw [if_pos (pre_iff.mpr ⟨_, rfl⟩)]
    have d1 : (T "(" ++ ((unW m ++ T " ") ++ (ren t ++ (T ")" ++ r)))).drop 1 = (unW m ++ T " ") ++ (ren t ++ (T ")" ++ r)) := rfl
    rw [d1]
    cases m with
    | false =>
      have p0 : ((T "(turned ").isPrefixOf (T "(" ++ ((unW false ++ T " ") ++ (ren t ++ (T ")" ++ r)))) || (T "(mirrored ").isPrefixOf (T "(" ++ ((unW false ++ T " ") ++ (ren t ++ (T ")" ++ r))))) = true := by
        rw [Bool.or_eq_true]
        exact .inl (pre_iff.mpr ⟨ren t ++ (T ")" ++ r), rfl⟩)
      have p1 : (T "turned ").isPrefixOf ((unW false ++ T " ") ++ (ren t ++ (T ")" ++ r))) = true := pre_iff.mpr ⟨ren t ++ (T ")" ++ r), rfl⟩
      rw [if_pos p0]
      unfold tP
      rw [if_pos p1]
      have d2 : ((unW false ++ T " ") ++ (ren t ++ (T ")" ++ r))).drop 7 = ren t ++ (T ")" ++ r) := rfl
      rw [d2, ih, Option.bind_some, cutP_app]
      rfl
    | true =>
      have p0 : ((T "(turned ").isPrefixOf (T "(" ++ ((unW true ++ T " ") ++ (ren t ++ (T ")" ++ r)))) || (T "(mirrored ").isPrefixOf (T "(" ++ ((unW true ++ T " ") ++ (ren t ++ (T ")" ++ r))))) = true := by
        rw [Bool.or_eq_true]
        exact .inr (pre_iff.mpr ⟨ren t ++ (T ")" ++ r), rfl⟩)
      rw [if_pos p0]
      unfold tP
      have d3 : (T "turned ").isPrefixOf ((unW true ++ T " ") ++ (ren t ++ (T ")" ++ r))) = false := rfl
      have d4 : cutP (T "mirrored ") ((unW true ++ T " ") ++ (ren t ++ (T ")" ++ r))) = some (ren t ++ (T ")" ++ r)) := cutP_app (T "mirrored ") _
      rw [d3, d4, Option.bind_some, ih, Option.bind_some, cutP_app]
      rfl
  | n + 1, .bi a t u, r, h => by
    have hm : max (dep t) (dep u) + 1 ≤ n + 1 := h
    have ht : dep t ≤ n := by omega
    have hu : dep u ≤ n := by omega
    have e : ren (.bi a t u) ++ r = T "(" ++ (ren t ++ ((T " " ++ biW a ++ T " ") ++ (ren u ++ (T ")" ++ r)))) := by
      show T "(" ++ ren t ++ T " " ++ biW a ++ T " " ++ ren u ++ T ")" ++ r = _
      simp only [List.append_assoc]
    have ih1 := pF_ren n t ((T " " ++ biW a ++ T " ") ++ (ren u ++ (T ")" ++ r))) ht
    have ih2 := pF_ren n u (T ")" ++ r) hu
    rw [e]
    unfold pF
    rw [if_pos (pre_iff.mpr ⟨_, rfl⟩)]
    have d1 : ∀ x : List Nat, (T "(" ++ x).drop 1 = x := fun _ => rfl
    have nt : ∀ (y : List Nat), ((T "(turned ").isPrefixOf (T "(" ++ (ren t ++ y)) || (T "(mirrored ").isPrefixOf (T "(" ++ (ren t ++ y))) = false := by
      intro y
      rcases ren_head t with ⟨x, hx, _⟩ | ⟨k, rfl⟩
      · rw [hx]
        rfl
      · match k with
        | 0 => rfl
        | 1 => rfl
        | 2 => rfl
    rw [nt, d1]
    unfold jP
    rw [ih1]
    simp only [Option.bind_some, Bool.false_eq_true, if_false]
    cases a with
    | false =>
      have p1 : (T " beside ").isPrefixOf ((T " " ++ biW false ++ T " ") ++ (ren u ++ (T ")" ++ r))) = true := pre_iff.mpr ⟨ren u ++ (T ")" ++ r), rfl⟩
      rw [if_pos p1]
      have d2 : ((T " " ++ biW false ++ T " ") ++ (ren u ++ (T ")" ++ r))).drop 8 = ren u ++ (T ")" ++ r) := rfl
      rw [d2, ih2, Option.bind_some, cutP_app]
      rfl
    | true =>
      have d3 : (T " beside ").isPrefixOf ((T " " ++ biW true ++ T " ") ++ (ren u ++ (T ")" ++ r))) = false := rfl
      have d4 : cutP (T " above ") ((T " " ++ biW true ++ T " ") ++ (ren u ++ (T ")" ++ r))) = some (ren u ++ (T ")" ++ r)) := cutP_app (T " above ") _
      rw [d3, d4]
      simp only [Option.bind_some, Bool.false_eq_true, if_false]
      rw [ih2, Option.bind_some, cutP_app]
      rfl
/-- read_part -/
def rd (l : List Nat) : Option Tr := (pF 8 l).bind fun p => if p.2 = [] then some p.1 else none
theorem rd_iff {l : List Nat} {t : Tr} : rd l = some t ↔ l = ren t ∧ dep t ≤ 8 := by
  unfold rd
  constructor
  · intro e
    rw [Option.bind_eq_some_iff] at e
    obtain ⟨⟨t1, r⟩, e1, e⟩ := e
    split at e
    · rename_i hr
      simp only at hr
      cases e
      subst hr
      have h := pF_some 8 l [] _ e1
      rw [List.append_nil] at h
      exact h
    · cases e
  · rintro ⟨rfl, h⟩
    have e := pF_ren 8 t [] h
    rw [List.append_nil] at e
    rw [e]
    rfl
end K61

/-! k61: the law's own reading of a text: words, the brackets, parts without brackets made lesser. -/
namespace K61
open Sy

abbrev Wd := List Nat
abbrev wO : Wd := T "("
abbrev wC : Wd := T ")"
abbrev wB : Wd := T " "
def menu : List Wd := [wO, wC, wB, tSingle, tLevel, tUpright, tTurned, tMirrored, tBeside, tAbove]
/-- a part's words -/
def tk : Tr → List Wd
  | .leaf k => [leafW k]
  | .un m t => wO :: unW m :: wB :: (tk t ++ [wC])
  | .bi a t u => wO :: (tk t ++ (wB :: biW a :: wB :: (tk u ++ [wC])))
theorem flat_tk : ∀ t : Tr, (tk t).flatten = ren t
  | .leaf k => by simp [tk, ren]
  | .un m t => by
    show (wO :: unW m :: wB :: (tk t ++ [wC])).flatten = _
    simp only [List.flatten_cons, List.flatten_append, List.flatten_nil, flat_tk t, List.append_nil]
    show _ = T "(" ++ unW m ++ T " " ++ ren t ++ T ")"
    simp only [List.append_assoc]
  | .bi a t u => by
    show (wO :: (tk t ++ (wB :: biW a :: wB :: (tk u ++ [wC])))).flatten = _
    simp only [List.flatten_cons, List.flatten_append, List.flatten_nil, flat_tk t, flat_tk u, List.append_nil]
    show _ = T "(" ++ ren t ++ T " " ++ biW a ++ T " " ++ ren u ++ T ")"
    simp only [List.append_assoc]
theorem mem_leafW (k : Fin 3) : leafW k ∈ menu := by
  match k with
  | 0 => decide
  | 1 => decide
  | 2 => decide
theorem mem_tk : ∀ t : Tr, ∀ w ∈ tk t, w ∈ menu
  | .leaf k => fun w h => by
    rw [List.mem_singleton.mp h]
    exact mem_leafW k
  | .un m t => fun w h => by
    have h : w ∈ wO :: unW m :: wB :: (tk t ++ [wC]) := h
    have hm : unW m ∈ menu := by cases m <;> decide
    rcases List.mem_cons.mp h with rfl | h
    · decide
    rcases List.mem_cons.mp h with rfl | h
    · exact hm
    rcases List.mem_cons.mp h with rfl | h
    · decide
    rcases List.mem_append.mp h with h | h
    · exact mem_tk t w h
    · rw [List.mem_singleton.mp h]
      decide
  | .bi a t u => fun w h => by
    have h : w ∈ wO :: (tk t ++ (wB :: biW a :: wB :: (tk u ++ [wC]))) := h
    have hm : biW a ∈ menu := by cases a <;> decide
    rcases List.mem_cons.mp h with rfl | h
    · decide
    rcases List.mem_append.mp h with h | h
    · exact mem_tk t w h
    rcases List.mem_cons.mp h with rfl | h
    · decide
    rcases List.mem_cons.mp h with rfl | h
    · exact hm
    rcases List.mem_cons.mp h with rfl | h
    · decide
    rcases List.mem_append.mp h with h | h
    · exact mem_tk u w h
    · rw [List.mem_singleton.mp h]
      decide
/-! ### words of a text -/
theorem menu_or {w : Wd} (h : w ∈ menu) : w = wO ∨ w = wC ∨ w = wB ∨ w = tSingle ∨ w = tLevel ∨ w = tUpright ∨ w = tTurned ∨ w = tMirrored ∨ w = tBeside ∨ w = tAbove := by
  unfold menu at h
  rcases List.mem_cons.mp h with h | h
  · exact .inl h
  rcases List.mem_cons.mp h with h | h
  · exact .inr (.inl h)
  rcases List.mem_cons.mp h with h | h
  · exact .inr (.inr (.inl h))
  rcases List.mem_cons.mp h with h | h
  · exact .inr (.inr (.inr (.inl h)))
  rcases List.mem_cons.mp h with h | h
  · exact .inr (.inr (.inr (.inr (.inl h))))
  rcases List.mem_cons.mp h with h | h
  · exact .inr (.inr (.inr (.inr (.inr (.inl h)))))
  rcases List.mem_cons.mp h with h | h
  · exact .inr (.inr (.inr (.inr (.inr (.inr (.inl h))))))
  rcases List.mem_cons.mp h with h | h
  · exact .inr (.inr (.inr (.inr (.inr (.inr (.inr (.inl h)))))))
  rcases List.mem_cons.mp h with h | h
  · exact .inr (.inr (.inr (.inr (.inr (.inr (.inr (.inr (.inl h))))))))
  · exact .inr (.inr (.inr (.inr (.inr (.inr (.inr (.inr (.inr (List.mem_singleton.mp h)))))))))
def hits (l : List Nat) : List Wd := menu.filter fun w => l.take w.length == w
theorem hits_app {w : Wd} (h : w ∈ menu) (r : List Nat) : hits (w ++ r) = [w] := by
  have h := menu_or h
  rcases h with rfl | rfl | rfl | rfl | rfl | rfl | rfl | rfl | rfl | rfl <;> rfl
theorem menu_pos {w : Wd} (h : w ∈ menu) : 1 ≤ w.length := by
  have h := menu_or h
  rcases h with rfl | rfl | rfl | rfl | rfl | rfl | rfl | rfl | rfl | rfl <;> decide
def toks : Nat → List Nat → Option (List Wd)
  | 0, l => if l = [] then some [] else none
  | n + 1, l => if l = [] then some [] else match hits l with
    | [] => none
    | w :: _ => (toks n (l.drop w.length)).map (w :: ·)
theorem toks_flat : ∀ (n : Nat) (l : List Nat) (ws : List Wd), toks n l = some ws → ws.flatten = l ∧ ∀ w ∈ ws, w ∈ menu
  | 0, l, ws, e => by
    unfold toks at e
    split at e
    · rename_i h
      cases e
      exact ⟨by rw [h]; rfl, fun w h => by cases h⟩
    · cases e
  | n + 1, l, ws, e => by
    unfold toks at e
    split at e
    · rename_i h
      cases e
      exact ⟨by rw [h]; rfl, fun w h => by cases h⟩
    · split at e
      · cases e
      · rename_i w r hh
        rw [Option.map_eq_some_iff] at e
        obtain ⟨vs, e1, e⟩ := e
        subst e
        obtain ⟨h1, h2⟩ := toks_flat n _ _ e1
        have hw : w ∈ hits l := by rw [hh]; exact List.mem_cons_self
        obtain ⟨hm, ht⟩ := List.mem_filter.mp hw
        have ht : l.take w.length = w := beq_iff_eq.mp ht
        refine ⟨?_, fun v hv => ?_⟩
        · rw [List.flatten_cons, h1]
          conv => rhs; rw [← List.take_append_drop w.length l, ht]
        · rcases List.mem_cons.mp hv with rfl | hv
          · exact hm
          · exact h2 v hv
theorem toks_of : ∀ (n : Nat) (ws : List Wd), (∀ w ∈ ws, w ∈ menu) → ws.flatten.length ≤ n → toks n ws.flatten = some ws
  | 0, [], _, _ => rfl
  | n + 1, [], _, _ => rfl
  | 0, w :: ws, h, hl => by
    have := menu_pos (h w List.mem_cons_self)
    rw [List.flatten_cons, List.length_append] at hl
    omega
  | n + 1, w :: ws, h, hl => by
    have hp := menu_pos (h w List.mem_cons_self)
    rw [List.flatten_cons, List.length_append] at hl
    have ih := toks_of n ws (fun v hv => h v (List.mem_cons_of_mem _ hv)) (by omega)
    unfold toks
    rw [List.flatten_cons]
    have hne : ¬ (w ++ ws.flatten = []) := by
      intro e
      have h0 : w.length + ws.flatten.length = 0 := by
        have h1 := congrArg List.length e
        rw [List.length_append, List.length_nil] at h1
        exact h1
      omega
    rw [if_neg hne, hits_app (h w List.mem_cons_self)]
    simp [ih]
def toksL (l : List Nat) : Option (List Wd) := toks l.length l
theorem toksL_iff {l : List Nat} {ws : List Wd} : toksL l = some ws ↔ ws.flatten = l ∧ ∀ w ∈ ws, w ∈ menu := by
  constructor
  · exact toks_flat _ _ _
  · rintro ⟨rfl, h⟩
    exact toks_of _ ws h (Nat.le_refl _)
/-! ### lesser -/
def redex : List Wd → Option (List Wd)
  | a :: b :: c :: d :: e :: r => if a = wO ∧ (b = tTurned ∨ b = tMirrored) ∧ c = wB ∧ d = tSingle ∧ e = wC then some r else
    match r with
    | f :: g :: r' => if a = wO ∧ b = tSingle ∧ c = wB ∧ (d = tBeside ∨ d = tAbove) ∧ e = wB ∧ f = tSingle ∧ g = wC then some r' else none
    | _ => none
  | _ => none
def less : List Wd → Option (List Wd)
  | [] => none
  | w :: ws => match redex (w :: ws) with
    | some r => some (tSingle :: r)
    | none => (less ws).map (w :: ·)
/-- the least parts with brackets -/
inductive Small : Tr → Prop
  | un (m : Bool) : Small (.un m (.leaf 2))
  | bi (a : Bool) : Small (.bi a (.leaf 2) (.leaf 2))
theorem redex_some {l r : List Wd} (h : redex l = some r) : ∃ x, Small x ∧ l = tk x ++ r := by
  unfold redex at h
  split at h
  · split at h
    · rename_i hc
      obtain ⟨rfl, hb, rfl, rfl, rfl⟩ := hc
      cases h
      rcases hb with rfl | rfl
      · exact ⟨.un false (.leaf 2), .un false, rfl⟩
      · exact ⟨.un true (.leaf 2), .un true, rfl⟩
    · split at h
      · split at h
        · rename_i hc
          obtain ⟨rfl, rfl, rfl, hd, rfl, rfl, rfl⟩ := hc
          cases h
          rcases hd with rfl | rfl
          · exact ⟨.bi false (.leaf 2) (.leaf 2), .bi false, rfl⟩
          · exact ⟨.bi true (.leaf 2) (.leaf 2), .bi true, rfl⟩
        · cases h
      · cases h
  · cases h
theorem redex_of {x : Tr} (h : Small x) (r : List Wd) : redex (tk x ++ r) = some r := by
  cases h with
  | un m => cases m <;> rfl
  | bi a => cases a <;> rfl
theorem less_some : ∀ {l r : List Wd}, less l = some r → ∃ u x v, Small x ∧ l = u ++ (tk x ++ v) ∧ r = u ++ (tSingle :: v)
  | [], r, h => by cases h
  | w :: ws, r, h => by
    unfold less at h
    split at h
    · rename_i r' hr
      obtain ⟨x, hx, e⟩ := redex_some hr
      cases h
      exact ⟨[], x, r', hx, e, rfl⟩
    · rw [Option.map_eq_some_iff] at h
      obtain ⟨r', h1, h2⟩ := h
      obtain ⟨u, x, v, hx, e1, e2⟩ := less_some h1
      exact ⟨w :: u, x, v, hx, by rw [e1]; rfl, by rw [← h2, e2]; rfl⟩
theorem less_of {x : Tr} (hx : Small x) : ∀ (u v : List Wd), less (u ++ (tk x ++ v)) ≠ none
  | [], v => by
    have h := redex_of hx v
    rw [List.nil_append]
    cases e : tk x ++ v with
    | nil => rw [e] at h; cases h
    | cons w ws =>
      rw [e] at h
      unfold less
      rw [h]
      exact fun z => nomatch z
  | w :: u, v => by
    rw [List.cons_append]
    unfold less
    split
    · exact fun z => nomatch z
    · intro z
      rw [Option.map_eq_none_iff] at z
      exact less_of hx u v z
/-! ### places in a part's words -/
inductive Cx : List Wd → List Wd → Prop
  | hole : Cx [] []
  | un (m : Bool) {u v : List Wd} : Cx u v → Cx (wO :: unW m :: wB :: u) (v ++ [wC])
  | biL (a : Bool) {u v : List Wd} (t : Tr) : Cx u v → Cx (wO :: u) (v ++ (wB :: biW a :: wB :: (tk t ++ [wC])))
  | biR (a : Bool) {u v : List Wd} (t : Tr) : Cx u v → Cx (wO :: (tk t ++ (wB :: biW a :: wB :: u))) (v ++ [wC])
theorem Cx.fill {u v : List Wd} (c : Cx u v) (s : Tr) : ∃ t, tk t = u ++ (tk s ++ v) := by
  induction c with
  | hole => exact ⟨s, by simp⟩
  | un m _ ih =>
    obtain ⟨t, e⟩ := ih
    exact ⟨.un m t, by show wO :: unW m :: wB :: (tk t ++ [wC]) = _; rw [e]; simp⟩
  | biL a t' _ ih =>
    obtain ⟨t, e⟩ := ih
    exact ⟨.bi a t t', by show wO :: (tk t ++ (wB :: biW a :: wB :: (tk t' ++ [wC]))) = _; rw [e]; simp⟩
  | biR a t' _ ih =>
    obtain ⟨t, e⟩ := ih
    exact ⟨.bi a t' t, by show wO :: (tk t' ++ (wB :: biW a :: wB :: (tk t ++ [wC]))) = _; rw [e]; simp⟩
/-- words by which a part begins -/
def St (w : Wd) : Prop := w = wO ∨ ∃ k, w = leafW k
theorem not_St {w : Wd} (h : w = wC ∨ w = wB ∨ w = tTurned ∨ w = tMirrored ∨ w = tBeside ∨ w = tAbove) : ¬ St w := by
  rintro (e | ⟨k, e⟩)
  · subst e
    revert h
    decide
  · match k with
    | 0 => subst e; revert h; decide
    | 1 => subst e; revert h; decide
    | 2 => subst e; revert h; decide
theorem unW_no (m : Bool) : ¬ St (unW m) := not_St (by cases m <;> decide)
theorem biW_no (m : Bool) : ¬ St (biW m) := not_St (by cases m <;> decide)
theorem wC_no : ¬ St wC := not_St (by decide)
theorem wB_no : ¬ St wB := not_St (by decide)
theorem split_at {α : Type} {a b u : List α} {w : α} {y : List α} (e : a ++ b = u ++ w :: y) : (∃ c, a = u ++ w :: c ∧ y = c ++ b) ∨ ∃ c, u = a ++ c ∧ b = c ++ w :: y := by
  rcases List.append_eq_append_iff.mp e with ⟨c, h1, h2⟩ | ⟨c, h1, h2⟩
  · exact .inr ⟨c, h1, h2⟩
  · cases c with
    | nil =>
      rw [List.nil_append] at h2
      rw [List.append_nil] at h1
      exact .inr ⟨[], by rw [h1, List.append_nil], h2.symm⟩
    | cons z c =>
      rw [List.cons_append] at h2
      injection h2 with h3 h4
      subst h3
      exact .inl ⟨c, h1, h4⟩
theorem place : ∀ (t : Tr) (u : List Wd) (w : Wd) (y : List Wd), St w → tk t = u ++ w :: y → ∃ s v, Cx u v ∧ w :: y = tk s ++ v
  | .leaf k, u, w, y, hw, e => by
    have e : [leafW k] = u ++ w :: y := e
    cases u with
    | nil => exact ⟨.leaf k, [], .hole, by rw [List.nil_append] at e; rw [← e]; rfl⟩
    | cons z u =>
      injection e with e1 e2
      have := congrArg List.length e2
      simp at this
  | .un m t, u, w, y, hw, e => by
    have e : wO :: unW m :: wB :: (tk t ++ [wC]) = u ++ w :: y := e
    match u, e with
    | [], e => exact ⟨.un m t, [], .hole, by rw [List.append_nil]; exact e.symm⟩
    | [z], e =>
      injection e with e1 e2
      injection e2 with e2 e3
      exact absurd (e2 ▸ hw) (unW_no m)
    | [z, z2], e =>
      injection e with e1 e2
      injection e2 with e2 e3
      injection e3 with e3 e4
      exact absurd (e3 ▸ hw) wB_no
    | z :: z2 :: z3 :: u, e =>
      injection e with e1 e2
      injection e2 with e2 e3
      injection e3 with e3 e4
      subst e1 e2 e3
      rcases split_at e4 with ⟨c, h1, h2⟩ | ⟨c, h1, h2⟩
      · obtain ⟨s, v, hc, hv⟩ := place t u w c hw h1
        exact ⟨s, _, .un m hc, by rw [h2, ← List.cons_append, hv, List.append_assoc]⟩
      · cases c with
        | nil =>
          injection h2 with h2 _
          exact absurd (h2 ▸ hw) wC_no
        | cons z c =>
          injection h2 with _ h2
          have := congrArg List.length h2
          simp at this
  | .bi a t1 t2, u, w, y, hw, e => by
    have e : wO :: (tk t1 ++ (wB :: biW a :: wB :: (tk t2 ++ [wC]))) = u ++ w :: y := e
    match u, e with
    | [], e => exact ⟨.bi a t1 t2, [], .hole, by rw [List.append_nil]; exact e.symm⟩
    | z :: u, e =>
      injection e with e1 e2
      subst e1
      rcases split_at e2 with ⟨c, h1, h2⟩ | ⟨c, h1, h2⟩
      · obtain ⟨s, v, hc, hv⟩ := place t1 u w c hw h1
        exact ⟨s, _, .biL a t2 hc, by rw [h2, ← List.cons_append, hv, List.append_assoc]⟩
      · match c, h2 with
        | [], h2 =>
          injection h2 with h2 _
          exact absurd (h2 ▸ hw) wB_no
        | [z], h2 =>
          injection h2 with _ h2
          injection h2 with h2 _
          exact absurd (h2 ▸ hw) (biW_no a)
        | [z, z2], h2 =>
          injection h2 with _ h2
          injection h2 with _ h2
          injection h2 with h2 _
          exact absurd (h2 ▸ hw) wB_no
        | z :: z2 :: z3 :: c, h2 =>
          injection h2 with g1 h2
          injection h2 with g2 h2
          injection h2 with g3 h2
          subst g1 g2 g3
          rcases split_at h2 with ⟨c2, k1, k2⟩ | ⟨c2, k1, k2⟩
          · obtain ⟨s, v, hc, hv⟩ := place t2 c w c2 hw k1
            refine ⟨s, _, ?_, by rw [k2, ← List.cons_append, hv, List.append_assoc]⟩
            rw [h1]
            exact .biR a t1 hc
          · cases c2 with
            | nil =>
              injection k2 with k2 _
              exact absurd (k2 ▸ hw) wC_no
            | cons z c2 =>
              injection k2 with _ k2
              have := congrArg List.length k2
              simp at this
theorem tk_free {s x : Tr} {v v' : List Wd} (e : tk s ++ v = tk x ++ v') : s = x ∧ v = v' := by
  have h := congrArg List.flatten e
  rw [List.flatten_append, List.flatten_append, flat_tk, flat_tk] at h
  have h1 := pF_ren (max (dep s) (dep x)) s v.flatten (Nat.le_max_left _ _)
  have h2 := pF_ren (max (dep s) (dep x)) x v'.flatten (Nat.le_max_right _ _)
  rw [h, h2] at h1
  have h3 := congrArg Prod.fst (Option.some.inj h1)
  have h3 : x = s := h3
  subst h3
  exact ⟨rfl, List.append_cancel_left e⟩
theorem tk_start (t : Tr) : ∃ w y, tk t = w :: y ∧ St w := by
  cases t with
  | leaf k => exact ⟨_, _, rfl, .inr ⟨k, rfl⟩⟩
  | un m t => exact ⟨_, _, rfl, .inl rfl⟩
  | bi a t u => exact ⟨_, _, rfl, .inl rfl⟩
theorem cx_of {t x : Tr} {u v : List Wd} (e : tk t = u ++ (tk x ++ v)) : Cx u v := by
  obtain ⟨w, y, hw, hs⟩ := tk_start x
  have e2 : tk t = u ++ w :: (y ++ v) := by rw [e, hw]; rfl
  obtain ⟨s, v', hc, hv⟩ := place t u w (y ++ v) hs e2
  have e3 : tk s ++ v' = tk x ++ v := by rw [← hv, hw]; rfl
  obtain ⟨_, rfl⟩ := tk_free e3
  exact hc
/-- all leaves are single ones -/
def Sg : Tr → Prop
  | .leaf k => k = 2
  | .un _ t => Sg t
  | .bi _ t u => Sg t ∧ Sg u
def sgW (w : Wd) : Wd := if w = tLevel ∨ w = tUpright then tSingle else w
def er : Tr → Tr
  | .leaf _ => .leaf 2
  | .un m t => .un m (er t)
  | .bi a t u => .bi a (er t) (er u)
theorem er_sg : ∀ t, Sg (er t)
  | .leaf _ => rfl
  | .un _ t => er_sg t
  | .bi _ t u => ⟨er_sg t, er_sg u⟩
theorem tk_er : ∀ t, tk (er t) = (tk t).map sgW
  | .leaf k => by
    match k with
    | 0 => rfl
    | 1 => rfl
    | 2 => rfl
  | .un m t => by
    show wO :: unW m :: wB :: (tk (er t) ++ [wC]) = (wO :: unW m :: wB :: (tk t ++ [wC])).map sgW
    rw [tk_er t]
    have : sgW (unW m) = unW m := by cases m <;> rfl
    simp only [List.map_cons, List.map_append, List.map_nil, this]
    rfl
  | .bi a t u => by
    show wO :: (tk (er t) ++ (wB :: biW a :: wB :: (tk (er u) ++ [wC]))) = (wO :: (tk t ++ (wB :: biW a :: wB :: (tk u ++ [wC])))).map sgW
    rw [tk_er t, tk_er u]
    have : sgW (biW a) = biW a := by cases a <;> rfl
    simp only [List.map_cons, List.map_append, List.map_nil, this]
    rfl
/-- words that are a part's with single ones in place of others are a part's -/
theorem sg_back {w v : Wd} (h : sgW w = v) (hv : v ≠ tSingle) : w = v := by
  unfold sgW at h
  split at h
  · exact absurd h.symm hv
  · exact h
theorem un_back : ∀ (t : Tr) (ws : List Wd), ws.map sgW = tk t → (∀ w ∈ ws, w ∈ menu) → ∃ t', tk t' = ws
  | .leaf k, ws, e, hm => by
    have e : ws.map sgW = [leafW k] := e
    obtain ⟨w, r, rfl, e1, e2⟩ := List.map_eq_cons_iff.mp e
    have e2 := List.map_eq_nil_iff.mp e2
    subst e2
    have hw : w = wO ∨ w = wC ∨ w = wB ∨ w = tSingle ∨ w = tLevel ∨ w = tUpright ∨ w = tTurned ∨ w = tMirrored ∨ w = tBeside ∨ w = tAbove := menu_or (hm w List.mem_cons_self)
    have hk : leafW k = tLevel ∨ leafW k = tUpright ∨ leafW k = tSingle := by
      match k with
      | 0 => exact .inl rfl
      | 1 => exact .inr (.inl rfl)
      | 2 => exact .inr (.inr rfl)
    rw [← e1] at hk
    rcases hw with rfl | rfl | rfl | rfl | rfl | rfl | rfl | rfl | rfl | rfl
    · exact absurd hk (by decide)
    · exact absurd hk (by decide)
    · exact absurd hk (by decide)
    · exact ⟨.leaf 2, rfl⟩
    · exact ⟨.leaf 0, rfl⟩
    · exact ⟨.leaf 1, rfl⟩
    · exact absurd hk (by decide)
    · exact absurd hk (by decide)
    · exact absurd hk (by decide)
    · exact absurd hk (by decide)
  | .un m t, ws, e, hm => by
    have e : ws.map sgW = wO :: unW m :: wB :: (tk t ++ [wC]) := e
    obtain ⟨w1, r1, rfl, e1, e⟩ := List.map_eq_cons_iff.mp e
    obtain ⟨w2, r2, rfl, e2, e⟩ := List.map_eq_cons_iff.mp e
    obtain ⟨w3, r3, rfl, e3, e⟩ := List.map_eq_cons_iff.mp e
    obtain ⟨a, b, rfl, e4, e5⟩ := List.map_eq_append_iff.mp e
    obtain ⟨w5, r5, rfl, e9, e6⟩ := List.map_eq_cons_iff.mp e5
    have e6 := List.map_eq_nil_iff.mp e6
    subst e6
    obtain ⟨t', h⟩ := un_back t a e4 fun w h => hm w (.tail _ (.tail _ (.tail _ (List.mem_append_left _ h))))
    have q1 := sg_back e1 (by decide)
    have q2 := sg_back e2 (by cases m <;> decide)
    have q3 := sg_back e3 (by decide)
    have q5 := sg_back e9 (by decide)
    subst q1 q2 q3 q5
    exact ⟨.un m t', by show wO :: unW m :: wB :: (tk t' ++ [wC]) = _; rw [h]⟩
  | .bi a t u, ws, e, hm => by
    have e : ws.map sgW = wO :: (tk t ++ (wB :: biW a :: wB :: (tk u ++ [wC]))) := e
    obtain ⟨w1, r1, rfl, e1, e⟩ := List.map_eq_cons_iff.mp e
    obtain ⟨x, b, rfl, e4, e⟩ := List.map_eq_append_iff.mp e
    obtain ⟨w2, r2, rfl, e2, e⟩ := List.map_eq_cons_iff.mp e
    obtain ⟨w3, r3, rfl, e3, e⟩ := List.map_eq_cons_iff.mp e
    obtain ⟨w4, r4, rfl, e7, e⟩ := List.map_eq_cons_iff.mp e
    obtain ⟨y, b, rfl, e8, e5⟩ := List.map_eq_append_iff.mp e
    obtain ⟨w5, r5, rfl, e9, e6⟩ := List.map_eq_cons_iff.mp e5
    have e6 := List.map_eq_nil_iff.mp e6
    subst e6
    obtain ⟨t', h⟩ := un_back t x e4 fun w h => hm w (.tail _ (List.mem_append_left _ h))
    obtain ⟨u', h'⟩ := un_back u y e8 fun w h => hm w (.tail _ (List.mem_append_right _ (.tail _ (.tail _ (.tail _ (List.mem_append_left _ h))))))
    have q1 := sg_back e1 (by decide)
    have q2 := sg_back e2 (by decide)
    have q3 := sg_back e3 (by cases a <;> decide)
    have q4 := sg_back e7 (by decide)
    have q5 := sg_back e9 (by decide)
    subst q1 q2 q3 q4 q5
    exact ⟨.bi a t' u', by show wO :: (tk t' ++ (wB :: biW a :: wB :: (tk u' ++ [wC]))) = _; rw [h, h']⟩
/-- a part with brackets holds a least one -/
theorem has_small : ∀ t, Sg t → (∃ k, t = .leaf k) ∨ ∃ u x v, Small x ∧ tk t = u ++ (tk x ++ v)
  | .leaf k, _ => .inl ⟨k, rfl⟩
  | .un m t, h => .inr (by
    rcases has_small t h with ⟨k, rfl⟩ | ⟨u, x, v, hx, e⟩
    · have hk : k = 2 := h
      subst hk
      exact ⟨[], .un m (.leaf 2), [], .un m, by simp⟩
    · exact ⟨wO :: unW m :: wB :: u, x, v ++ [wC], hx, by show wO :: unW m :: wB :: (tk t ++ [wC]) = _; rw [e]; simp⟩)
  | .bi a t t2, h => .inr (by
    rcases has_small t h.1 with ⟨k, rfl⟩ | ⟨u, x, v, hx, e⟩
    · rcases has_small t2 h.2 with ⟨k2, rfl⟩ | ⟨u, x, v, hx, e⟩
      · have hk : k = 2 := h.1
        have hk2 : k2 = 2 := h.2
        subst hk hk2
        exact ⟨[], .bi a (.leaf 2) (.leaf 2), [], .bi a, by simp⟩
      · exact ⟨wO :: (tk (.leaf k) ++ (wB :: biW a :: wB :: u)), x, v ++ [wC], hx, by show wO :: (tk (.leaf k) ++ (wB :: biW a :: wB :: (tk t2 ++ [wC]))) = _; rw [e]; simp⟩
    · exact ⟨wO :: u, x, v ++ (wB :: biW a :: wB :: (tk t2 ++ [wC])), hx, by show wO :: (tk t ++ (wB :: biW a :: wB :: (tk t2 ++ [wC]))) = _; rw [e]; simp⟩)
/-- a part by its words -/
def Pt (ws : List Wd) : Prop := ∃ t, tk t = ws
/-- words of which no leaf is another one -/
def Cl1 (ws : List Wd) : Prop := ∀ w ∈ ws, w ≠ tLevel ∧ w ≠ tUpright
theorem sg_of : ∀ t, Cl1 (tk t) → Sg t
  | .leaf k, h => by
    have h := h (leafW k) (List.mem_singleton.mpr rfl)
    match k with
    | 0 => exact absurd rfl h.1
    | 1 => exact absurd rfl h.2
    | 2 => rfl
  | .un m t, h => sg_of t fun w hw => h w (.tail _ (.tail _ (.tail _ (List.mem_append_left _ hw))))
  | .bi a t u, h => ⟨sg_of t fun w hw => h w (.tail _ (List.mem_append_left _ hw)), sg_of u fun w hw => h w (.tail _ (List.mem_append_right _ (.tail _ (.tail _ (.tail _ (List.mem_append_left _ hw))))))⟩
theorem less_pt {ws vs : List Wd} (h : less ws = some vs) : Pt vs ↔ Pt ws := by
  obtain ⟨u, x, v, hx, rfl, rfl⟩ := less_some h
  constructor
  · rintro ⟨t, e⟩
    have e : tk t = u ++ (tk (.leaf 2) ++ v) := e
    exact (cx_of e).fill x
  · rintro ⟨t, e⟩
    exact (cx_of e).fill (.leaf 2)
theorem less_cl {ws vs : List Wd} (h : less ws = some vs) (c : Cl1 ws) : Cl1 vs := by
  obtain ⟨u, x, v, hx, rfl, rfl⟩ := less_some h
  intro w hw
  rcases List.mem_append.mp hw with hw | hw
  · exact c w (List.mem_append_left _ hw)
  · rcases List.mem_cons.mp hw with rfl | hw
    · decide
    · exact c w (List.mem_append_right _ (List.mem_append_right _ hw))
theorem small_len {x : Tr} (h : Small x) : 5 ≤ (tk x).length := by
  cases h with
  | un m => exact Nat.le_refl 5
  | bi a => exact (by decide : 5 ≤ 7)
theorem less_len {ws vs : List Wd} (h : less ws = some vs) : vs.length < ws.length := by
  obtain ⟨u, x, v, hx, rfl, rfl⟩ := less_some h
  have := small_len hx
  simp only [List.length_append, List.length_cons]
  omega
theorem pt_end {ws : List Wd} (h : less ws = none) (c : Cl1 ws) : Pt ws → ws = [tSingle] := by
  rintro ⟨t, rfl⟩
  rcases has_small t (sg_of t c) with ⟨k, rfl⟩ | ⟨u, x, v, hx, e⟩
  · have hk : k = 2 := sg_of (.leaf k) c
    subst hk
    rfl
  · rw [e] at h
    exact absurd h (less_of hx u v)
theorem pt_one : Pt [tSingle] := ⟨.leaf 2, rfl⟩
/-! ### brackets -/
def okD : Int → List Wd → Bool
  | _, [] => true
  | o, w :: ws => if o + (if w = wO then 1 else 0) - (if w = wC then 1 else 0) > 8 then false else okD (o + (if w = wO then 1 else 0) - (if w = wC then 1 else 0)) ws
theorem okD_step {o : Int} {w : Wd} {ws : List Wd} (h1 : w ≠ wO) (h2 : w ≠ wC) (ho : o ≤ 8) : okD o (w :: ws) = okD o ws := by
  conv => lhs; unfold okD
  rw [if_neg h1, if_neg h2]
  have e : o + 0 - 0 = o := by omega
  rw [e, if_neg (by omega)]
theorem leaf_ne (k : Fin 3) : leafW k ≠ wO ∧ leafW k ≠ wC := by
  match k with
  | 0 => decide
  | 1 => decide
  | 2 => decide
theorem okD_O {o : Int} {ws : List Wd} : okD o (wO :: ws) = if o + 1 > 8 then false else okD (o + 1) ws := by
  conv => lhs; unfold okD
  rw [if_pos rfl, if_neg (by decide : wO ≠ wC)]
  have e : o + 1 - 0 = o + 1 := by omega
  rw [e]
theorem okD_C {o : Int} {ws : List Wd} (ho : o ≤ 9) : okD o (wC :: ws) = okD (o - 1) ws := by
  conv => lhs; unfold okD
  rw [if_neg (by decide : wC ≠ wO), if_pos rfl]
  have e : o + 0 - 1 = o - 1 := by omega
  rw [e, if_neg (by omega)]
theorem okD_tk : ∀ (t : Tr) (o : Int) (r : List Wd), o ≤ 8 → okD o (tk t ++ r) = (decide (o + (dep t : Nat) ≤ 8) && okD o r)
  | .leaf k, o, r, ho => by
    show okD o (leafW k :: r) = _
    rw [okD_step (leaf_ne k).1 (leaf_ne k).2 ho]
    have : decide (o + ((dep (.leaf k) : Nat) : Int) ≤ 8) = true := decide_eq_true (by show o + (0 : Nat) ≤ 8; omega)
    rw [this]
    rfl
  | .un m t, o, r, ho => by
    have e : tk (.un m t) ++ r = wO :: unW m :: wB :: (tk t ++ (wC :: r)) := by
      show wO :: unW m :: wB :: (tk t ++ [wC]) ++ r = _
      simp
    rw [e, okD_O]
    have hd : ((dep (.un m t) : Nat) : Int) = (dep t : Nat) + 1 := by
      show ((dep t + 1 : Nat) : Int) = _
      omega
    rw [hd]
    split
    · have : decide (o + (((dep t : Nat) : Int) + 1) ≤ 8) = false := decide_eq_false (by omega)
      rw [this]
      rfl
    · rw [okD_step (by cases m <;> decide) (by cases m <;> decide) (by omega), okD_step (by decide) (by decide) (by omega), okD_tk t (o + 1) _ (by omega), okD_C (by omega)]
      have e1 : o + 1 - 1 = o := by omega
      have e2 : o + 1 + ((dep t : Nat) : Int) = o + (((dep t : Nat) : Int) + 1) := by omega
      rw [e1, e2]
  | .bi a t u, o, r, ho => by
    have e : tk (.bi a t u) ++ r = wO :: (tk t ++ (wB :: biW a :: wB :: (tk u ++ (wC :: r)))) := by
      show wO :: (tk t ++ (wB :: biW a :: wB :: (tk u ++ [wC]))) ++ r = _
      simp
    rw [e, okD_O]
    have hd : ((dep (.bi a t u) : Nat) : Int) = ((max (dep t) (dep u) : Nat) : Int) + 1 := by
      show ((max (dep t) (dep u) + 1 : Nat) : Int) = _
      omega
    rw [hd]
    split
    · have : decide (o + (((max (dep t) (dep u) : Nat) : Int) + 1) ≤ 8) = false := decide_eq_false (by omega)
      rw [this]
      rfl
    · rw [okD_tk t (o + 1) _ (by omega), okD_step (by decide) (by decide) (by omega), okD_step (by cases a <;> decide) (by cases a <;> decide) (by omega), okD_step (by decide) (by decide) (by omega), okD_tk u (o + 1) _ (by omega), okD_C (by omega)]
      have e1 : o + 1 - 1 = o := by omega
      rw [e1, ← Bool.and_assoc]
      congr 1
      rw [← Bool.decide_and]
      exact decide_eq_decide.mpr ⟨fun h => by omega, fun h => by omega⟩
/-! ### all together -/
theorem writes_iff {l : List Nat} : (∃ t, rd l = some t) ↔ ∃ ws, toksL l = some ws ∧ okD 0 ws = true ∧ Pt (ws.map sgW) := by
  constructor
  · rintro ⟨t, h⟩
    obtain ⟨rfl, hd⟩ := rd_iff.mp h
    refine ⟨tk t, toksL_iff.mpr ⟨flat_tk t, mem_tk t⟩, ?_, er t, tk_er t⟩
    have := okD_tk t 0 [] (by omega)
    rw [List.append_nil] at this
    rw [this, decide_eq_true (by omega)]
    rfl
  · rintro ⟨ws, h1, h2, t, ht⟩
    obtain ⟨hf, hm⟩ := toksL_iff.mp h1
    obtain ⟨t', rfl⟩ := un_back t ws ht.symm hm
    rw [flat_tk] at hf
    refine ⟨t', rd_iff.mpr ⟨hf.symm, ?_⟩⟩
    have := okD_tk t' 0 [] (by omega)
    rw [List.append_nil, h2] at this
    have := (Bool.and_eq_true_iff.mp this.symm).1
    have := of_decide_eq_true this
    omega
end K61

/-! k61: the text, what the top has written. -/
namespace K61
open PySem PySem.Spec PyProof.Rows L2 TL Sy
def topS (i : Nat) : Stmt := PySem.Challenge.pw_tanglehouse_k61_whole_any_text_of_a_part.main.body.getD i (.Pass ⟨0, 0, 0, 0⟩)
abbrev s_NoText_init : Stmt := inClass (topS 5) 0
abbrev n_NoText_init : List Str := ["self", "at"]
theorem sc_NoText_init : FnScope n_NoText_init ["self", "at"] (defScope s_NoText_init) := ⟨rfl, rfl, rfl, by decide +kernel, rfl, by decide +kernel, by decide +kernel⟩
abbrev s_Part_init : Stmt := inClass (topS 23) 0
abbrev n_Part_init : List Str := ["self", "one", "other"]
theorem sc_Part_init : FnScope n_Part_init ["self", "one", "other"] (defScope s_Part_init) := ⟨rfl, rfl, rfl, by decide +kernel, rfl, by decide +kernel, by decide +kernel⟩
abbrev s_Part_word : Stmt := inClass (topS 23) 3
abbrev n_Part_word : List Str := ["self"]
theorem sc_Part_word : FnScope n_Part_word ["self"] (defScope s_Part_word) := ⟨rfl, rfl, rfl, by decide +kernel, rfl, by decide +kernel, by decide +kernel⟩
abbrev s_Upright_word : Stmt := inClass (topS 25) 2
abbrev n_Upright_word : List Str := ["self"]
theorem sc_Upright_word : FnScope n_Upright_word ["self"] (defScope s_Upright_word) := ⟨rfl, rfl, rfl, by decide +kernel, rfl, by decide +kernel, by decide +kernel⟩
abbrev s_Single_word : Stmt := inClass (topS 26) 2
abbrev n_Single_word : List Str := ["self"]
theorem sc_Single_word : FnScope n_Single_word ["self"] (defScope s_Single_word) := ⟨rfl, rfl, rfl, by decide +kernel, rfl, by decide +kernel, by decide +kernel⟩
abbrev s_Beside_word : Stmt := inClass (topS 27) 2
abbrev n_Beside_word : List Str := ["self"]
theorem sc_Beside_word : FnScope n_Beside_word ["self"] (defScope s_Beside_word) := ⟨rfl, rfl, rfl, by decide +kernel, rfl, by decide +kernel, by decide +kernel⟩
abbrev s_Above_word : Stmt := inClass (topS 28) 2
abbrev n_Above_word : List Str := ["self"]
theorem sc_Above_word : FnScope n_Above_word ["self"] (defScope s_Above_word) := ⟨rfl, rfl, rfl, by decide +kernel, rfl, by decide +kernel, by decide +kernel⟩
abbrev s_Turned_word : Stmt := inClass (topS 29) 2
abbrev n_Turned_word : List Str := ["self"]
theorem sc_Turned_word : FnScope n_Turned_word ["self"] (defScope s_Turned_word) := ⟨rfl, rfl, rfl, by decide +kernel, rfl, by decide +kernel, by decide +kernel⟩
abbrev s_Mirrored_word : Stmt := inClass (topS 30) 2
abbrev n_Mirrored_word : List Str := ["self"]
theorem sc_Mirrored_word : FnScope n_Mirrored_word ["self"] (defScope s_Mirrored_word) := ⟨rfl, rfl, rfl, by decide +kernel, rfl, by decide +kernel, by decide +kernel⟩
abbrev s_Part_written : Stmt := inClass (topS 23) 4
abbrev n_Part_written : List Str := ["self"]
theorem sc_Part_written : FnScope n_Part_written ["self"] (defScope s_Part_written) := ⟨rfl, rfl, rfl, by decide +kernel, rfl, by decide +kernel, by decide +kernel⟩
abbrev s_cut_off : Stmt := topS 31
abbrev n_cut_off : List Str := ["text", "head"]
theorem sc_cut_off : FnScope n_cut_off ["text", "head"] (defScope s_cut_off) := ⟨rfl, rfl, rfl, by decide +kernel, rfl, by decide +kernel, by decide +kernel⟩
abbrev s_whole_part : Stmt := topS 32
abbrev n_whole_part : List Str := ["text"]
theorem sc_whole_part : FnScope n_whole_part ["text"] (defScope s_whole_part) := ⟨rfl, rfl, rfl, by decide +kernel, rfl, by decide +kernel, by decide +kernel⟩
abbrev s_turned_part : Stmt := topS 33
abbrev n_turned_part : List Str := ["text", "opens", "one", "rest"]
theorem sc_turned_part : FnScope n_turned_part ["text", "opens"] (defScope s_turned_part) := ⟨rfl, rfl, rfl, by decide +kernel, rfl, by decide +kernel, by decide +kernel⟩
abbrev s_joined_part : Stmt := topS 34
abbrev n_joined_part : List Str := ["text", "opens", "one", "rest", "other"]
theorem sc_joined_part : FnScope n_joined_part ["text", "opens"] (defScope s_joined_part) := ⟨rfl, rfl, rfl, by decide +kernel, rfl, by decide +kernel, by decide +kernel⟩
abbrev s_part_from : Stmt := topS 35
abbrev n_part_from : List Str := ["text", "opens"]
theorem sc_part_from : FnScope n_part_from ["text", "opens"] (defScope s_part_from) := ⟨rfl, rfl, rfl, by decide +kernel, rfl, by decide +kernel, by decide +kernel⟩
abbrev s_read_part : Stmt := topS 36
abbrev n_read_part : List Str := ["text", "part", "rest"]
theorem sc_read_part : FnScope n_read_part ["text"] (defScope s_read_part) := ⟨rfl, rfl, rfl, by decide +kernel, rfl, by decide +kernel, by decide +kernel⟩
abbrev s_l_take : Stmt := topS 39
abbrev n_l_take : List Str := ["_law_row", "_law_base", "_law_rest", "_law_number"]
theorem sc_l_take : FnScope n_l_take ["_law_row", "_law_base"] (defScope s_l_take) := ⟨rfl, rfl, rfl, by decide +kernel, rfl, by decide +kernel, by decide +kernel⟩
abbrev s_l_tree_text : Stmt := topS 40
abbrev n_l_tree_text : List Str := ["_law_row", "_law_deep", "_law_way", "_law_one"]
theorem sc_l_tree_text : FnScope n_l_tree_text ["_law_row", "_law_deep"] (defScope s_l_tree_text) := ⟨rfl, rfl, rfl, by decide +kernel, rfl, by decide +kernel, by decide +kernel⟩
abbrev s_l_text : Stmt := topS 41
abbrev n_l_text : List Str := ["_law_row", "_law_way", "_law_menu", "_law_found", "_law_many", "_law_at", "_law_sign", "_law_some", "_law_k"]
theorem sc_l_text : FnScope n_l_text ["_law_row"] (defScope s_l_text) := ⟨rfl, rfl, rfl, by decide +kernel, rfl, by decide +kernel, by decide +kernel⟩
abbrev s_l_words : Stmt := topS 42
abbrev n_l_words : List Str := ["_law_text_here", "_law_found", "_law_at", "_law_here", "_law_word"]
theorem sc_l_words : FnScope n_l_words ["_law_text_here"] (defScope s_l_words) := ⟨rfl, rfl, rfl, by decide +kernel, rfl, by decide +kernel, by decide +kernel⟩
abbrev s_l_lesser : Stmt := topS 43
abbrev n_l_lesser : List Str := ["_law_words_here", "_law_at", "_law_two", "_law_more"]
theorem sc_l_lesser : FnScope n_l_lesser ["_law_words_here"] (defScope s_l_lesser) := ⟨rfl, rfl, rfl, by decide +kernel, rfl, by decide +kernel, by decide +kernel⟩
abbrev s_l_writes : Stmt := topS 44
abbrev n_l_writes : List Str := ["_law_text_here", "_law_words_here", "_law_open_here", "_law_word"]
theorem sc_l_writes : FnScope n_l_writes ["_law_text_here"] (defScope s_l_writes) := ⟨rfl, rfl, rfl, by decide +kernel, rfl, by decide +kernel, by decide +kernel⟩
abbrev s_l_refused : Stmt := topS 45
abbrev n_l_refused : List Str := ["_law_text_here", "_law_word", "error"]
theorem sc_l_refused : FnScope n_l_refused ["_law_text_here"] (defScope s_l_refused) := ⟨rfl, rfl, rfl, by decide +kernel, rfl, by decide +kernel, by decide +kernel⟩
abbrev s_law : Stmt := topS 46
abbrev n_law : List Str := ["_law_script", "_law_cell", "_law_text_here", "_law_thing"]
theorem sc_law : FnScope n_law ["_law_script"] (defScope s_law) := ⟨rfl, rfl, rfl, by decide +kernel, rfl, by decide +kernel, by decide +kernel⟩
def s_word : Kd → Stmt
  | .level => s_Part_word
  | .upright => s_Upright_word
  | .single => s_Single_word
  | .beside => s_Beside_word
  | .above => s_Above_word
  | .turned => s_Turned_word
  | .mirrored => s_Mirrored_word
def q_word : Kd → Str
  | .level => "Part.word"
  | .upright => "Upright.word"
  | .single => "Single.word"
  | .beside => "Beside.word"
  | .above => "Above.word"
  | .turned => "Turned.word"
  | .mirrored => "Mirrored.word"
structure Txt (K : PySem.W.Frag) (mg : Str → Option Value) where
  m_len : mg "len" = none
  m_int : mg "int" = none
  m_isinstance : mg "isinstance" = none
  m_range : mg "range" = none
  m_str : mg "str" = none
  m_ValueError : mg "ValueError" = none
  tMO : Tok
  g_MOST_OPEN : mg "MOST_OPEN" = some (.int 8 tMO)
  cl : Kd → Addr
  inj : ∀ a b, cl a = cl b → a = b
  cls : ∀ k, Cls K (cl k)
  n1 : ∀ k, NoAttr K (cl k) "one"
  n2 : ∀ k, NoAttr K (cl k) "other"
  fI : Addr
  fdI : FuncData
  FI : FunD K "__init__" "Part.__init__" (defArgs s_Part_init) (defBody s_Part_init) (defScope s_Part_init) [.non, .non] [] fI fdI
  ds0 : List Value
  vd0 : Vals [.non, .non] ds0
  bi0 : Binds K fdI ["self", "one", "other"] ds0
  ds1 : List Value
  vd1 : Vals [.non] ds1
  bi1 : Binds K fdI ["self", "one", "other"] ds1
  bi2 : Binds K fdI ["self", "one", "other"] []
  mkc : ∀ k, Mk K (cl k) fI
  g_Level : mg "Level" = some (.ref (cl .level))
  g_Upright : mg "Upright" = some (.ref (cl .upright))
  g_Single : mg "Single" = some (.ref (cl .single))
  g_Beside : mg "Beside" = some (.ref (cl .beside))
  g_Above : mg "Above" = some (.ref (cl .above))
  g_Turned : mg "Turned" = some (.ref (cl .turned))
  g_Mirrored : mg "Mirrored" = some (.ref (cl .mirrored))
  fW : Kd → Addr
  fdW : Kd → FuncData
  FW : ∀ k, Fun K "word" (q_word k) (s_word k) (fW k) (fdW k)
  mW : ∀ k, Meth K (cl k) "word" (fW k)
  bW : ∀ k, Binds K (fdW k) ["self"] []
  fWr : Addr
  fdWr : FuncData
  FWr : Fun K "written" "Part.written" s_Part_written fWr fdWr
  mWr : ∀ k, Meth K (cl k) "written" fWr
  bWr : Binds K fdWr ["self"] []
  cNT : Addr
  fNT : Addr
  fdNT : FuncData
  oex_NoText : OexC K cNT
  ii_NoText : PySem.W.findIn K (.ref cNT) "__init__" = some (some (.ref fNT))
  ti_NoText : PySem.W.typeIn K (.ref fNT) = some (.type "function")
  FNT : Fun K "__init__" "NoText.__init__" s_NoText_init fNT fdNT
  bi_NoText : Binds K fdNT ["self", "at"] []
  no_NoText_at : PySem.W.findIn K (.ref cNT) "at" = some none
  g_NoText : mg "NoText" = some (.ref cNT)
  xf_NoText : XfC K cNT
  ex_NoText : ExcC K cNT
  cTE : Addr
  cNW : Addr
  cOd : Addr
  cNF : Addr
  g_TangleError : mg "TangleError" = some (.ref cTE)
  g_NoWeb : mg "NoWeb" = some (.ref cNW)
  g_Odd : mg "Odd" = some (.ref cOd)
  g_NotFlat : mg "NotFlat" = some (.ref cNF)
  em : PySem.W.exmOne K (.ref cNT) (.ref cTE) = some true
  kNT : PySem.W.kitOne K (.ref cNT) (.ref cNT) = some true
  kVE : PySem.W.kitOne K (.ref cNT) (.type "ValueError") = some true
  kNW : PySem.W.kitOne K (.ref cNT) (.ref cNW) = some false
  kOd : PySem.W.kitOne K (.ref cNT) (.ref cOd) = some false
  kNF : PySem.W.kitOne K (.ref cNT) (.ref cNF) = some false
  ks : PySem.W.kitOne K (.type "str") (.type "str") = some true
  ks1 : PySem.W.kitOne K (.type "NoneType") (.type "str") = some false
  ks2 : PySem.W.kitOne K (.type "int") (.type "str") = some false
  ks3 : PySem.W.kitOne K (.type "bool") (.type "str") = some false
  ks4 : PySem.W.kitOne K (.type "tuple") (.type "str") = some false
  ks5 : PySem.W.kitOne K (.type "list") (.type "str") = some false
  ks6 : PySem.W.kitOne K (.type "dict") (.type "str") = some false
  d_cut_off : DefAt K mg "cut_off" s_cut_off ["text", "head"]
  d_whole_part : DefAt K mg "whole_part" s_whole_part ["text"]
  d_turned_part : DefAt K mg "turned_part" s_turned_part ["text", "opens"]
  d_joined_part : DefAt K mg "joined_part" s_joined_part ["text", "opens"]
  d_part_from : DefAt K mg "part_from" s_part_from ["text", "opens"]
  d_read_part : DefAt K mg "read_part" s_read_part ["text"]
  d_take : DefAt K mg "_law_take" s_l_take ["_law_row", "_law_base"]
  d_tree_text : DefAt K mg "_law_tree_text" s_l_tree_text ["_law_row", "_law_deep"]
  d_text : DefAt K mg "_law_text" s_l_text ["_law_row"]
  d_words : DefAt K mg "_law_words" s_l_words ["_law_text_here"]
  d_lesser : DefAt K mg "_law_lesser" s_l_lesser ["_law_words_here"]
  d_writes : DefAt K mg "_law_writes" s_l_writes ["_law_text_here"]
  d_refused : DefAt K mg "_law_refused" s_l_refused ["_law_text_here"]
end K61

open PySem PySem.Spec PyProof.Rows L2 TL Sy
/-! the symbolic step's words -/
local macro_rules | `(tactic| walk_at "put") => `(tactic| first | exact Put.here | exact Put.there Put.here | exact Put.there (Put.there Put.here) | exact Put.there (Put.there (Put.there Put.here)) | exact Put.there (Put.there (Put.there (Put.there Put.here))) | exact Put.there (Put.there (Put.there (Put.there (Put.there Put.here)))))
local macro_rules | `(tactic| walk_at "del") => `(tactic| first | exact Del.here | exact Del.there Del.here | exact Del.there (Del.there Del.here) | exact Del.there (Del.there (Del.there Del.here)) | exact Del.there (Del.there (Del.there (Del.there Del.here))) | exact Del.there (Del.there (Del.there (Del.there (Del.there Del.here)))))
local macro_rules | `(tactic| walk_at "lst") => `(tactic| first | exact LstOf.dat | (apply LstOf.own; walk_at "del"))
local macro_rules | `(tactic| walk_at "sq") => `(tactic| first | exact SeqOf.tup | (apply SeqOf.lst; walk_at "lst"))
local macro_rules | `(tactic| walk_at "sd") => `(tactic| first | exact Nat.le_of_ble_eq_true rfl | rfl | omega | decide | assumption | (constructor <;> first | omega | decide) | (simp; done) | (simp; omega))
local macro_rules | `(tactic| walk_at "at") => `(tactic| first | exact rfl | assumption)
local macro_rules | `(tactic| walk_at "wr") => `(tactic| first
  | (with_reducible apply wr_add_i)
  | (with_reducible apply wr_sub_i)
  | ((with_reducible apply wr_mul_i); (first | exact Or.inl (by omega) | exact Or.inr (by omega)))
  | ((with_reducible apply wr_fdiv_i); ((first | (constructor <;> omega) | assumption)))
  | ((with_reducible apply wr_mod_i); (walk_at "sd"))
  | ((with_reducible apply wr_pow_i); (decide))
  | (with_reducible apply wr_lt_i) | (with_reducible apply wr_le_i) | (with_reducible apply wr_gt_i) | (with_reducible apply wr_ge_i)
  | (with_reducible apply wr_eq_i) | (with_reducible apply wr_ne_i) | (with_reducible apply wr_eq_s) | (with_reducible apply wr_ne_s)
  | ((with_reducible apply wr_add_s); (walk_at "sd"))
  | ((with_reducible apply wr_mul_s); (walk_at "sd"); (walk_at "sd"))
  | (with_reducible apply wr_isN_t) | (with_reducible apply wr_notN_t)
  | ((with_reducible apply wr_isN_f); ((intro z; cases z)))
  | ((with_reducible apply wr_notN_f); ((intro z; cases z)))
  | ((with_reducible apply wr_ix); (walk_at "sq"); (walk_at "at"))
  | ((with_reducible apply wr_ix_s); (walk_at "sd"); (walk_at "at"))
  | ((with_reducible apply wr_ix_any); (walk_at "sq"); (constructor <;> first | omega | (simp only [List.length_cons, List.length_nil]; omega)); intro _ _ _ _)
  | (with_reducible apply wr_in_s) | (with_reducible apply wr_notin_s)
  | ((with_reducible apply wr_add_t); (walk_at "sd"))
  | ((with_reducible apply wr_add_l); (walk_at "lst"); (walk_at "lst"); (walk_at "sd"); intro _))
local macro_rules | `(tactic| walk_at "wx") => `(tactic| first
  | ((with_reducible apply wsl_s); (walk_at "sd"))
  | (with_reducible apply wsl_t)
  | ((with_reducible apply wsl_l); (walk_at "lst"); intro _)
  | ((with_reducible apply wc_len_s); (walk_at "sd"))
  | ((with_reducible apply wc_len); (walk_at "sq"))
  | (with_reducible apply wc_int_b) | (with_reducible apply wc_int_i)
  | (with_reducible apply wm_sw)
  | ((with_reducible apply wm_append); (walk_at "put"); (walk_at "sd")))
local macro_rules | `(tactic| walk_at "we") => `(tactic| first
  | ((with_reducible apply we_var); (exact rfl))
  | (with_reducible apply we_int) | (with_reducible apply we_lit) | (with_reducible apply we_bl) | (with_reducible apply we_non) | (with_reducible apply we_str) | (with_reducible apply we_ty) | (with_reducible apply we_ref) | ((with_reducible apply we_dK); intro _)
  | (with_reducible apply we_op) | (with_reducible apply we_un)
  | (with_reducible apply wa_cons) | (with_reducible apply wa_nil)
  | (with_reducible apply we_tup') | (with_reducible apply we_lst') | ((with_reducible apply few_); (walk_at "sd")) | ((with_reducible apply fewN_); (walk_at "sd"); intro _)
  | (with_reducible apply we_cb)
  | (with_reducible apply we_call0)
  | ((with_reducible apply we_callS0); assumption)
  | ((with_reducible apply cl_take); (walk_at "del"); (constructor <;> omega); (constructor <;> omega); intro _ _ _ _)
  | (with_reducible apply we_sl) | (with_reducible apply wo_no) | (with_reducible apply wo_part') | (with_reducible apply isI_)
  | (with_reducible apply wt_test) | (with_reducible apply wt_B) | (with_reducible apply wt_not) | (with_reducible apply wt_and) | (with_reducible apply wt_or) | (with_reducible apply we_andV) | (with_reducible apply we_orV) | (with_reducible apply we_if)
  | (with_reducible apply bl_)
  | (with_reducible apply we_notV)
  | (with_reducible apply we_m1') | (with_reducible apply we_m0') | (with_reducible apply isS_)
  | (with_reducible apply we_bm') | (with_reducible apply we_bm0') | ((with_reducible apply tyK_l); (walk_at "del")) | ((with_reducible apply tyK_d); (walk_at "del")) | (with_reducible apply tyK_s) | (with_reducible apply tyK_L))
local macro_rules | `(tactic| walk_at "ws") => `(tactic| first
  | (with_reducible apply ws_seq)
  | (with_reducible apply ws_setL)
  | ((with_reducible apply setl_); (walk_at "put"); (walk_at "at"); try dsimp only [List.set, Int.reduceToNat])
  | (with_reducible apply ws_asg)
  | ((with_reducible apply wg_name); try dsimp only [List.set, Int.reduceToNat])
  | ((with_reducible apply wg_tup); (rfl))
  | (with_reducible apply wgs_cons) | (with_reducible apply wgs_nil)
  | ((with_reducible apply ws_ret); try dsimp only) | ((with_reducible apply ws_retN); try dsimp only) | (with_reducible apply ws_drop) | ((with_reducible apply ws_next); try dsimp only)
  | (with_reducible apply ws_if)
  | ((with_reducible apply ws_raise'); assumption) | (with_reducible apply oneX_)
  | (with_reducible apply ws_par') | ((with_reducible apply two_); try dsimp only [List.set])
  | ((with_reducible apply ws_aug'); exact rfl))
local macro_rules | `(tactic| walk_at "br") => `(tactic| first
  | (with_reducible apply br_t) | (with_reducible apply br_f)
  | ((with_reducible apply br_dec) <;> intro _) | ((with_reducible apply br_ndec) <;> intro _) | ((with_reducible apply br_b) <;> intro _))
local macro_rules | `(tactic| walk_at "sy1") => `(tactic| first | walk_at "ws" | walk_at "we" | walk_at "wr" | walk_at "wx" | walk_at "br" | walk_at "own")
local macro_rules | `(tactic| walk_at "sy") => `(tactic| repeat' walk_at "sy1")

/-! k61: the program's defs. -/
namespace K61
open PySem PySem.Spec PyProof.Rows L2 TL Sy

section
variable {P : Program} {w : World} {K : PySem.W.Frag} {mg : Str → Option Value} {base : Heap}
/-! ### parts -/
def tree (T : Txt K mg) : Tr → Dat
  | .leaf k => .ins (T.cl (kd (.leaf k))) [("one", .non), ("other", .non)]
  | .un m t => .ins (T.cl (kd (.un m t))) [("one", tree T t), ("other", .non)]
  | .bi a t u => .ins (T.cl (kd (.bi a t u))) [("one", tree T t), ("other", tree T u)]
def spInit (K : PySem.W.Frag) : AS := fun ds M q e => ∃ p C a b, ds = [.own p, a, b] ∧ M = [(p, .ins C [])] ∧ Cls K C ∧ NoAttr K C "one" ∧ NoAttr K C "other" ∧ q .non [(p, .ins C [("one", a), ("other", b)])]
theorem ok_init (T : Txt K mg) : FnOk P w K mg base CX0 1 T.fI T.fdI ["self", "one", "other"] (SpF K (spInit K)) := by
  refine T.FI.ok sc_Part_init (SpF.len fun ds M q e ⟨p, C, a, b, h, _⟩ => by rw [h]; rfl) (fun cdv A outer s H vs Q E hr h => ?_)
  have nd := sc_Part_init.nd
  refine ⟨_, (pss_cons (ps_fld (pv 0) (pv 1) rfl)
      (pss_one (ps_fld (pv 0) (pv 2) rfl))), body_run h fun C ds M q e he hs => ?_⟩
  obtain ⟨p, Cc, a, b, rfl, rfl, hc, h1, h2, hq⟩ := hs
  show WS K C _ [some (.own p), some a, some b] _ _
  dsimp only [cxOf, Cx.nox, Cx.wish]
  refine ws_seq (ws_fld (we_var rfl (we_var rfl ⟨p, Cc, [], _, rfl, .here, hc, h1, by decide, ?_⟩)))
  refine ws_fld (we_var rfl (we_var rfl ⟨p, Cc, _, _, rfl, .here, hc, h2, (by show 1 < 1000; decide), ?_⟩))
  exact .ret hq
def spWord (T : Txt K mg) (C : Addr) : AS := fun ds M q e => ∃ t, ds = [tree T t] ∧ M = [] ∧ C = T.cl (kd t) ∧ q (.str (S (wd (kd t)))) []
theorem ok_word_of (T : Txt K mg) (k : Kd) {x : String} {pos1 pos2 : Pos} {j : _} (hx : Sy.T x = wd k) (hb : defBody (s_word k) = [.Return (some (.Constant (.str (Str.ofString x)) j pos1)) pos2]) (sc : FnScope ["self"] ["self"] (defScope (s_word k))) : FnOk P w K mg base CX0 1 (T.fW k) (T.fdW k) ["self"] (SpF K (spWord T (T.cl k))) := by
  refine (T.FW k).ok sc (SpF.len fun ds M q e ⟨t, h, _⟩ => by rw [h]; rfl) (fun cdv A outer s H vs Q E hr h => ?_)
  refine ⟨_, by rw [hb]; exact pss_one (ps_ret pe_str), body_run h fun C ds M q e he hs => ?_⟩
  obtain ⟨t, rfl, rfl, hk, hq⟩ := hs
  have hk := T.inj _ _ hk
  refine ws_ret (we_lit ?_)
  rw [hx, hk]
  exact .ret hq
theorem u_word (T : Txt K mg) : MethU P w K mg base CX0 1 "word" ["self"] (fun C => ∃ k, C = T.cl k) (fun C => SpF K (spWord T C)) := ⟨fun C ⟨k, hk⟩ => by
  subst hk
  refine ⟨T.cls k, T.fW k, T.fdW k, T.mW k, ?_, T.bW k⟩
  cases k
  · exact ok_word_of T .level (x := "level") rfl rfl sc_Part_word
  · exact ok_word_of T .upright (x := "upright") rfl rfl sc_Upright_word
  · exact ok_word_of T .single (x := "single") rfl rfl sc_Single_word
  · exact ok_word_of T .beside (x := "beside") rfl rfl sc_Beside_word
  · exact ok_word_of T .above (x := "above") rfl rfl sc_Above_word
  · exact ok_word_of T .turned (x := "turned") rfl rfl sc_Turned_word
  · exact ok_word_of T .mirrored (x := "mirrored") rfl rfl sc_Mirrored_word⟩
theorem tree_ins (T : Txt K mg) (t : Tr) : ∃ fs, tree T t = .ins (T.cl (kd t)) fs ∧ fs.lookup ("word" : Str) = none ∧ fs.lookup ("written" : Str) = none := by
  cases t with
  | leaf k => exact ⟨_, rfl, rfl, rfl⟩
  | un m t => exact ⟨_, rfl, rfl, rfl⟩
  | bi a t u => exact ⟨_, rfl, rfl, rfl⟩
theorem tree_ne (T : Txt K mg) (t : Tr) : tree T t ≠ .non := by
  obtain ⟨fs, e, _⟩ := tree_ins T t
  rw [e]
  exact fun z => nomatch z
def spWritten (T : Txt K mg) : Nat → Addr → AS
  | 0, _ => fun _ _ _ _ => False
  | n + 1, C => fun ds M q e => ∃ t, ds = [tree T t] ∧ M = [] ∧ C = T.cl (kd t) ∧ dep t ≤ n ∧ n ≤ 8 ∧ q (.str (S (ren t))) []
theorem we_word {T : Txt K mg} {C : Sy.Ctx} {L : LS} {M : MS} {Q : Dat → MS → Prop} {t : Tr} {te : TE} (h : WE K C te L M fun x M1 => x = tree T t ∧ Q (.str (S (wd (kd t)))) M1) : WE K C (tMethU "word" (fun C => ∃ k, C = T.cl k) (fun C => SpF K (spWord T C)) (fun _ => E0) te tNil) L M Q :=
  we_methU (h.imp fun x M1 ⟨e, q⟩ => by
    obtain ⟨fs, h1, h2, _⟩ := tree_ins T t
    subst e
    refine ⟨T.cl (kd t), fs, by rw [h1]; exact .dat, ⟨_, rfl⟩, h2, wa_nil (cl_pure ?_)⟩
    exact ⟨t, rfl, rfl, rfl, rfl, q⟩)
theorem we_written {T : Txt K mg} {n : Nat} {C : Sy.Ctx} {L : LS} {M : MS} {Q : Dat → MS → Prop} {t : Tr} {te : TE} (hd : dep t ≤ n) (hn : n ≤ 8) (h : WE K C te L M fun x M1 => x = tree T t ∧ Q (.str (S (ren t))) M1) : WE K C (tMethU "written" (fun C => ∃ k, C = T.cl k) (fun C => SpF K (spWritten T (n + 1) C)) (fun _ => E0) te tNil) L M Q :=
  we_methU (h.imp fun x M1 ⟨e, q⟩ => by
    obtain ⟨fs, h1, _, h2⟩ := tree_ins T t
    subst e
    refine ⟨T.cl (kd t), fs, by rw [h1]; exact .dat, ⟨_, rfl⟩, h2, wa_nil (cl_pure ?_)⟩
    exact ⟨t, rfl, rfl, rfl, hd, hn, rfl, q⟩)
theorem ok_written_step (T : Txt K mg) (n : Nat) (ih : MethU P w K mg base CX0 (n + 1) "written" ["self"] (fun C => ∃ k, C = T.cl k) (fun C => SpF K (spWritten T n C))) (k : Kd) : FnOk P w K mg base CX0 (n + 2) T.fWr T.fdWr ["self"] (SpF K (spWritten T (n + 1) (T.cl k))) := by
  refine T.FWr.ok sc_Part_written (SpF.len fun ds M q e ⟨t, h, _⟩ => by rw [h]; rfl) (fun cdv A outer s H vs Q E hr h => ?_)
  have nd := sc_Part_written.nd
  have hu64 := hr.units
  refine ⟨_, (pss_cons (ps_if (pt_cmpR op_isN (pe_fld (pv 0) rfl) pe_non (nomark _)) (pss_one (ps_ret (pe_methU0 (u_word T) (pv 0) (hr.mono (by omega)) (fun σ => passE0)))) pss_nil)
      (pss_cons (ps_if (pt_cmpR op_isN (pe_fld (pv 0) rfl) pe_non (nomark _)) (pss_one (ps_ret (pe_op op_addU (pe_op op_addU (pe_op op_addU (pe_op op_addU pe_str (pe_methU0 (u_word T) (pv 0) (hr.mono (by omega)) (fun σ => passE0))) pe_str) (pe_methU0 ih (pe_fld (pv 0) rfl) (hr.mono (by omega)) (fun σ => passE0))) pe_str))) pss_nil)
      (pss_one (ps_ret (pe_op op_addU (pe_op op_addU (pe_op op_addU (pe_op op_addU (pe_op op_addU (pe_op op_addU pe_str (pe_methU0 ih (pe_fld (pv 0) rfl) (hr.mono (by omega)) (fun σ => passE0))) pe_str) (pe_methU0 (u_word T) (pv 0) (hr.mono (by omega)) (fun σ => passE0))) pe_str) (pe_methU0 ih (pe_fld (pv 0) rfl) (hr.mono (by omega)) (fun σ => passE0))) pe_str))))), body_run h fun C ds M q e he hs => ?_⟩
  obtain ⟨t, rfl, rfl, hk, hd, hn, hq⟩ := hs
  show WS K C _ [some (tree T t)] _ _
  dsimp only [cxOf, Cx.nox, Cx.wish]
  have hl := ren_len t
  have hp : 2 ^ dep t ≤ 2 ^ 8 := Nat.pow_le_pow_right (by decide) (by omega)
  have fone : ∀ x, tree T t = x → True := fun _ _ => trivial
  cases t with
  | leaf k' =>
    refine ws_seq (ws_if (wt_test (we_op (we_fld (we_var rfl ⟨_, _, .non, .dat, T.cls _, T.n1 _, rfl, we_non (wr_isN_t (bl_ (br_t ?_)))⟩)))))
    refine ws_ret (we_word (t := .leaf k') (we_var rfl ⟨rfl, ?_⟩))
    have e : wd (kd (.leaf k')) = ren (.leaf k') := by
      match k' with
      | 0 => rfl
      | 1 => rfl
      | 2 => rfl
    rw [e]
    exact .ret hq
  | un m t1 =>
    have hd1 : dep t1 + 1 ≤ n := hd
    obtain ⟨n', rfl⟩ : ∃ n', n = n' + 1 := ⟨n - 1, by omega⟩
    have hl1 := ren_len t1
    have hp1 : 2 ^ dep t1 ≤ 2 ^ 8 := Nat.pow_le_pow_right (by decide) (by omega)
    refine ws_seq (ws_if (wt_test (we_op (we_fld (we_var rfl ⟨_, _, tree T t1, .dat, T.cls _, T.n1 _, rfl, we_non (wr_isN_f (tree_ne T t1) (bl_ (br_f ?_)))⟩)))))
    refine ws_next ?_
    refine ws_seq (ws_if (wt_test (we_op (we_fld (we_var rfl ⟨_, _, .non, .dat, T.cls _, T.n2 _, rfl, we_non (wr_isN_t (bl_ (br_t ?_)))⟩)))))
    have hw : (wd (kd (.un m t1))).length ≤ 8 := by
      cases m
      · exact (by decide : 6 ≤ 8)
      · exact Nat.le_refl 8
    have x1 : (Sy.T "(").length = 1 := rfl
    have x2 : (Sy.T " ").length = 1 := rfl
    have x3 : (Sy.T ")").length = 1 := rfl
    refine ws_ret ?_
    walk_at "sy"
    refine we_word (t := .un m t1) (we_var rfl ⟨rfl, ?_⟩)
    refine wr_add_s (by omega) ?_
    refine we_lit (wr_add_s (by simp only [List.length_append]; omega) ?_)
    refine we_written (n := n') (t := t1) (by omega) (by omega) (we_fld (we_var rfl ⟨_, _, tree T t1, .dat, T.cls _, T.n1 _, rfl, rfl, ?_⟩))
    refine wr_add_s (by simp only [List.length_append]; omega) ?_
    refine we_lit (wr_add_s (by simp only [List.length_append]; omega) ?_)
    have e : Sy.T "(" ++ wd (kd (.un m t1)) ++ Sy.T " " ++ ren t1 ++ Sy.T ")" = ren (.un m t1) := by cases m <;> rfl
    rw [e]
    exact .ret hq
  | bi a t1 t2 =>
    have hd1 : max (dep t1) (dep t2) + 1 ≤ n := hd
    obtain ⟨n', rfl⟩ : ∃ n', n = n' + 1 := ⟨n - 1, by omega⟩
    have hl1 := ren_len t1
    have hl2 := ren_len t2
    have hp1 : 2 ^ dep t1 ≤ 2 ^ 8 := Nat.pow_le_pow_right (by decide) (by omega)
    have hp2 : 2 ^ dep t2 ≤ 2 ^ 8 := Nat.pow_le_pow_right (by decide) (by omega)
    have hw : (wd (kd (.bi a t1 t2))).length ≤ 8 := by
      cases a
      · exact (by decide : 6 ≤ 8)
      · exact (by decide : 5 ≤ 8)
    have x1 : (Sy.T "(").length = 1 := rfl
    have x2 : (Sy.T " ").length = 1 := rfl
    have x3 : (Sy.T ")").length = 1 := rfl
    refine ws_seq (ws_if (wt_test (we_op (we_fld (we_var rfl ⟨_, _, tree T t1, .dat, T.cls _, T.n1 _, rfl, we_non (wr_isN_f (tree_ne T t1) (bl_ (br_f ?_)))⟩)))))
    refine ws_next ?_
    refine ws_seq (ws_if (wt_test (we_op (we_fld (we_var rfl ⟨_, _, tree T t2, .dat, T.cls _, T.n2 _, rfl, we_non (wr_isN_f (tree_ne T t2) (bl_ (br_f ?_)))⟩)))))
    refine ws_next ?_
    refine ws_ret ?_
    walk_at "sy"
    refine we_written (n := n') (t := t1) (by omega) (by omega) (we_fld (we_var rfl ⟨_, _, tree T t1, .dat, T.cls _, T.n1 _, rfl, rfl, ?_⟩))
    refine wr_add_s (by omega) ?_
    refine we_lit (wr_add_s (by simp only [List.length_append]; omega) ?_)
    refine we_word (t := .bi a t1 t2) (we_var rfl ⟨rfl, ?_⟩)
    refine wr_add_s (by simp only [List.length_append]; omega) ?_
    refine we_lit (wr_add_s (by simp only [List.length_append]; omega) ?_)
    refine we_written (n := n') (t := t2) (by omega) (by omega) (we_fld (we_var rfl ⟨_, _, tree T t2, .dat, T.cls _, T.n2 _, rfl, rfl, ?_⟩))
    refine wr_add_s (by simp only [List.length_append]; omega) ?_
    refine we_lit (wr_add_s (by simp only [List.length_append]; omega) ?_)
    have e : Sy.T "(" ++ ren t1 ++ Sy.T " " ++ wd (kd (.bi a t1 t2)) ++ Sy.T " " ++ ren t2 ++ Sy.T ")" = ren (.bi a t1 t2) := by cases a <;> rfl
    rw [e]
    exact .ret hq
theorem u_written (T : Txt K mg) : ∀ n : Nat, MethU P w K mg base CX0 (n + 1) "written" ["self"] (fun C => ∃ k, C = T.cl k) (fun C => SpF K (spWritten T n C))
  | 0 => ⟨fun C ⟨k, hk⟩ => by
    subst hk
    exact ⟨T.cls k, T.fWr, T.fdWr, T.mWr k, fn_none.mono (by decide), T.bWr⟩⟩
  | n + 1 => ⟨fun C ⟨k, hk⟩ => by
    subst hk
    exact ⟨T.cls k, T.fWr, T.fdWr, T.mWr k, ok_written_step T n (u_written T n) k, T.bWr⟩⟩
end
end K61

/-! k61: the reader. -/
namespace K61
open PySem PySem.Spec PyProof.Rows L2 TL Sy

section
variable {P : Program} {w : World} {K : PySem.W.Frag} {mg : Str → Option Value} {base : Heap}
def nt (T : Txt K mg) : Exn := ⟨T.cNT, [("at", .int 0)]⟩
theorem ok_xNoText (T : Txt K mg) : FnOk P w K mg base CX0 1 T.fNT T.fdNT ["self", "at"] (spXI T.cNT "at") :=
  T.FNT.ok sc_NoText_init (fun vs H Q E h => spXI.len vs H Q E h) (fun cdv A outer s H vs Q E hr h => ⟨_, pss_one (ps_ost (pv 0) (pv 1)), xinit_run rfl T.oex_NoText T.no_NoText_at h⟩)
def spCut (T : Txt K mg) : AS := fun ds M q e => ∃ l h, ds = [.str (S l), .str (S h)] ∧ M = [] ∧ l.length ≤ 100000 ∧ h.length ≤ 100000 ∧ (∀ r, cutP h l = some r → q (.str (S r)) []) ∧ (cutP h l = none → e (nt T) [])
theorem cut_drop {α : Type} (l : List α) (n : Nat) (h : n ≤ l.length) : cut l (some (n : Int)) none = l.drop n := by
  unfold cut
  rw [HT.sIx_nat, HT.sIx_none, Nat.min_eq_left h]
  exact List.take_of_length_le (by rw [List.length_drop]; exact Nat.le_refl _)
theorem ok_cut_off (T : Txt K mg) : FnOk P w K mg base (L2.CX P w) 3 T.d_cut_off.f T.d_cut_off.fd ["text", "head"] (SpF K (spCut T)) := by
  refine T.d_cut_off.F.okX sc_cut_off (SpF.len fun ds M q e ⟨l, h, z, _⟩ => by rw [z]; rfl) (fun cdv A outer s H vs Q E hr h => ?_)
  have nd := sc_cut_off.nd
  refine ⟨_, (pss_cons (ps_if (pt_not (pt_val (pe_m1 PySem.F.slot_str_startswith PySem.F.type_str_startswith mt_startswith (pv 0) (pv 1)))) (pss_one (ps_raiseF rfl (takes_of rfl rfl rfl rfl) T.oex_NoText T.ii_NoText T.ti_NoText (ok_xNoText T) (hr.mono (by omega)) T.bi_NoText (by rfl) T.g_NoText pe_int)) pss_nil)
      (pss_one (ps_ret (pe_slice sl_U (pv 0) (po_some (pe_callB call_len (by rfl) T.m_len PySem.boot_len (pa_cons (pv 1) pa_nil))) po_none)))), body_run h fun C ds M q e he hs => ?_⟩
  obtain ⟨l, h, rfl, rfl, hl, hh, h1, h2⟩ := hs
  show WS K C _ [some (.str (S l)), some (.str (S h))] _ _
  dsimp only [cxOf, Cx.nox, Cx.wish]
  have hx := he.xw
  walk_at "sy"
  · rename_i hp
    have hp : h.isPrefixOf l = false := by simpa using hp
    have e : cutP h l = none := by
      unfold cutP
      rw [hp]
      rfl
    exact h2 e
  · rename_i hp
    have hp : h.isPrefixOf l = true := by simpa using hp
    have e : cutP h l = some (l.drop h.length) := by
      unfold cutP
      rw [if_pos hp]
    obtain ⟨r, rfl⟩ := pre_iff.mp hp
    rw [cut_drop _ _ (by rw [List.length_append]; omega)]
    exact .ret (h1 _ e)
def spR (T : Txt K mg) (o : Option (Tr × List Nat)) (q : Dat → MS → Prop) (e : Exn → MS → Prop) : Prop := (∀ t r, o = some (t, r) → q (.tup [tree T t, .str (S r)]) []) ∧ (o = none → e (nt T) [])
def spWhole (T : Txt K mg) : AS := fun ds M q e => ∃ l, ds = [.str (S l)] ∧ M = [] ∧ l.length ≤ 100000 ∧ spR T (wholeP l) q e
theorem we_mk0 (T : Txt K mg) {C : Sy.Ctx} {L : LS} {M : MS} {Q : Dat → MS → Prop} {k : Kd} (h : Q (.ins (T.cl k) [("one", .non), ("other", .non)]) M) : WE K C (tMake (T.cl k) (SpF K (spInit K)) [.non, .non] E0 tNil) L M Q :=
  we_make (dds := [.non, .non]) (fun _ => .cons .non (.cons .non .nil)) (wa_nil fun x => ⟨[(x, .ins (T.cl k) [])], M, fun r M2 => r = .non ∧ M2 = [(x, .ins (T.cl k) [("one", .non), ("other", .non)])], fun _ _ => False, List.Perm.refl _, ⟨x, T.cl k, .non, .non, rfl, rfl, T.cls k, T.n1 k, T.n2 k, rfl, rfl⟩, fun r M2 ⟨e1, e2⟩ => ⟨e1, _, M, by rw [e2]; exact .here, h⟩, fun _ _ z => z⟩)
theorem we_mk1 (T : Txt K mg) {C : Sy.Ctx} {L : LS} {M : MS} {Q : Dat → MS → Prop} {k : Kd} {te : TE} (h : WE K C te L M fun d M1 => Q (.ins (T.cl k) [("one", d), ("other", .non)]) M1) : WE K C (tMake (T.cl k) (SpF K (spInit K)) [.non] E0 (tCons te tNil)) L M Q :=
  we_make (dds := [.non]) (fun _ => .cons .non .nil) (wa_cons (h.imp fun d M1 q => wa_nil fun x => ⟨[(x, .ins (T.cl k) [])], M1, fun r M2 => r = .non ∧ M2 = [(x, .ins (T.cl k) [("one", d), ("other", .non)])], fun _ _ => False, List.Perm.refl _, ⟨x, T.cl k, d, .non, rfl, rfl, T.cls k, T.n1 k, T.n2 k, rfl, rfl⟩, fun r M2 ⟨e1, e2⟩ => ⟨e1, _, M1, by rw [e2]; exact .here, q⟩, fun _ _ z => z⟩))
theorem we_mk2 (T : Txt K mg) {C : Sy.Ctx} {L : LS} {M : MS} {Q : Dat → MS → Prop} {k : Kd} {te tf : TE} (h : WE K C te L M fun d M1 => WE K C tf L M1 fun d2 M2 => Q (.ins (T.cl k) [("one", d), ("other", d2)]) M2) : WE K C (tMake (T.cl k) (SpF K (spInit K)) [] E0 (tCons te (tCons tf tNil))) L M Q :=
  we_make (dds := []) (fun _ => .nil) (wa_cons (h.imp fun d M1 q => wa_cons (q.imp fun d2 M2 q2 => wa_nil fun x => ⟨[(x, .ins (T.cl k) [])], M2, fun r M2 => r = .non ∧ M2 = [(x, .ins (T.cl k) [("one", d), ("other", d2)])], fun _ _ => False, List.Perm.refl _, ⟨x, T.cl k, d, d2, rfl, rfl, T.cls k, T.n1 k, T.n2 k, rfl, rfl⟩, fun r M3 ⟨e1, e2⟩ => ⟨e1, _, M2, by rw [e2]; exact .here, q2⟩, fun _ _ z => z⟩)))
local macro_rules | `(tactic| walk_at "own") => `(tactic| first | (with_reducible apply we_mk0) | (with_reducible apply we_mk1) | (with_reducible apply we_mk2))
theorem ok_whole_part (T : Txt K mg) : FnOk P w K mg base (L2.CX P w) 4 T.d_whole_part.f T.d_whole_part.fd ["text"] (SpF K (spWhole T)) := by
  refine T.d_whole_part.F.okX sc_whole_part (SpF.len fun ds M q e ⟨l, z, _⟩ => by rw [z]; rfl) (fun cdv A outer s H vs Q E hr h => ?_)
  have nd := sc_whole_part.nd
  refine ⟨_, (pss_cons (ps_if (pt_val (pe_m1 PySem.F.slot_str_startswith PySem.F.type_str_startswith mt_startswith (pv 0) pe_str)) (pss_one (ps_ret (pe_tup (pa_cons (pe_make0 (T.mkc .level) (ok_init T) (hr.mono (by omega)) (by rfl) T.g_Level T.bi0 T.vd0 pass0) (pa_cons (pe_slice sl_U (pv 0) (po_some (pe_callB call_len (by rfl) T.m_len PySem.boot_len (pa_cons pe_str pa_nil))) po_none) pa_nil))))) pss_nil)
      (pss_cons (ps_if (pt_val (pe_m1 PySem.F.slot_str_startswith PySem.F.type_str_startswith mt_startswith (pv 0) pe_str)) (pss_one (ps_ret (pe_tup (pa_cons (pe_make0 (T.mkc .upright) (ok_init T) (hr.mono (by omega)) (by rfl) T.g_Upright T.bi0 T.vd0 pass0) (pa_cons (pe_slice sl_U (pv 0) (po_some (pe_callB call_len (by rfl) T.m_len PySem.boot_len (pa_cons pe_str pa_nil))) po_none) pa_nil))))) pss_nil)
      (pss_one (ps_ret (pe_tup (pa_cons (pe_make0 (T.mkc .single) (ok_init T) (hr.mono (by omega)) (by rfl) T.g_Single T.bi0 T.vd0 pass0) (pa_cons (pe_fS (ok_cut_off T) (hr.mono (by omega)) (fun σ => passAt (takes_of rfl rfl rfl rfl) σ) (pa_cons (pv 0) (pa_cons pe_str pa_nil))) pa_nil))))))), body_run h fun C ds M q e he hs => ?_⟩
  obtain ⟨l, rfl, rfl, hl, h1, h2⟩ := hs
  show WS K C _ [some (.str (S l))] _ _
  dsimp only [cxOf, Cx.nox, Cx.wish]
  have hx := he.xw
  walk_at "sy"
  · rename_i hp
    obtain ⟨r, rfl⟩ := pre_iff.mp hp
    rw [cut_drop _ _ (by rw [List.length_append]; omega)]
    refine .ret (h1 (.leaf 0) _ ?_)
    unfold wholeP
    rw [if_pos hp]
    rfl
  · rename_i hn hp
    obtain ⟨r, rfl⟩ := pre_iff.mp hp
    rw [cut_drop _ _ (by rw [List.length_append]; omega)]
    refine .ret (h1 (.leaf 1) _ ?_)
    unfold wholeP
    rw [hn, if_pos hp]
    rfl
  · rename_i hn hp
    have e : wholeP l = (cutP tSingle l).map fun r => (.leaf 2, r) := by
      unfold wholeP
      rw [hn, hp]
      rfl
    refine cl_pureX ⟨l, _, rfl, rfl, hl, by decide, fun r hr => ⟨rfl, ?_⟩, fun hr => ⟨rfl, h2 ?_⟩⟩
    · walk_at "sy"
      refine .ret (h1 (.leaf 2) r ?_)
      rw [e, hr]
      rfl
    · rw [e, hr]
      rfl
/-! ### the three that call one another -/
def spPart (T : Txt K mg) : Nat → AS
  | 0 => fun _ _ _ _ => False
  | n + 1 => fun ds M q e => ∃ l, ds = [.str (S l), .int (8 - (n : Nat))] ∧ M = [] ∧ n ≤ 8 ∧ l.length ≤ 100000 ∧ spR T (pF n l) q e
def spTurned (T : Txt K mg) : Nat → AS
  | 0 => fun _ _ _ _ => False
  | n + 1 => fun ds M q e => ∃ l, ds = [.str (S l), .int (8 - (n : Nat))] ∧ M = [] ∧ n ≤ 8 ∧ l.length ≤ 100000 ∧ spR T (tP (pF n) l) q e
def spJoined (T : Txt K mg) : Nat → AS
  | 0 => fun _ _ _ _ => False
  | n + 1 => fun ds M q e => ∃ l, ds = [.str (S l), .int (8 - (n : Nat))] ∧ M = [] ∧ n ≤ 8 ∧ l.length ≤ 100000 ∧ spR T (jP (pF n) l) q e
theorem cl_part (T : Txt K mg) {n : Nat} {l : List Nat} {o : Int} {M : MS} {Q : Dat → MS → Prop} {px : Exn → MS → Prop} (ho : o = 8 - (n : Nat)) (hn : n ≤ 8) (hl : l.length ≤ 100000) (h1 : ∀ t r, pF n l = some (t, r) → Q (.tup [tree T t, .str (S r)]) M) (h2 : pF n l = none → px (nt T) M) : Cl (spPart T (n + 1)) [.str (S l), .int o] M Q px := by
  subst ho
  exact cl_pureX ⟨l, rfl, rfl, hn, hl, fun t r e => ⟨rfl, h1 t r e⟩, fun e => ⟨rfl, h2 e⟩⟩
theorem cl_cut (T : Txt K mg) {l h : List Nat} {M : MS} {Q : Dat → MS → Prop} {px : Exn → MS → Prop} (hl : l.length ≤ 100000) (hh : h.length ≤ 100000) (h1 : ∀ r, cutP h l = some r → Q (.str (S r)) M) (h2 : cutP h l = none → px (nt T) M) : Cl (spCut T) [.str (S l), .str (S h)] M Q px :=
  cl_pureX ⟨l, h, rfl, rfl, hl, hh, fun r e => ⟨rfl, h1 r e⟩, fun e => ⟨rfl, h2 e⟩⟩
theorem ok_turned_part (T : Txt K mg) (n : Nat) (ihP : FnOk P w K mg base (L2.CX P w) (2 * n + 5) T.d_part_from.f T.d_part_from.fd ["text", "opens"] (SpF K (spPart T (n + 1)))) : FnOk P w K mg base (L2.CX P w) (2 * n + 6) T.d_turned_part.f T.d_turned_part.fd ["text", "opens"] (SpF K (spTurned T (n + 1))) := by
  refine T.d_turned_part.F.okX sc_turned_part (SpF.len fun ds M q e ⟨l, z, _⟩ => by rw [z]; rfl) (fun cdv A outer s H vs Q E hr h => ?_)
  have nd := sc_turned_part.nd
  refine ⟨_, (pss_cons (ps_if (pt_val (pe_m1 PySem.F.slot_str_startswith PySem.F.type_str_startswith mt_startswith (pv 0) pe_str)) (pss_cons (ps_asg (pe_fS ihP (hr.mono (by omega)) (fun σ => passAt (takes_of rfl rfl rfl rfl) σ) (pa_cons (pe_slice sl_U (pv 0) (po_some (pe_callB call_len (by rfl) T.m_len PySem.boot_len (pa_cons pe_str pa_nil))) po_none) (pa_cons (pv 1) pa_nil))) (pg_tup rfl (pgs_cons (pg_name (i := 2) nd rfl (by first | exact Or.inl rfl | exact Or.inr rfl)) (pgs_cons (pg_name (i := 3) nd rfl (by first | exact Or.inl rfl | exact Or.inr rfl)) pgs_nil))))
      (pss_one (ps_ret (pe_tup (pa_cons (pe_make (T.mkc .turned) (ok_init T) (hr.mono (by omega)) (by rfl) T.g_Turned T.bi1 T.vd1 pass0 (pa_cons (pv 2) pa_nil)) (pa_cons (pe_fS (ok_cut_off T) (hr.mono (by omega)) (fun σ => passAt (takes_of rfl rfl rfl rfl) σ) (pa_cons (pv 3) (pa_cons pe_str pa_nil))) pa_nil)))))) pss_nil)
      (pss_cons (ps_asg (pe_fS ihP (hr.mono (by omega)) (fun σ => passAt (takes_of rfl rfl rfl rfl) σ) (pa_cons (pe_fS (ok_cut_off T) (hr.mono (by omega)) (fun σ => passAt (takes_of rfl rfl rfl rfl) σ) (pa_cons (pv 0) (pa_cons pe_str pa_nil))) (pa_cons (pv 1) pa_nil))) (pg_tup rfl (pgs_cons (pg_name (i := 2) nd rfl (by first | exact Or.inl rfl | exact Or.inr rfl)) (pgs_cons (pg_name (i := 3) nd rfl (by first | exact Or.inl rfl | exact Or.inr rfl)) pgs_nil))))
      (pss_one (ps_ret (pe_tup (pa_cons (pe_make (T.mkc .mirrored) (ok_init T) (hr.mono (by omega)) (by rfl) T.g_Mirrored T.bi1 T.vd1 pass0 (pa_cons (pv 2) pa_nil)) (pa_cons (pe_fS (ok_cut_off T) (hr.mono (by omega)) (fun σ => passAt (takes_of rfl rfl rfl rfl) σ) (pa_cons (pv 3) (pa_cons pe_str pa_nil))) pa_nil))))))), body_run h fun C ds M q e he hs => ?_⟩
  obtain ⟨l, rfl, rfl, hn, hl, h1, h2⟩ := hs
  show WS K C _ [some (.str (S l)), some (.int (8 - (n : Nat))), none, none] _ _
  dsimp only [cxOf, Cx.nox, Cx.wish]
  have hx := he.xw
  walk_at "sy"
  · rename_i hp
    have ld : (l.drop 7).length ≤ 100000 := by rw [List.length_drop]; omega
    have le : (Sy.T "turned ").length ≤ l.length := by
      obtain ⟨r, rfl⟩ := pre_iff.mp hp
      rw [List.length_append]
      omega
    have eT : tP (pF n) l = (pF n (l.drop 7)).bind fun p => (cutP (Sy.T ")") p.2).map fun r => (.un false p.1, r) := by
      unfold tP
      rw [if_pos hp]
    rw [cut_drop _ _ le]
    refine cl_part T rfl hn ld (fun t r e1 => ?_) (fun e1 => h2 ?_)
    · have e1' : pF n (l.drop 7) = some (t, r) := e1
      have lr := pF_len e1'
      walk_at "sy"
      refine cl_cut T (by omega) (by decide) (fun r2 e2 => ?_) (fun e2 => h2 ?_)
      · walk_at "sy"
        refine .ret (h1 (.un false t) r2 ?_)
        rw [eT]
        have e1' : pF n (l.drop 7) = some (t, r) := e1
        rw [e1']
        simp only [Option.bind_some]
        rw [e2]
        rfl
      · rw [eT]
        have e1' : pF n (l.drop 7) = some (t, r) := e1
        rw [e1']
        simp only [Option.bind_some]
        rw [e2]
        rfl
    · rw [eT]
      have e1' : pF n (l.drop 7) = none := e1
      rw [e1']
      rfl
  · rename_i hp
    have eT : tP (pF n) l = (cutP (Sy.T "mirrored ") l).bind fun l' => (pF n l').bind fun p => (cutP (Sy.T ")") p.2).map fun r => (.un true p.1, r) := by
      unfold tP
      rw [hp]
      rfl
    refine cl_cut T hl (by decide) (fun r0 e0 => ?_) (fun e0 => h2 (by rw [eT, e0]; rfl))
    have l0 := cutP_len e0
    walk_at "sy"
    refine cl_part T rfl hn (by omega) (fun t r e1 => ?_) (fun e1 => h2 (by rw [eT, e0]; simp only [Option.bind_some]; rw [e1]; rfl))
    have lr := pF_len e1
    walk_at "sy"
    refine cl_cut T (by omega) (by decide) (fun r2 e2 => ?_) (fun e2 => h2 (by rw [eT, e0]; simp only [Option.bind_some]; rw [e1]; simp only [Option.bind_some]; rw [e2]; rfl))
    walk_at "sy"
    refine .ret (h1 (.un true t) r2 ?_)
    rw [eT, e0]
    simp only [Option.bind_some]
    rw [e1]
    simp only [Option.bind_some]
    rw [e2]
    rfl
end
end K61

/-! k61: the reader, further. -/
namespace K61
open PySem PySem.Spec PyProof.Rows L2 TL Sy

section
variable {P : Program} {w : World} {K : PySem.W.Frag} {mg : Str → Option Value} {base : Heap}
local macro_rules | `(tactic| walk_at "own") => `(tactic| first | (with_reducible apply we_mk0) | (with_reducible apply we_mk1) | (with_reducible apply we_mk2))
theorem ok_joined_part (T : Txt K mg) (n : Nat) (ihP : FnOk P w K mg base (L2.CX P w) (2 * n + 5) T.d_part_from.f T.d_part_from.fd ["text", "opens"] (SpF K (spPart T (n + 1)))) : FnOk P w K mg base (L2.CX P w) (2 * n + 6) T.d_joined_part.f T.d_joined_part.fd ["text", "opens"] (SpF K (spJoined T (n + 1))) := by
  refine T.d_joined_part.F.okX sc_joined_part (SpF.len fun ds M q e ⟨l, z, _⟩ => by rw [z]; rfl) (fun cdv A outer s H vs Q E hr h => ?_)
  have nd := sc_joined_part.nd
  refine ⟨_, (pss_cons (ps_asg (pe_fS ihP (hr.mono (by omega)) (fun σ => passAt (takes_of rfl rfl rfl rfl) σ) (pa_cons (pv 0) (pa_cons (pv 1) pa_nil))) (pg_tup rfl (pgs_cons (pg_name (i := 2) nd rfl (by first | exact Or.inl rfl | exact Or.inr rfl)) (pgs_cons (pg_name (i := 3) nd rfl (by first | exact Or.inl rfl | exact Or.inr rfl)) pgs_nil))))
      (pss_cons (ps_if (pt_val (pe_m1 PySem.F.slot_str_startswith PySem.F.type_str_startswith mt_startswith (pv 3) pe_str)) (pss_cons (ps_asg (pe_fS ihP (hr.mono (by omega)) (fun σ => passAt (takes_of rfl rfl rfl rfl) σ) (pa_cons (pe_slice sl_U (pv 3) (po_some (pe_callB call_len (by rfl) T.m_len PySem.boot_len (pa_cons pe_str pa_nil))) po_none) (pa_cons (pv 1) pa_nil))) (pg_tup rfl (pgs_cons (pg_name (i := 4) nd rfl (by first | exact Or.inl rfl | exact Or.inr rfl)) (pgs_cons (pg_name (i := 3) nd rfl (by first | exact Or.inl rfl | exact Or.inr rfl)) pgs_nil))))
      (pss_one (ps_ret (pe_tup (pa_cons (pe_make (T.mkc .beside) (ok_init T) (hr.mono (by omega)) (by rfl) T.g_Beside T.bi2 .nil pass0 (pa_cons (pv 2) (pa_cons (pv 4) pa_nil))) (pa_cons (pe_fS (ok_cut_off T) (hr.mono (by omega)) (fun σ => passAt (takes_of rfl rfl rfl rfl) σ) (pa_cons (pv 3) (pa_cons pe_str pa_nil))) pa_nil)))))) pss_nil)
      (pss_cons (ps_asg (pe_fS ihP (hr.mono (by omega)) (fun σ => passAt (takes_of rfl rfl rfl rfl) σ) (pa_cons (pe_fS (ok_cut_off T) (hr.mono (by omega)) (fun σ => passAt (takes_of rfl rfl rfl rfl) σ) (pa_cons (pv 3) (pa_cons pe_str pa_nil))) (pa_cons (pv 1) pa_nil))) (pg_tup rfl (pgs_cons (pg_name (i := 4) nd rfl (by first | exact Or.inl rfl | exact Or.inr rfl)) (pgs_cons (pg_name (i := 3) nd rfl (by first | exact Or.inl rfl | exact Or.inr rfl)) pgs_nil))))
      (pss_one (ps_ret (pe_tup (pa_cons (pe_make (T.mkc .above) (ok_init T) (hr.mono (by omega)) (by rfl) T.g_Above T.bi2 .nil pass0 (pa_cons (pv 2) (pa_cons (pv 4) pa_nil))) (pa_cons (pe_fS (ok_cut_off T) (hr.mono (by omega)) (fun σ => passAt (takes_of rfl rfl rfl rfl) σ) (pa_cons (pv 3) (pa_cons pe_str pa_nil))) pa_nil)))))))), body_run h fun C ds M q e he hs => ?_⟩
  obtain ⟨l, rfl, rfl, hn, hl, h1, h2⟩ := hs
  show WS K C _ [some (.str (S l)), some (.int (8 - (n : Nat))), none, none, none] _ _
  dsimp only [cxOf, Cx.nox, Cx.wish]
  have hx := he.xw
  walk_at "sy"
  refine cl_part T rfl hn hl (fun t r e1 => ?_) (fun e1 => h2 (by unfold jP; rw [e1]; rfl))
  have lr := pF_len e1
  walk_at "sy"
  · rename_i hp
    have ld : (r.drop 8).length ≤ 100000 := by rw [List.length_drop]; omega
    have le : (Sy.T " beside ").length ≤ r.length := by
      obtain ⟨r', rfl⟩ := pre_iff.mp hp
      rw [List.length_append]
      omega
    have eJ : jP (pF n) l = (pF n (r.drop 8)).bind fun q => (cutP (Sy.T ")") q.2).map fun r => (.bi false t q.1, r) := by
      unfold jP
      rw [e1]
      simp only [Option.bind_some]
      rw [if_pos hp]
    rw [cut_drop _ _ le]
    refine cl_part T rfl hn ld (fun t2 r2 e2 => ?_) (fun e2 => h2 ?_)
    · have e2' : pF n (r.drop 8) = some (t2, r2) := e2
      have lr2 := pF_len e2'
      have ld2 : (r.drop 8).length ≤ r.length := by rw [List.length_drop]; omega
      walk_at "sy"
      refine cl_cut T (by omega) (by decide) (fun r3 e3 => ?_) (fun e3 => h2 ?_)
      · walk_at "sy"
        refine .ret (h1 (.bi false t t2) r3 ?_)
        rw [eJ, e2']
        simp only [Option.bind_some]
        rw [e3]
        rfl
      · rw [eJ, e2']
        simp only [Option.bind_some]
        rw [e3]
        rfl
    · rw [eJ]
      have e2' : pF n (r.drop 8) = none := e2
      rw [e2']
      rfl
  · rename_i hp
    have eJ : jP (pF n) l = (cutP (Sy.T " above ") r).bind fun l' => (pF n l').bind fun q => (cutP (Sy.T ")") q.2).map fun r => (.bi true t q.1, r) := by
      unfold jP
      rw [e1]
      simp only [Option.bind_some]
      rw [hp]
      rfl
    refine cl_cut T (by omega) (by decide) (fun r0 e0 => ?_) (fun e0 => h2 (by rw [eJ, e0]; rfl))
    have l0 := cutP_len e0
    walk_at "sy"
    refine cl_part T rfl hn (by omega) (fun t2 r2 e2 => ?_) (fun e2 => h2 (by rw [eJ, e0]; simp only [Option.bind_some]; rw [e2]; rfl))
    have lr2 := pF_len e2
    walk_at "sy"
    refine cl_cut T (by omega) (by decide) (fun r3 e3 => ?_) (fun e3 => h2 (by rw [eJ, e0]; simp only [Option.bind_some]; rw [e2]; simp only [Option.bind_some]; rw [e3]; rfl))
    walk_at "sy"
    refine .ret (h1 (.bi true t t2) r3 ?_)
    rw [eJ, e0]
    simp only [Option.bind_some]
    rw [e2]
    simp only [Option.bind_some]
    rw [e3]
    rfl
theorem cl_turned (T : Txt K mg) {n : Nat} {l : List Nat} {o : Int} {M : MS} {Q : Dat → MS → Prop} {px : Exn → MS → Prop} (ho : o = 8 - (n : Nat)) (hn : n ≤ 8) (hl : l.length ≤ 100000) (h1 : ∀ t r, tP (pF n) l = some (t, r) → Q (.tup [tree T t, .str (S r)]) M) (h2 : tP (pF n) l = none → px (nt T) M) : Cl (spTurned T (n + 1)) [.str (S l), .int o] M Q px := by
  subst ho
  exact cl_pureX ⟨l, rfl, rfl, hn, hl, fun t r e => ⟨rfl, h1 t r e⟩, fun e => ⟨rfl, h2 e⟩⟩
theorem cl_joined (T : Txt K mg) {n : Nat} {l : List Nat} {o : Int} {M : MS} {Q : Dat → MS → Prop} {px : Exn → MS → Prop} (ho : o = 8 - (n : Nat)) (hn : n ≤ 8) (hl : l.length ≤ 100000) (h1 : ∀ t r, jP (pF n) l = some (t, r) → Q (.tup [tree T t, .str (S r)]) M) (h2 : jP (pF n) l = none → px (nt T) M) : Cl (spJoined T (n + 1)) [.str (S l), .int o] M Q px := by
  subst ho
  exact cl_pureX ⟨l, rfl, rfl, hn, hl, fun t r e => ⟨rfl, h1 t r e⟩, fun e => ⟨rfl, h2 e⟩⟩
theorem WE_MO (T : Txt K mg) {C : Sy.Ctx} {L : LS} {M : MS} {Q : Dat → MS → Prop} (q : Q (.int 8) M) : WE K C (tC (.int 8)) L M Q := we_int q
theorem ok_part_step (T : Txt K mg) (n : Nat) (okT : FnOk P w K mg base (L2.CX P w) (2 * n + 4) T.d_turned_part.f T.d_turned_part.fd ["text", "opens"] (SpF K (spTurned T n)))
    (okJ : FnOk P w K mg base (L2.CX P w) (2 * n + 4) T.d_joined_part.f T.d_joined_part.fd ["text", "opens"] (SpF K (spJoined T n))) : FnOk P w K mg base (L2.CX P w) (2 * n + 5) T.d_part_from.f T.d_part_from.fd ["text", "opens"] (SpF K (spPart T (n + 1))) := by
  refine T.d_part_from.F.okX sc_part_from (SpF.len fun ds M q e ⟨l, z, _⟩ => by rw [z]; rfl) (fun cdv A outer s H vs Q E hr h => ?_)
  have nd := sc_part_from.nd
  have hu64 := hr.units
  refine ⟨_, (pss_cons (ps_if (pt_not (pt_val (pe_m1 PySem.F.slot_str_startswith PySem.F.type_str_startswith mt_startswith (pv 0) pe_str))) (pss_one (ps_ret (pe_fS (ok_whole_part T) (hr.mono (by omega)) (fun σ => passAt (takes_of rfl rfl rfl rfl) σ) (pa_cons (pv 0) pa_nil)))) pss_nil)
      (pss_cons (ps_if (pt_cmpR (op_eqU hu64) (pv 1) (pe_glob (v := .int (8)) rfl T.g_MOST_OPEN ⟨_, rfl⟩) (nomark _)) (pss_one (ps_raiseF rfl (takes_of rfl rfl rfl rfl) T.oex_NoText T.ii_NoText T.ti_NoText (ok_xNoText T) (hr.mono (by omega)) T.bi_NoText (by rfl) T.g_NoText pe_int)) pss_nil)
      (pss_cons (ps_if (PW.pt (pw_or (pt_val (pe_m1 PySem.F.slot_str_startswith PySem.F.type_str_startswith mt_startswith (pv 0) pe_str)) (pw_or1 (pt_val (pe_m1 PySem.F.slot_str_startswith PySem.F.type_str_startswith mt_startswith (pv 0) pe_str))))) (pss_one (ps_ret (pe_fS okT (hr.mono (by omega)) (fun σ => passAt (takes_of rfl rfl rfl rfl) σ) (pa_cons (pe_slice sl_U (pv 0) (po_some pe_int) po_none) (pa_cons (pe_op op_addU (pv 1) pe_int) pa_nil))))) pss_nil)
      (pss_one (ps_ret (pe_fS okJ (hr.mono (by omega)) (fun σ => passAt (takes_of rfl rfl rfl rfl) σ) (pa_cons (pe_slice sl_U (pv 0) (po_some pe_int) po_none) (pa_cons (pe_op op_addU (pv 1) pe_int) pa_nil)))))))), body_run h fun C ds M q e he hs => ?_⟩
  obtain ⟨l, rfl, rfl, hn, hl, h1, h2⟩ := hs
  show WS K C _ [some (.str (S l)), some (.int (8 - (n : Nat)))] _ _
  dsimp only [cxOf, Cx.nox, Cx.wish]
  have hx := he.xw
  refine ws_seq (ws_if (wt_not (wt_B (we_m1' (we_var rfl (isS_ (we_lit (wm_sw (bl_ ?_)))))))))
  cases hp : (Sy.T "(").isPrefixOf l with
  | false =>
    have e : pF n l = wholeP l := by
      cases n with
      | zero => unfold pF; rw [hp]; rfl
      | succ n => unfold pF; rw [hp]; rfl
    refine br_t ?_
    walk_at "sy"
    exact cl_pureX ⟨l, rfl, rfl, hl, fun t r e1 => ⟨rfl, .ret (h1 t r (e.trans e1))⟩, fun e1 => ⟨rfl, h2 (e.trans e1)⟩⟩
  | true =>
    refine br_f (ws_next ?_)
    have lo : 1 ≤ l.length := by
      obtain ⟨r, rfl⟩ := pre_iff.mp hp
      rw [List.length_append]
      have : (Sy.T "(").length = 1 := rfl
      omega
    cases n with
    | zero =>
      have e : pF 0 l = none := by unfold pF; rw [hp]; rfl
      walk_at "sy"
      · exact h2 e
      all_goals (exfalso; omega)
    | succ n =>
      have e : pF (n + 1) l = (if (Sy.T "(turned ").isPrefixOf l || (Sy.T "(mirrored ").isPrefixOf l then tP (pF n) (l.drop 1) else jP (pF n) (l.drop 1)) := by
        conv => lhs; unfold pF
        rw [if_pos hp]
      have ld : (l.drop 1).length ≤ 100000 := by rw [List.length_drop]; omega
      have o1 : (8 : Int) - ((n + 1 : Nat) : Int) + 1 = 8 - (n : Nat) := by omega
      have c1 : cut l (some 1) none = l.drop 1 := cut_drop l 1 lo
      refine ws_seq (ws_if (wt_test (we_op (we_var rfl (WE_MO T (wr_eq_i (bl_ (br_dec (fun h8 => ?_) fun _ => ws_next ?_))))))))
      · exfalso
        omega
      refine ws_seq (ws_if (wt_or (wt_B (we_m1' (we_var rfl (isS_ (we_lit (wm_sw (bl_ ?_)))))))))
      cases ht : (Sy.T "(turned ").isPrefixOf l with
      | true =>
        rw [ht] at e
        have e : pF (n + 1) l = tP (pF n) (l.drop 1) := e
        refine br_t (br_t ?_)
        walk_at "sy"
        rw [c1]
        exact cl_turned T o1 (by omega) ld (fun t r e1 => .ret (h1 t r (e.trans e1))) fun e1 => h2 (e.trans e1)
      | false =>
        refine br_f (wt_B (we_m1' (we_var rfl (isS_ (we_lit (wm_sw (bl_ ?_)))))))
        cases hm : (Sy.T "(mirrored ").isPrefixOf l with
        | true =>
          rw [ht, hm] at e
          have e : pF (n + 1) l = tP (pF n) (l.drop 1) := e
          refine br_t ?_
          walk_at "sy"
          rw [c1]
          exact cl_turned T o1 (by omega) ld (fun t r e1 => .ret (h1 t r (e.trans e1))) fun e1 => h2 (e.trans e1)
        | false =>
          rw [ht, hm] at e
          have e : pF (n + 1) l = jP (pF n) (l.drop 1) := e
          refine br_f (ws_next ?_)
          walk_at "sy"
          rw [c1]
          exact cl_joined T o1 (by omega) ld (fun t r e1 => .ret (h1 t r (e.trans e1))) fun e1 => h2 (e.trans e1)
theorem ok_part_from (T : Txt K mg) : ∀ n : Nat, FnOk P w K mg base (L2.CX P w) (2 * n + 5) T.d_part_from.f T.d_part_from.fd ["text", "opens"] (SpF K (spPart T (n + 1)))
  | 0 => ok_part_step T 0 (fn_none.mono (by omega)) (fn_none.mono (by omega))
  | n + 1 => ok_part_step T (n + 1) ((ok_turned_part T n (ok_part_from T n)).mono (by omega)) ((ok_joined_part T n (ok_part_from T n)).mono (by omega))
/-- what isinstance asks of a thing -/
def IsTy (M : MS) (x : Dat) (t : Value) : Prop := (∃ i, x = .int i ∧ t = .type "int") ∨ (∃ i, x = .str i ∧ t = .type "str") ∨ (∃ i, x = .bl i ∧ t = .type "bool") ∨ (x = .non ∧ t = .type "NoneType") ∨ (∃ p, x = .own p ∧ ((t = .type "list" ∧ ∃ xs M', Del p (.lst xs) M M') ∨ t = .type "dict" ∧ ∃ xs M', Del p (.dK xs) M M')) ∨ ∃ xs, x = .tup xs ∧ t = .type "tuple"
/-- read_part(thing): a text is read; what is none is refused -/
def spRead (T : Txt K mg) : AS := fun ds M q e => (∃ l, ds = [.str (S l)] ∧ M = [] ∧ l.length ≤ 100000 ∧ (∀ t, rd l = some t → q (tree T t) []) ∧ (rd l = none → e (nt T) [])) ∨
  ∃ x t, ds = [x] ∧ IsTy M x t ∧ PySem.W.kitOne K t (.type "str") = some false ∧ e (nt T) M
theorem ok_read_part (T : Txt K mg) : FnOk P w K mg base (L2.CX P w) 22 T.d_read_part.f T.d_read_part.fd ["text"] (SpF K (spRead T)) := by
  have ihP := ok_part_from (P := P) (w := w) (base := base) T 8
  refine T.d_read_part.F.okX sc_read_part (SpF.len fun ds M q e hh => by rcases hh with ⟨l, z, _⟩ | ⟨x, t, z, _⟩ <;> (rw [z]; rfl)) (fun cdv A outer s H vs Q E hr h => ?_)
  have nd := sc_read_part.nd
  have hu64 := hr.units
  refine ⟨_, (pss_cons (ps_if (pt_not (pt_val (pe_callB call_isi (by rfl) T.m_isinstance (by decide +kernel) (pa_cons (pv 0) (pa_cons (pe_bltn (v := .ty "str") (by rfl) T.m_str (by decide +kernel) rfl) pa_nil))))) (pss_one (ps_raiseF rfl (takes_of rfl rfl rfl rfl) T.oex_NoText T.ii_NoText T.ti_NoText (ok_xNoText T) (hr.mono (by omega)) T.bi_NoText (by rfl) T.g_NoText pe_int)) pss_nil)
      (pss_cons (ps_asg (pe_fS ihP (hr.mono (by omega)) (fun σ => passAt (takes_of rfl rfl rfl rfl) σ) (pa_cons (pv 0) (pa_cons pe_int pa_nil))) (pg_tup rfl (pgs_cons (pg_name (i := 1) nd rfl (by first | exact Or.inl rfl | exact Or.inr rfl)) (pgs_cons (pg_name (i := 2) nd rfl (by first | exact Or.inl rfl | exact Or.inr rfl)) pgs_nil))))
      (pss_cons (ps_if (pt_cmpR (op_neU hu64) (pv 2) pe_str (nomark _)) (pss_one (ps_raiseF rfl (takes_of rfl rfl rfl rfl) T.oex_NoText T.ii_NoText T.ti_NoText (ok_xNoText T) (hr.mono (by omega)) T.bi_NoText (by rfl) T.g_NoText pe_int)) pss_nil)
      (pss_one (ps_ret (pv 1)))))), body_run h fun C ds M q e he hs => ?_⟩
  dsimp only [cxOf, Cx.nox, Cx.wish]
  have hx := he.xw
  rcases hs with ⟨l, rfl, rfl, hl, h1, h2⟩ | ⟨x, t, rfl, hty, hk, h2⟩
  · show WS K C _ [some (.str (S l)), none, none] _ _
    refine ws_seq (ws_if (wt_not (wt_B (we_cb (wa_cons (we_var rfl (wa_cons (we_ty (wa_nil (wc_isi (.inr (.inl ⟨_, rfl, rfl⟩)) ⟨_, rfl, rfl⟩ T.ks (bl_ (br_f (ws_next ?_)))))))))))))
    walk_at "sy"
    refine cl_part T (n := 8) rfl (by omega) hl (fun t r e1 => ?_) (fun e1 => h2 (by unfold rd; rw [e1]; rfl))
    walk_at "sy"
    · rename_i hne
      refine h2 ?_
      unfold rd
      rw [e1]
      simp only [Option.bind_some]
      rw [if_neg (fun z => hne (by rw [z]; rfl))]
    · rename_i hne
      have hr0 : r = [] := S_inj hne
      refine .ret (h1 t ?_)
      unfold rd
      rw [e1, hr0]
      rfl
  · show WS K C _ [some x, none, none] _ _
    refine ws_seq (ws_if (wt_not (wt_B (we_cb (wa_cons (we_var rfl (wa_cons (we_ty (wa_nil (wc_isi hty ⟨_, rfl, rfl⟩ hk (bl_ (br_t ?_))))))))))))
    walk_at "sy"
    exact h2
end
end K61

/-! k61: the law's defs. -/
namespace K61
open PySem PySem.Spec PyProof.Rows L2 TL Sy

section
variable {P : Program} {w : World} {K : PySem.W.Frag} {mg : Str → Option Value} {base : Heap}
theorem ok_l_take (T : Txt K mg) : FnOk P w K mg base CX0 1 T.d_take.f T.d_take.fd ["_law_row", "_law_base"] (SpF K spTake) := by
  refine T.d_take.F.ok sc_l_take (SpF.len fun ds M q e ⟨p, a, c, b, h, _⟩ => by rw [h]; rfl) (fun cdv A outer s H vs Q E hr h => ?_)
  have nd := sc_l_take.nd
  have hu64 := hr.units
  refine ⟨_, (pss_cons (ps_asg (pe_op op_addU (pe_ix ix_seq (pv 0) pe_int (fun _ _ => rfl)) pe_int) (pg_sub (pv 0) pe_int set_list))
      (pss_cons (ps_if (pt_cmpR op_gt (pe_ix ix_seq (pv 0) pe_int (fun _ _ => rfl)) (pe_op op_pow pe_int pe_int) (nomark _)) (pss_cons (ps_set (i := 2) nd rfl (by first | exact Or.inl rfl | exact Or.inr rfl) (pe_op op_sub (pe_ix ix_seq (pv 0) pe_int (fun _ _ => rfl)) (pe_op op_pow pe_int pe_int)))
      (pss_cons (ps_asg (pe_op op_addU (pe_op op_pow pe_int pe_int) (pe_op op_fdiv (pv 2) (pv 1))) (pg_sub (pv 0) pe_int set_list))
      (pss_one (ps_ret (pe_op op_mod (pv 2) (pv 1)))))) pss_nil)
      (pss_cons (ps_set (i := 3) nd rfl (by first | exact Or.inl rfl | exact Or.inr rfl) (pe_op op_mod (pe_op op_addU (pe_op op_addU (pe_op op_mulU (pe_ix ix_seq (pv 0) pe_int (fun _ _ => rfl)) pe_int) (pe_op op_mulU (pe_op op_mulU pe_int (pe_ix ix_seq (pv 0) pe_int (fun _ _ => rfl))) (pe_ix ix_seq (pv 0) pe_int (fun _ _ => rfl)))) pe_int) pe_int))
      (pss_cons (ps_set (i := 3) nd rfl (by first | exact Or.inl rfl | exact Or.inr rfl) (pe_op op_mod (pe_op op_addU (pe_op op_addU (pe_op op_mulU (pv 3) (pv 3)) (pe_op op_mulU pe_int (pe_ix ix_seq (pv 0) pe_int (fun _ _ => rfl)))) pe_int) pe_int))
      (pss_one (ps_ret (pe_op op_mod (pe_op op_fdiv (pv 3) pe_int) (pv 1)))))))), body_run h fun C ds M q e he hs => ?_⟩
  obtain ⟨p, a, c, b, rfl, rfl, hb, hc, hq⟩ := hs
  show WS K C _ [some (.own p), some (.int b), none, none] _ _
  dsimp only [cxOf, Cx.nox, Cx.wish]
  walk_at "sy"
  · exact .ret (hq _ _ (Int.emod_nonneg _ (by omega)) (Int.emod_lt_of_pos _ hb.1))
  · exact .ret (hq _ _ (Int.emod_nonneg _ (by omega)) (Int.emod_lt_of_pos _ hb.1))
def spTree : Nat → AS
  | 0 => fun _ _ _ _ => False
  | n + 1 => fun ds M q e => ∃ p a c, ds = [.own p, .int (n : Nat)] ∧ M = [(p, .lst [.int a, .int c])] ∧ 0 ≤ c ∧ c + 2 ^ (n + 2) ≤ 1000 ∧ n ≤ 3 ∧ ∀ (l : List Nat) a' c', l.length + 10 ≤ 17 * 2 ^ n → c ≤ c' → c' < c + 2 ^ (n + 2) → q (.str (S l)) [(p, .lst [.int a', .int c'])]
theorem strs_at {ws : List (List Nat)} {j b : Nat} {d : Dat} (hb : ∀ w ∈ ws, w.length ≤ b) (h : (ws.map fun w => Dat.str (S w))[j]? = some d) : ∃ l, d = .str (S l) ∧ l.length ≤ b ∧ l ∈ ws := by
  rw [List.getElem?_map, Option.map_eq_some_iff] at h
  obtain ⟨l, h1, h2⟩ := h
  have hm := List.mem_of_getElem? h1
  exact ⟨l, h2.symm, hb l hm, hm⟩
theorem cl_tree {m : Nat} {p : Addr} {a c o : Int} {M M' : MS} {Q : Dat → MS → Prop} {px : Exn → MS → Prop} (hd : Del p (.lst [.int a, .int c]) M M') (ho : o = (m : Nat)) (hc0 : 0 ≤ c) (hc1 : c + 2 ^ (m + 2) ≤ 1000) (hm : m ≤ 3)
    (k : ∀ (l : List Nat) a' c', l.length + 10 ≤ 17 * 2 ^ m → c ≤ c' → c' < c + 2 ^ (m + 2) → Q (.str (S l)) ((p, .lst [.int a', .int c']) :: M')) : Cl (spTree (m + 1)) [.own p, .int o] M Q px := by
  subst ho
  exact ⟨[(p, .lst [.int a, .int c])], M', fun r M2 => ∃ d', M2 = [(p, d')] ∧ Q r ((p, d') :: M'), fun _ _ => False, hd.perm, ⟨p, a, c, rfl, rfl, hc0, hc1, hm, fun l a' c' h0 h1 h2 => ⟨_, rfl, k l a' c' h0 h1 h2⟩⟩, fun r M2 ⟨d', e, q⟩ => by subst e; exact q, fun _ _ z => z.elim⟩
theorem ok_tree_step (T : Txt K mg) (n : Nat) (ih : FnOk P w K mg base CX0 (n + 1) T.d_tree_text.f T.d_tree_text.fd ["_law_row", "_law_deep"] (SpF K (spTree n))) : FnOk P w K mg base CX0 (n + 2) T.d_tree_text.f T.d_tree_text.fd ["_law_row", "_law_deep"] (SpF K (spTree (n + 1))) := by
  refine T.d_tree_text.F.ok sc_l_tree_text (SpF.len fun ds M q e ⟨p, a, c, h, _⟩ => by rw [h]; rfl) (fun cdv A outer s H vs Q E hr h => ?_)
  have nd := sc_l_tree_text.nd
  have hu64 := hr.units
  refine ⟨_, (pss_cons (ps_set (i := 2) nd rfl (by first | exact Or.inl rfl | exact Or.inr rfl) (pe_f (ok_l_take T) (hr.mono (by omega)) (pa_cons (pv 0) (pa_cons pe_int pa_nil))))
      (pss_cons (ps_if (PW.pt (pw_or (pt_cmpR (op_eqU hu64) (pv 1) pe_int (nomark _)) (pw_or1 (pt_cmpR (op_eqU hu64) (pv 2) pe_int (nomark _))))) (pss_one (ps_ret (pe_ix ix_seq (pe_lst (pa_cons pe_str (pa_cons pe_str (pa_cons pe_str (pa_cons pe_str pa_nil))))) (pe_f (ok_l_take T) (hr.mono (by omega)) (pa_cons (pv 0) (pa_cons pe_int pa_nil))) (fun _ _ => rfl)))) pss_nil)
      (pss_cons (ps_set (i := 3) nd rfl (by first | exact Or.inl rfl | exact Or.inr rfl) (pe_f ih (hr.mono (by omega)) (pa_cons (pv 0) (pa_cons (pe_op op_sub (pv 1) pe_int) pa_nil))))
      (pss_cons (ps_if (pt_cmpR op_lt (pv 2) pe_int (nomark _)) (pss_one (ps_ret (pe_op op_addU (pe_op op_addU (pe_op op_addU (pe_op op_addU pe_str (pe_ix ix_seq (pe_lst (pa_cons pe_str (pa_cons pe_str pa_nil))) (pe_op op_sub (pv 2) pe_int) (fun _ _ => rfl))) pe_str) (pv 3)) pe_str))) pss_nil)
      (pss_one (ps_ret (pe_op op_addU (pe_op op_addU (pe_op op_addU (pe_op op_addU pe_str (pv 3)) (pe_ix ix_seq (pe_lst (pa_cons pe_str (pa_cons pe_str pa_nil))) (pe_op op_mod (pv 2) pe_int) (fun _ _ => rfl))) (pe_f ih (hr.mono (by omega)) (pa_cons (pv 0) (pa_cons (pe_op op_sub (pv 1) pe_int) pa_nil)))) pe_str))))))), body_run h fun C ds M q e he hs => ?_⟩
  obtain ⟨p, a, c, rfl, rfl, hc0, hc1, hn, hq⟩ := hs
  show WS K C _ [some (.own p), some (.int (n : Nat)), none, none] _ _
  dsimp only [cxOf, Cx.nox, Cx.wish]
  have hp2 : 1 ≤ 2 ^ n := Nat.one_le_two_pow
  have hp3 : (2 : Int) ^ (n + 2) = 4 * ((2 ^ n : Nat) : Int) := by
    rw [Int.pow_add]
    have : ((2 ^ n : Nat) : Int) = (2 : Int) ^ n := by simp
    rw [this]
    omega
  have leaf : ∀ (x : Addr) (d : Dat) (j : Nat) (a' : Int) (L' : Dat), [Dat.str (S (Sy.T "single")), Dat.str (S (Sy.T "single")), Dat.str (S (Sy.T "level")), Dat.str (S (Sy.T "upright"))][j]? = some d → Sy.Fin q d [(p, Dat.lst [Dat.int a', Dat.int (c + 1 + 1)]), (x, L')] := by
    intro x d j a' L' hd
    obtain ⟨l, rfl, hl, _⟩ := strs_at (ws := [Sy.T "single", Sy.T "single", Sy.T "level", Sy.T "upright"]) (b := 7) (by decide) hd
    exact Fin.keep .here (hq l _ _ (by omega) (by omega) (by omega))
  walk_at "sy"
  · rename_i hd
    exact leaf _ _ _ _ _ hd
  · rename_i hd
    exact leaf _ _ _ _ _ hd
  · rename_i t0 a0 ht0 ht1 hn0 hw0
    obtain ⟨m, rfl⟩ : ∃ m, n = m + 1 := ⟨n - 1, by omega⟩
    have hp4 : (2 : Nat) ^ (m + 1) = 2 * 2 ^ m := by rw [Nat.pow_succ]; omega
    have hp5 : (2 : Int) ^ (m + 2) = 4 * ((2 ^ m : Nat) : Int) := by
      rw [Int.pow_add]
      have : ((2 ^ m : Nat) : Int) = (2 : Int) ^ m := by simp
      rw [this]
      omega
    have hm1 : 1 ≤ 2 ^ m := Nat.one_le_two_pow
    refine cl_tree (m := m) .here (by omega) (by omega) (by omega) (by omega) fun l1 a1 c1 hl1 g1 g2 => ?_
    walk_at "sy"
    · rename_i hdA
      obtain ⟨lA, rfl, hlA, _⟩ := strs_at (ws := [Sy.T "turned", Sy.T "mirrored"]) (b := 8) (by decide) hdA
      have e1 : (Sy.T "(").length = 1 := rfl
      have e2 : (Sy.T ")").length = 1 := rfl
      walk_at "sy"
      refine Fin.keep (.there .here) (hq _ _ _ ?_ (by omega) (by omega))
      simp only [List.length_append]
      have e3 : (Sy.T " ").length = 1 := rfl
      omega
    · rename_i hdA
      obtain ⟨lA, rfl, hlA, _⟩ := strs_at (ws := [Sy.T " beside ", Sy.T " above "]) (b := 8) (by decide) hdA
      have e1 : (Sy.T "(").length = 1 := rfl
      have e2 : (Sy.T ")").length = 1 := rfl
      walk_at "sy"
      refine cl_tree (m := m) (.there .here) (by omega) (by omega) (by omega) (by omega) fun l2 a2 c2 hl2 g3 g4 => ?_
      walk_at "sy"
      refine Fin.keep .here (hq _ _ _ ?_ (by omega) (by omega))
      simp only [List.length_append]
      omega
theorem ok_tree_text (T : Txt K mg) : ∀ n : Nat, FnOk P w K mg base CX0 (n + 1) T.d_tree_text.f T.d_tree_text.fd ["_law_row", "_law_deep"] (SpF K (spTree n))
  | 0 => fn_none.mono (Nat.zero_le _)
  | n + 1 => ok_tree_step T n (ok_tree_text T n)
end
end K61

/-! k61: the law's texts. -/
namespace Sy
open PySem PySem.Spec PyProof.Rows L2 TL
theorem RepL.strS {K : PySem.W.Frag} {G : Hp} : ∀ {ls : List (List Nat)} {vs : List V}, RepL K G vs (ls.map fun l => Dat.str (S l)) → vs = (ls.map S).map V.str
  | [], _, h => by cases h; rfl
  | l :: ls, _, h => by
    cases h with
    | cons r rr =>
      cases r
      rw [RepL.strS rr]
      rfl
theorem joinE_len : ∀ {ls : List (List Nat)} {b : Nat}, (∀ l ∈ ls, l.length ≤ b) → (joinL [] ls).length ≤ ls.length * b
  | [], _, _ => by simp [joinL]
  | [p], b, h => by
    show p.length ≤ 1 * b
    have := h p (by simp)
    omega
  | p :: q :: r, b, h => by
    show (p ++ ([] ++ joinL [] (q :: r))).length ≤ _
    rw [List.length_append, List.nil_append]
    have h1 := h p (by simp)
    have h2 := joinE_len (ls := q :: r) (b := b) (fun l hl => h l (by simp at hl ⊢; rcases hl with h | h <;> simp [h]))
    rw [List.length_cons (as := q :: r), Nat.succ_mul]
    omega
theorem lens_len : ∀ {ls : List (List Nat)} {b : Nat}, (∀ l ∈ ls, l.length ≤ b) → ((ls.map S).map (·.length)).sum ≤ ls.length * b
  | [], _, _ => by simp
  | p :: r, b, h => by
    have h1 := h p (by simp)
    have h2 := lens_len (ls := r) (b := b) (fun l hl => h l (by simp [hl]))
    simp only [List.map_cons, List.sum_cons, List.length_cons, S_len, Nat.succ_mul] at h2 ⊢
    omega
theorem joinS (sep : List Nat) (ls : List (List Nat)) : Txt.join (S sep) (ls.map S) = S (joinL sep ls) := ext_tl (by
  rw [TL.join_eq, tl_join, List.map_map]
  have e : (tl ∘ S : List Nat → List Nat) = id := rfl
  rw [e, List.map_id])
theorem wr_mul_si {K : PySem.W.Frag} {C : Ctx} {M : MS} {Q : Dat → MS → Prop} {l : List Nat} {n : Int} {b : Nat} (hn : 0 ≤ n) (hk : n ≤ b) (hz : l.length * b ≤ 1000000) (hb : b ≤ 1000000) (q : ∀ r : List Nat, r.length ≤ l.length * b → r = (List.replicate n.toNat l).flatten → Q (.str (S r)) M) : WR K C rMulU (.str (S l)) (.int n) M Q := by
  obtain ⟨k, rfl⟩ : ∃ k : Nat, n = k := ⟨n.toNat, by omega⟩
  have hm : l.length * k ≤ l.length * b := Nat.mul_le_mul_left _ (by omega)
  refine wr_mul_s (by omega) (by omega) (q _ ?_ rfl)
  have e : (List.replicate k l).flatten.length = k * l.length := by simp
  rw [e, Nat.mul_comm]
  exact hm
theorem wm_join {K : PySem.W.Frag} {C : Ctx} {M : MS} {Q : Dat → MS → Prop} {x : Dat} {sep : List Nat} {ls : List (List Nat)} (b : Nat) (hx : SeqOf M x (ls.map fun l => Dat.str (S l))) (hb : ∀ l ∈ ls, l.length ≤ b) (hz : ls.length * b + ls.length * sep.length ≤ 16777216) (q : Q (.str (S (joinL sep ls))) M) :
    WM K C (fun x xs H Q => ∃ a p, ∃ ys : List Str, x = .str a ∧ xs = [.ref p] ∧ (SqL K H p (ys.map V.str) ∨ SqT K H p (ys.map V.str)) ∧ (ys.map (·.length)).sum + ys.length * a.length ≤ 16777216 ∧ Q (.str (Txt.join a ys)) H) (.str (S sep)) [x] M Q := fun G H v vs R g I r rs k => by
  cases r
  cases rs with
  | cons r rr =>
    cases rr
    obtain ⟨a, ws, rfl, sq, rl⟩ := hx.get I r
    rw [RepL.strS rl] at sq
    refine ⟨S sep, a, ls.map S, rfl, rfl, sq, ?_, ?_⟩
    · have := lens_len hb
      rw [List.length_map, S_len]
      omega
    · rw [joinS]
      exact k _ _ _ _ _ (Same.refl G) I (.str _) q
theorem cut_from {α : Type} (l : List α) (n : Nat) : cut l (some (n : Int)) none = l.drop n := by
  unfold cut
  rw [HT.sIx_nat, HT.sIx_none]
  rcases Nat.le_total n l.length with h | h
  · rw [Nat.min_eq_left h]
    exact List.take_of_length_le (by rw [List.length_drop]; exact Nat.le_refl _)
  · rw [Nat.min_eq_right h, Nat.sub_self, List.take_zero, List.drop_eq_nil_of_le h]
theorem cut_to {α : Type} (l : List α) (n : Nat) : cut l none (some (n : Int)) = l.take n := by
  unfold cut
  rw [HT.sIx_nat, HT.sIx_none, List.drop_zero, Nat.sub_zero]
  exact (List.take_eq_take_iff.mpr (by omega))
theorem cut_mid {α : Type} (l : List α) (n m : Nat) : cut l (some (n : Int)) (some (m : Int)) = (l.drop n).take (m - n) := by
  unfold cut
  rw [HT.sIx_nat, HT.sIx_nat]
  rcases Nat.le_total n l.length with h | h
  · rw [Nat.min_eq_left h]
    exact (List.take_eq_take_iff.mpr (by rw [List.length_drop]; omega))
  · rw [Nat.min_eq_right h, List.drop_eq_nil_of_le h, List.drop_eq_nil_of_le (Nat.le_refl _), List.take_nil, List.take_nil]
theorem cut_len {α : Type} (l : List α) (a b : Option Int) : (cut l a b).length ≤ l.length := by
  unfold cut
  rw [List.length_take, List.length_drop]
  omega
end Sy
namespace K61
open PySem PySem.Spec PyProof.Rows L2 TL Sy

section
variable {P : Program} {w : World} {K : PySem.W.Frag} {mg : Str → Option Value} {base : Heap}
def spText : AS := fun ds M q e => ∃ p a, ds = [.own p] ∧ M = [(p, .lst [.int a, .int 0])] ∧ ∀ l : List Nat, l.length ≤ 1000 → q (.str (S l)) []
def menu0 : List (List Nat) := [Sy.T "(", Sy.T ")", Sy.T " ", Sy.T "single", Sy.T "level", Sy.T "upright", Sy.T "turned ", Sy.T "mirrored ", Sy.T " beside ", Sy.T " above ", Sy.T "(turned "]
theorem ok_l_text (T : Txt K mg) : FnOk P w K mg base CX0 6 T.d_text.f T.d_text.fd ["_law_row"] (SpF K spText) := by
  refine T.d_text.F.ok sc_l_text (SpF.len fun ds M q e ⟨p, a, h, _⟩ => by rw [h]; rfl) (fun cdv A outer s H vs Q E hr h => ?_)
  have nd := sc_l_text.nd
  have hu64 := hr.units
  have ih := ok_tree_text (P := P) (w := w) (base := base) T 4
  refine ⟨_, (pss_cons (ps_set (i := 1) nd rfl (by first | exact Or.inl rfl | exact Or.inr rfl) (pe_f (ok_l_take T) (hr.mono (by omega)) (pa_cons (pv 0) (pa_cons pe_int pa_nil))))
      (pss_cons (ps_if (pt_cmpR (op_eqU hu64) (pv 1) pe_int (nomark _)) (pss_cons (ps_set (i := 2) nd rfl (by first | exact Or.inl rfl | exact Or.inr rfl) (pe_lst (pa_cons pe_str (pa_cons pe_str (pa_cons pe_str (pa_cons pe_str (pa_cons pe_str (pa_cons pe_str (pa_cons pe_str (pa_cons pe_str (pa_cons pe_str (pa_cons pe_str (pa_cons pe_str pa_nil)))))))))))))
      (pss_one (ps_ret (pe_join pe_str (pe_lc (own := [("_law_k", 8)]) (g := gName 8) (by rfl) nd (pi_range1 (by rfl) T.m_range (pa_cons (pe_f (ok_l_take T) (hr.mono (by omega)) (pa_cons (pv 0) (pa_cons pe_int pa_nil))) pa_nil)) (blkOk_by (own := [("_law_k", 8)]) (N := ["_law_row", "_law_way", "_law_menu", "_law_found", "_law_many", "_law_at", "_law_sign", "_law_some", "_law_k"]) (sc := defScope s_l_text) (by decide +kernel)) (fun _ _ _ _ _ => (pg_name (i := 8) nd rfl (by first | exact Or.inl rfl | exact Or.inr rfl))) (fun _ _ _ _ _ => pts_nil) (fun _ _ _ _ _ => (pe_cast (pe_ix ix_seq (pv 2) (pe_f (ok_l_take T) (hr.mono (by omega)) (pa_cons (pv 0) (pa_cons pe_int pa_nil))) (fun _ _ => rfl)) (by dsimp only [blkK] <;> exact rfl)))))))) pss_nil)
      (pss_cons (ps_set (i := 3) nd rfl (by first | exact Or.inl rfl | exact Or.inr rfl) (pe_f ih (hr.mono (by omega)) (pa_cons (pv 0) (pa_cons pe_int pa_nil))))
      (pss_cons (ps_if (pt_cmpR (op_eqU hu64) (pv 1) pe_int (nomark _)) (pss_cons (ps_set (i := 4) nd rfl (by first | exact Or.inl rfl | exact Or.inr rfl) (pe_op op_addU pe_int (pe_f (ok_l_take T) (hr.mono (by omega)) (pa_cons (pv 0) (pa_cons pe_int pa_nil)))))
      (pss_one (ps_ret (pe_op op_addU (pe_op op_addU (pe_op op_mulU pe_str (pv 4)) (pv 3)) (pe_op op_mulU pe_str (pv 4)))))) pss_nil)
      (pss_cons (ps_set (i := 5) nd rfl (by first | exact Or.inl rfl | exact Or.inr rfl) (pe_f (ok_l_take T) (hr.mono (by omega)) (pa_cons (pv 0) (pa_cons (pe_op op_addU (pe_callB call_len (by rfl) T.m_len PySem.boot_len (pa_cons (pv 3) pa_nil)) pe_int) pa_nil))))
      (pss_cons (ps_set (i := 6) nd rfl (by first | exact Or.inl rfl | exact Or.inr rfl) (pe_ix ix_seq pe_str (pe_f (ok_l_take T) (hr.mono (by omega)) (pa_cons (pv 0) (pa_cons pe_int pa_nil))) (fun _ _ => rfl)))
      (pss_cons (ps_set (i := 7) nd rfl (by first | exact Or.inl rfl | exact Or.inr rfl) (pe_lst (pa_cons (pv 3) (pa_cons (pv 3) (pa_cons (pe_op op_addU (pv 3) (pv 3)) (pa_cons (pe_slice sl_U (pv 3) po_none (po_some (pv 5))) (pa_cons (pe_op op_addU (pe_slice sl_U (pv 3) po_none (po_some (pv 5))) (pe_slice sl_U (pv 3) (po_some (pe_op op_addU (pv 5) pe_int)) po_none)) pa_nil)))))))
      (pss_cons (ps_set (i := 7) nd rfl (by first | exact Or.inl rfl | exact Or.inr rfl) (pe_op op_addU (pv 7) (pe_lst (pa_cons (pe_op op_addU (pe_op op_addU (pe_slice sl_U (pv 3) po_none (po_some (pv 5))) (pv 6)) (pe_slice sl_U (pv 3) (po_some (pv 5)) po_none)) (pa_cons (pe_op op_addU (pe_op op_addU (pe_slice sl_U (pv 3) po_none (po_some (pv 5))) (pv 6)) (pe_slice sl_U (pv 3) (po_some (pe_op op_addU (pv 5) pe_int)) po_none)) pa_nil)))))
      (pss_one (ps_ret (pe_ix ix_seq (pv 7) (pe_op op_sub (pv 1) pe_int) (fun _ _ => rfl)))))))))))), body_run h fun C ds M q e he hs => ?_⟩
  obtain ⟨p, a, rfl, rfl, hq⟩ := hs
  show WS K C _ [some (.own p), none, none, none, none, none, none, none, none] _ _
  dsimp only [cxOf, Cx.nox, Cx.wish]
  walk_at "sy"
  · refine we_lc tgt_name (wi_range1 ?_)
    walk_at "sy"
    refine ⟨_, rfl, by omega, fun i acc M => ∃ ls a', acc = ls.map (fun l => Dat.str (S l)) ∧ ls.length = i ∧ (∀ l ∈ ls, l.length ≤ 10) ∧ M = [(p, .lst [.int a', .int (2 + i)]), (_, .lst (menu0.map fun l => Dat.str (S l)))], ⟨[], _, rfl, rfl, by simp, rfl⟩, by simp; omega, ?_, ?_⟩
    · rintro i x acc M hx ⟨ls, a', rfl, hl, hb, rfl⟩ F
      have hi : i < 13 := by
        obtain ⟨h, _⟩ := List.getElem?_eq_some_iff.mp hx
        simp at h
        omega
      walk_at "sy"
      refine wt_yes ⟨fun _ => ?_, fun z => (nomatch z)⟩
      dsimp only [wipeL, List.map, List.set, menu0]
      walk_at "sy"
      rename_i hd
      obtain ⟨l, rfl, h2, _⟩ := strs_at (ws := menu0) (b := 10) (by decide) hd
      exact ⟨ls ++ [l], _, by rw [List.map_append]; rfl, by rw [List.length_append, hl]; rfl, fun z hz => (List.mem_append.mp hz).elim (hb z) fun m => by rw [List.mem_singleton.mp m]; exact h2, by
        have e : (2 : Int) + (i : Nat) + 1 = 2 + ((i + 1 : Nat) : Int) := by omega
        rw [e]⟩
    · rintro acc M ⟨ls, a', rfl, hl, hb, rfl⟩ x
      rw [List.length_map, List.length_range] at hl
      have h0 : (Sy.T "").length = 0 := rfl
      have hz : ls.length * 10 ≤ 1000 := by omega
      refine wm_join (ls := ls) 10 (by walk_at "sq") hb (by rw [h0]; omega) ?_
      exact Fin.nil (hq _ (Nat.le_trans (joinE_len hb) hz)) _
  · refine cl_tree (m := 3) .here (by omega) (by omega) (by omega) (by omega) fun l1 a1 c1 hl1 g1 g2 => ?_
    have hl2 : l1.length ≤ 126 := by omega
    have e8 : (Sy.T "(turned ").length = 8 := rfl
    have e1 : (Sy.T ")").length = 1 := rfl
    have e9 : (Sy.T "() sluabt").length = 9 := rfl
    walk_at "sy"
    · refine wr_mul_si (b := 9) (by omega) (by omega) (by omega) (by omega) fun r1 h1 _ => ?_
      walk_at "sy"
      refine wr_mul_si (b := 9) (by omega) (by omega) (by omega) (by omega) fun r2 h2 _ => ?_
      walk_at "sy"
      refine Fin.nil (hq _ ?_) _
      simp only [List.length_append]
      omega
    · rename_i tt _ _ _ _ _ _ _
      have k1 := cut_len l1 none (some tt)
      have k2 := cut_len l1 (some tt) none
      have k3 := cut_len l1 (some (tt + 1)) none
      refine wr_ix_s_any (by omega) (by rw [e9]; constructor <;> omega) fun j ch _ _ => ?_
      have e10 : [ch].length = 1 := rfl
      generalize hch : [ch] = chs at *
      walk_at "sy"
      dsimp only [List.cons_append, List.nil_append]
      walk_at "sy"
      rename_i hd
      refine Fin.nil ?_ _
      obtain ⟨l, rfl, h2, _⟩ := strs_at (ws := [_, _, _, _, _, _, _]) (b := 300) (by
        intro w hw
        simp only [List.mem_cons, List.not_mem_nil, or_false] at hw
        rcases hw with rfl | rfl | rfl | rfl | rfl | rfl | rfl <;> (try simp only [List.length_append]) <;> omega) hd
      exact hq _ (by omega)
end
end K61

/-! k61: the law's own reading. -/
namespace Sy
open PySem PySem.Spec PyProof.Rows L2 TL
/-- texts as data -/
def wl (ws : List (List Nat)) : List Dat := ws.map fun w => .str (S w)
def pl (ws : List (List Nat)) : List PyData := ws.map fun w => .str (S w)
theorem pyl {M : MS} : ∀ ws, PyL M (wl ws) (pl ws)
  | [] => .nil
  | w :: ws => .cons (.str _) (pyl ws)
theorem eqvW : ∀ a b, PyData.eqvAll (pl a) (pl b) = decide (a = b)
  | [], [] => by simp [pl, PyData.eqvAll]
  | [], b :: bs => by simp [pl, PyData.eqvAll]
  | a :: as, [] => by simp [pl, PyData.eqvAll]
  | a :: as, b :: bs => by
    show PyData.eqvAll (.str (S a) :: pl as) (.str (S b) :: pl bs) = _
    simp only [PyData.eqvAll, PyData.eqv]
    rw [eqvW as bs]
    by_cases h : a = b
    · subst h
      simp
    · have h2 : (S a == S b) = false := beq_eq_false_iff_ne.mpr fun e => h (S_inj e)
      rw [h2]
      simp [h]
def okW (a : List Nat) : Prop := PyData.canLay0 (.str (S a)) = true
theorem canW : ∀ {a : List (List Nat)}, (∀ w ∈ a, okW w) → PyData.canLayAll0 (pl a) = true
  | [], _ => rfl
  | x :: xs, h => by
    show PyData.canLayAll0 (.str (S x) :: pl xs) = true
    have h1 : PyData.canLay0 (.str (S x)) = true := h x (by simp)
    have h2 := canW (a := xs) fun w hw => h w (by simp [hw])
    simp only [PyData.canLayAll0, h1, h2, Bool.and_self]
theorem depW : ∀ a : List (List Nat), PyData.depthAll (pl a) = 0
  | [] => rfl
  | x :: xs => by
    show PyData.depthAll (.str (S x) :: pl xs) = 0
    simp only [PyData.depthAll, PyData.depth, depW xs, Nat.max_self]
theorem shW {a : List (List Nat)} (h : ∀ w ∈ a, okW w) : SeqAt.shaped (.list (pl a)) = true := by
  unfold SeqAt.shaped
  have h2 := canW h
  simp only [PyData.canLay0, h2, PyData.depth, depW a, Bool.true_and]
  decide
section
variable {K : PySem.W.Frag} {C : Ctx} {M : MS} {Q : Dat → MS → Prop} {x y : Dat} {a b : List (List Nat)}
theorem wr_eq_w (a b : List (List Nat)) (hx : LstOf M x (wl a)) (hy : LstOf M y (wl b)) (ha : ∀ w ∈ a, okW w) (hb : ∀ w ∈ b, okW w) (q : Q (.bl (decide (a = b))) M) : WR K C (rEqU K) x y M Q := by
  refine wr_eq_d (.lst hx (pyl a)) (.lst hy (pyl b)) (shW ha) (shW hb) ?_
  simp only [PyData.eqv]
  rw [eqvW]
  exact q
theorem wr_ne_w (a b : List (List Nat)) (hx : LstOf M x (wl a)) (hy : LstOf M y (wl b)) (ha : ∀ w ∈ a, okW w) (hb : ∀ w ∈ b, okW w) (q : Q (.bl (!decide (a = b))) M) : WR K C (rNeU K) x y M Q := by
  refine wr_ne_d (.lst hx (pyl a)) (.lst hy (pyl b)) (shW ha) (shW hb) ?_
  simp only [PyData.eqv]
  rw [eqvW]
  exact q
/-- a list in a tuple of two lists -/
theorem wr_in_2w (a b c : List (List Nat)) {y z : Dat} (hx : LstOf M x (wl a)) (hy : LstOf M y (wl b)) (hz : LstOf M z (wl c)) (ha : ∀ w ∈ a, okW w) (hb : ∀ w ∈ b, okW w) (hc : ∀ w ∈ c, okW w) (q : Q (.bl (decide (a = b ∨ a = c))) M) : WR K C (rInU K) x (.tup [y, z]) M Q := by
  refine wr_in_t (.lst hx (pyl a)) (.tup (.cons (.lst hy (pyl b)) (.cons (.lst hz (pyl c)) .nil))) (shW ha) ?_ ?_
  · unfold SeqAt.shaped
    have h2 := canW hb
    have h3 := canW hc
    simp only [PyData.canLay0, PyData.canLayAll0, h2, h3, PyData.depth, PyData.depthAll, depW b, depW c, Bool.true_and]
    decide
  · simp only [List.any_cons, List.any_nil, PyData.eqv, eqvW, Bool.or_false]
    have e : (decide (b = a) || decide (c = a)) = decide (a = b ∨ a = c) := by
      rw [← Bool.decide_or]
      exact decide_eq_decide.mpr ⟨fun h => h.imp Eq.symm Eq.symm, fun h => h.imp Eq.symm Eq.symm⟩
    rw [e]
    exact q
/-- a text in a tuple of two texts -/
theorem wr_in_2s (a b c : List Nat) (ha : okW a) (hb : okW b) (hc : okW c) (q : Q (.bl (decide (a = b ∨ a = c))) M) : WR K C (rInU K) (.str (S a)) (.tup [.str (S b), .str (S c)]) M Q := by
  refine wr_in_t (.str _) (.tup (.cons (.str _) (.cons (.str _) .nil))) ?_ ?_ ?_
  · unfold SeqAt.shaped
    rw [show PyData.canLay0 (.str (S a)) = true from ha]
    rfl
  · unfold SeqAt.shaped
    simp only [PyData.canLay0, PyData.canLayAll0, PyData.depth, PyData.depthAll]
    have h2 : PyData.canLay0 (.str (S b)) = true := hb
    have h3 : PyData.canLay0 (.str (S c)) = true := hc
    simp only [PyData.canLay0] at h2 h3
    rw [h2, h3]
    rfl
  · simp only [List.any_cons, List.any_nil, PyData.eqv, Bool.or_false]
    have e : (S b == S a || S c == S a) = decide (a = b ∨ a = c) := by
      by_cases h1 : a = b
      · subst h1
        simp
      · have h2 : (S b == S a) = false := beq_eq_false_iff_ne.mpr fun e => h1 (S_inj e).symm
        by_cases h3 : a = c
        · subst h3
          simp
        · have h4 : (S c == S a) = false := beq_eq_false_iff_ne.mpr fun e => h3 (S_inj e).symm
          rw [h2, h4]
          simp [h1, h3]
    rw [e]
    exact q
end
theorem cut_wl (ws : List (List Nat)) (a b : Option Int) : cut (wl ws) a b = wl (cut ws a b) := by
  unfold cut wl
  rw [List.length_map, List.map_take, List.map_drop]
theorem wl_app (a b : List (List Nat)) : wl a ++ wl b = wl (a ++ b) := (List.map_append).symm
theorem wl_len (a : List (List Nat)) : (wl a).length = a.length := List.length_map _
theorem wl_get {ws : List (List Nat)} {i : Nat} {d : Dat} (h : (wl ws)[i]? = some d) : ∃ w, d = .str (S w) ∧ ws[i]? = some w := by
  unfold wl at h
  rw [List.getElem?_map, Option.map_eq_some_iff] at h
  obtain ⟨w, h1, h2⟩ := h
  exact ⟨w, h2.symm, h1⟩
end Sy
namespace K61
open PySem PySem.Spec PyProof.Rows L2 TL Sy

theorem ok_menu {w : Wd} (h : w ∈ menu) : okW w := by
  rcases menu_or h with rfl | rfl | rfl | rfl | rfl | rfl | rfl | rfl | rfl | rfl <;> (unfold okW; decide +kernel)
theorem ok_menuL {ws : List Wd} (h : ∀ w ∈ ws, w ∈ menu) : ∀ w ∈ ws, okW w := fun w m => ok_menu (h w m)
theorem menu_len {w : Wd} (h : w ∈ menu) : w.length ≤ 8 := by
  rcases menu_or h with rfl | rfl | rfl | rfl | rfl | rfl | rfl | rfl | rfl | rfl <;> decide
section
variable {P : Program} {w : World} {K : PySem.W.Frag} {mg : Str → Option Value} {base : Heap}
def spWords : AS := fun ds M q e => ∃ l, ds = [.str (S l)] ∧ M = [] ∧ l.length ≤ 1000 ∧ (∀ ws, toksL l = some ws → q (.lst (wl ws)) []) ∧ (toksL l = none → q .non [])
theorem toks_step {l : List Nat} {at_ : Nat} (h : at_ < l.length) : toks (l.length - at_) (l.drop at_) = match hits (l.drop at_) with
    | [] => none
    | w :: _ => (toks (l.length - at_ - 1) (l.drop (at_ + w.length))).map (w :: ·) := by
  obtain ⟨m, hm⟩ : ∃ m, l.length - at_ = m + 1 := ⟨l.length - at_ - 1, by omega⟩
  rw [hm]
  conv => lhs; unfold toks
  rw [if_neg (fun e => by have := congrArg List.length e; rw [List.length_drop] at this; simp at this; omega)]
  simp only [List.drop_drop]
  rfl
/-- what is left over is read with fewer steps too -/
theorem toks_more {n m : Nat} {l : List Nat} (h1 : l.length ≤ n) (h2 : l.length ≤ m) : toks n l = toks m l := by
  have key : ∀ a b : Nat, l.length ≤ a → l.length ≤ b → ∀ ws, toks a l = some ws → toks b l = some ws := fun a b ha hb ws e => by
    obtain ⟨rfl, hm⟩ := toks_flat a l ws e
    exact toks_of b ws hm hb
  cases e1 : toks n l with
  | some ws => rw [key n m h1 h2 ws e1]
  | none => cases e2 : toks m l with
    | none => rfl
    | some ws => rw [key m n h2 h1 ws e2] at e1; cases e1
theorem ok_l_words (T : Txt K mg) : FnOk P w K mg base CX0 1 T.d_words.f T.d_words.fd ["_law_text_here"] (SpF K spWords) := by
  refine T.d_words.F.ok sc_l_words (SpF.len fun ds M q e ⟨l, h, _⟩ => by rw [h]; rfl) (fun cdv A outer s H vs Q E hr h => ?_)
  have nd := sc_l_words.nd
  have hu64 := hr.units
  refine ⟨_, (pss_cons (ps_set (i := 1) nd rfl (by first | exact Or.inl rfl | exact Or.inr rfl) (pe_lst pa_nil))
      (pss_cons (ps_set (i := 2) nd rfl (by first | exact Or.inl rfl | exact Or.inr rfl) pe_int)
      (pss_cons (ps_while PassesOwn.never (pt_cmpR op_lt (pv 2) (pe_callB call_len (by rfl) T.m_len PySem.boot_len (pa_cons (pv 0) pa_nil)) (nomark _)) (pss_cons (ps_setLc (i := 3) (own := [("_law_word", 4)]) (g := gName 4) (by rfl) nd rfl rfl (sw_true rfl rfl rfl (by decide +kernel)) (pi_U (pe_tup (pa_cons pe_str (pa_cons pe_str (pa_cons pe_str (pa_cons pe_str (pa_cons pe_str (pa_cons pe_str (pa_cons pe_str (pa_cons pe_str (pa_cons pe_str (pa_cons pe_str pa_nil)))))))))))) (blkOk_by (own := [("_law_word", 4)]) (N := ["_law_text_here", "_law_found", "_law_at", "_law_here", "_law_word"]) (sc := defScope s_l_words) (by decide +kernel)) (fun _ _ _ _ _ => (pg_name (i := 4) nd rfl (by first | exact Or.inl rfl | exact Or.inr rfl))) (fun _ _ _ _ _ => (pts_cast (pts_one (pt_cmpR (op_eqU hu64) (pe_slice sl_U (pv 0) (po_some (pv 2)) (po_some (pe_op op_addU (pv 2) (pe_callB call_len (by rfl) T.m_len PySem.boot_len (pa_cons (pv 4) pa_nil))))) (pv 4) (nomark _))) (by dsimp only [blkK] <;> exact rfl))) (fun _ _ _ _ _ => (pe_cast (pv 4) (by dsimp only [blkK] <;> exact rfl))))
      (pss_cons (ps_if (pt_cmpR (op_eqU hu64) (pv 3) (pe_lst pa_nil) (nomark _)) (pss_one (ps_ret pe_non)) pss_nil)
      (pss_cons (ps_expr (pe_bm PySem.F.plainAttrs_list PySem.F.slot_list_append PySem.F.type_list_append mt_append (pv 1) (pa_cons (pe_ix ix_seq (pv 3) pe_int (fun _ _ => rfl)) pa_nil)))
      (pss_one (ps_set (i := 2) nd rfl (by first | exact Or.inl rfl | exact Or.inr rfl) (pe_op op_addU (pv 2) (pe_callB call_len (by rfl) T.m_len PySem.boot_len (pa_cons (pe_ix ix_seq (pv 3) pe_int (fun _ _ => rfl)) pa_nil)))))))))
      (pss_one (ps_ret (pv 1)))))), body_run h fun C ds M q e he hs => ?_⟩
  obtain ⟨l, rfl, rfl, hl, h1, h2⟩ := hs
  show WS K C _ [some (.str (S l)), none, none, none, none] _ _
  dsimp only [cxOf, Cx.nox, Cx.wish]
  walk_at "sy"
  rename_i p
  refine ws_while (fun m L M => ∃ (at_ : Nat) (pre : List Wd) (x3 : Option Dat), at_ ≤ l.length ∧ m = l.length - at_ ∧ pre.length ≤ at_ ∧ L = [some (.str (S l)), some (.own p), some (.int at_), x3, none] ∧ M = [(p, .lst (wl pre))] ∧ toksL l = (toks (l.length - at_) (l.drop at_)).map (pre ++ ·)) l.length ⟨0, [], none, by omega, by omega, by simp, rfl, rfl, by
    show toksL l = (toks l.length l).map _
    cases e : toks l.length l <;> (unfold toksL; rw [e]; rfl)⟩ ?_
  rintro m L M ⟨at_, pre, x3, ha, rfl, hp, rfl, rfl, ht⟩
  walk_at "sy"
  · rename_i hlt
    refine we_lc tgt_name (wi_U_t ?_)
    walk_at "sy"
    refine ⟨_, rfl, fun i acc M => acc = wl ((menu.take i).filter fun w => (l.drop at_).take w.length == w) ∧ M = [(p, .lst (wl pre))], ⟨rfl, rfl⟩, Nat.le_of_ble_eq_true rfl, ?_, ?_⟩
    · rintro i x acc M hx ⟨rfl, rfl⟩ F
      obtain ⟨w, rfl, hw⟩ := wl_get (ws := menu) hx
      have hm : w ∈ menu := List.mem_of_getElem? hw
      have hl2 : w.length ≤ 8 := menu_len hm
      have et : menu.take (i + 1) = menu.take i ++ [w] := by rw [List.take_succ, hw]; rfl
      have ec : cut l (some (at_ : Int)) (some ((at_ : Int) + (w.length : Nat))) = (l.drop at_).take w.length := by
        have e : (at_ : Int) + (w.length : Nat) = ((at_ + w.length : Nat) : Int) := by omega
        rw [e, cut_mid]
        congr 1
        omega
      dsimp only [wipeL, List.map, List.set]
      walk_at "sy"
      · rename_i hc
        have hc := S_inj hc
        rw [ec] at hc
        refine ⟨?_, rfl⟩
        rw [et, List.filter_append]
        have e2 : ([w] : List Wd).filter (fun w => (l.drop at_).take w.length == w) = [w] := by rw [List.filter_cons_of_pos (by rw [hc]; exact beq_self_eq_true _)]; rfl
        rw [e2, ← wl_app]
        rfl
      · rename_i hc
        have hc : (l.drop at_).take w.length ≠ w := fun e => hc (by rw [ec, e])
        refine ⟨?_, rfl⟩
        rw [et, List.filter_append]
        have e2 : ([w] : List Wd).filter (fun w => (l.drop at_).take w.length == w) = [] := by rw [List.filter_cons_of_neg (by rw [beq_eq_false_iff_ne.mpr hc]; decide)]; rfl
        rw [e2, List.append_nil]
    · rintro acc M ⟨rfl, rfl⟩ p1
      have eh : (menu.take 10).filter (fun w => (l.drop at_).take w.length == w) = hits (l.drop at_) := rfl
      have ts := toks_step (l := l) (at_ := at_) (by omega)
      have hmm : ∀ w ∈ hits (l.drop at_), w ∈ menu := fun w hw => (List.mem_filter.mp hw).1
      have hml : ∀ w ∈ hits (l.drop at_), at_ + w.length ≤ l.length := fun w hw => by
        have h1 := congrArg List.length (beq_iff_eq.mp (List.mem_filter.mp hw).2)
        rw [List.length_take, List.length_drop] at h1
        omega
      show WG K C (gName 3) (.own p1) _ ((p1, .lst (wl ((menu.take 10).filter fun w => (l.drop at_).take w.length == w))) :: _) _
      rw [eh]
      generalize hits (l.drop at_) = hs at *
      walk_at "sy"
      rename_i p2
      refine wr_eq_w hs [] (by walk_at "lst") (by walk_at "lst") (ok_menuL hmm) (by simp) ?_
      cases hs with
      | nil =>
        refine bl_ (br_t ?_)
        walk_at "sy"
        refine Fin.nil (h2 ?_) _
        rw [ht, ts]
        rfl
      | cons w ws =>
        refine bl_ (br_f (ws_next ?_))
        have hm : w ∈ menu := hmm w (by simp)
        have hl2 : w.length ≤ 8 := menu_len hm
        have hl3 : 1 ≤ w.length := menu_pos hm
        refine WS.drop (List.sublist_cons_self _ _) (WS.fz (i := 3) rfl .here ?_)
        dsimp only [List.set, wl, List.map]
        walk_at "sy"
        rename_i j1 d1 e1 g1 j2 d2 e2 g2
        have g : ∀ (j : Nat) d, (0 : Int) = j → (Dat.str (S w) :: ws.map fun w => Dat.str (S w))[j]? = some d → d = .str (S w) := fun j d e g => by
          have : j = 0 := by omega
          subst this
          exact (Option.some.inj g).symm
        obtain rfl := g _ _ e1 g1
        obtain rfl := g _ _ e2 g2
        walk_at "sy"
        have hle := hml w (by simp)
        refine ⟨l.length - (at_ + w.length), by omega, at_ + w.length, pre ++ [w], some (.lst (.str (S w) :: ws.map fun w => Dat.str (S w))), hle, rfl, by rw [List.length_append]; simp; omega, ?_, by rw [List.map_append]; rfl, ?_⟩
        · have e3 : (at_ : Int) + (w.length : Nat) = ((at_ + w.length : Nat) : Int) := by omega
          rw [e3]
        · rw [ht, ts]
          simp only [Option.map_map]
          have e4 : toks (l.length - at_ - 1) (l.drop (at_ + w.length)) = toks (l.length - (at_ + w.length)) (l.drop (at_ + w.length)) := toks_more (by rw [List.length_drop]; omega) (by rw [List.length_drop]; omega)
          rw [e4]
          congr 1
          funext x
          simp
  · rename_i hge
    refine Fin.own .here (h1 _ ?_)
    have e : at_ = l.length := by omega
    rw [ht, e, Nat.sub_self, List.drop_length]
    show (some []).map _ = _
    simp
/-! the lesser list -/
def t1 (d : List Wd) : Prop := (d.take 5).take 1 = [wO] ∧ (((d.take 5).drop 1).take 1 = [tTurned] ∨ ((d.take 5).drop 1).take 1 = [tMirrored]) ∧ (d.take 5).drop 2 = [wB, tSingle, wC]
def t2 (d : List Wd) : Prop := (d.take 7).take 3 = [wO, tSingle, wB] ∧ (d.take 7).drop 4 = [wB, tSingle, wC]
theorem redex1 {d : List Wd} (h : t1 d) : redex d = some (d.drop 5) := by
  obtain ⟨h1, h2, h3⟩ := h
  match d, h1, h2, h3 with
  | [], h1, _, _ => cases h1
  | [_], _, h2, _ => rcases h2 with h2 | h2 <;> cases h2
  | [_, _], _, _, h3 => cases h3
  | [_, _, _], _, _, h3 => cases h3
  | [_, _, _, _], _, _, h3 => cases h3
  | a :: b :: c :: e :: f :: r, h1, h2, h3 =>
    simp only [List.take_succ_cons, List.take_zero, List.drop_succ_cons, List.drop_zero, List.cons.injEq, and_true] at h1 h2 h3
    unfold redex
    dsimp only
    rw [if_pos ⟨h1, h2, h3⟩]
    rfl
theorem redex2 {d : List Wd} (h1 : ¬ t1 d) (h2 : t2 d) : ∃ x, d[3]? = some x ∧ (x = tBeside ∨ x = tAbove → redex d = some (d.drop 7)) ∧ (¬ (x = tBeside ∨ x = tAbove) → redex d = none) := by
  obtain ⟨h3, h4⟩ := h2
  match d, h1, h3, h4 with
  | [], _, h3, _ => cases h3
  | [_], _, h3, _ => cases h3
  | [_, _], _, h3, _ => cases h3
  | [_, _, _], _, _, h4 => cases h4
  | [_, _, _, _], _, _, h4 => cases h4
  | [_, _, _, _, _], _, _, h4 => cases h4
  | [_, _, _, _, _, _], _, _, h4 => cases h4
  | a :: b :: c :: e :: f :: g :: i :: r, h1, h3, h4 =>
    simp only [t1, List.take_succ_cons, List.take_zero, List.drop_succ_cons, List.drop_zero, List.cons.injEq, and_true] at h1 h3 h4
    refine ⟨e, rfl, fun hx => ?_, fun hx => ?_⟩
    · unfold redex
      dsimp only
      rw [if_neg h1, if_pos ⟨h3.1, h3.2.1, h3.2.2, hx, h4.1, h4.2.1, h4.2.2⟩]
      rfl
    · unfold redex
      dsimp only
      rw [if_neg h1, if_neg fun z => hx z.2.2.2.1]
theorem redex3 {d : List Wd} (h1 : ¬ t1 d) (h2 : ¬ t2 d) : redex d = none := by
  match d, h1, h2 with
  | [], _, _ => rfl
  | [_], _, _ => rfl
  | [_, _], _, _ => rfl
  | [_, _, _], _, _ => rfl
  | [_, _, _, _], _, _ => rfl
  | [a, b, c, e, f], h1, _ =>
    simp only [t1, List.take_succ_cons, List.take_zero, List.take_nil, List.drop_succ_cons, List.drop_zero, List.cons.injEq, and_true] at h1
    unfold redex
    dsimp only
    rw [if_neg h1]
  | [a, b, c, e, f, g], h1, _ =>
    simp only [t1, List.take_succ_cons, List.take_zero, List.take_nil, List.drop_succ_cons, List.drop_zero, List.cons.injEq, and_true] at h1
    unfold redex
    dsimp only
    rw [if_neg h1]
  | a :: b :: c :: e :: f :: g :: i :: r, h1, h2 =>
    simp only [t1, t2, List.take_succ_cons, List.take_zero, List.drop_succ_cons, List.drop_zero, List.cons.injEq, and_true] at h1 h2
    unfold redex
    dsimp only
    rw [if_neg h1, if_neg fun z => h2 ⟨⟨z.1, z.2.1, z.2.2.1⟩, z.2.2.2.2⟩]
theorem room65 {k : Nat} {A : Around} (r : Room k A) : A.units + 65 < cLine := by have := r.un; omega
theorem range_get {n i : Nat} {x : Dat} (h : ((List.range n).map fun (i : Nat) => Dat.int i)[i]? = some x) : x = .int i ∧ i < n := by
  rw [List.getElem?_map, Option.map_eq_some_iff] at h
  obtain ⟨a, h1, h2⟩ := h
  obtain ⟨h3, h4⟩ := List.getElem?_eq_some_iff.mp h1
  rw [List.getElem_range] at h4
  subst h4
  exact ⟨h2.symm, by rwa [List.length_range] at h3⟩
def spLesser : AS := fun ds M q e => ∃ ws, ds = [.lst (wl ws)] ∧ M = [] ∧ ws.length ≤ 1000 ∧ (∀ w ∈ ws, w ∈ menu) ∧ (∀ vs, less ws = some vs → q (.lst (wl vs)) []) ∧ (less ws = none → q .non [])
local macro_rules | `(tactic| walk_at "own") => `(tactic| first
  | ((with_reducible apply wr_eq_w); (first | exact LstOf.dat | (apply LstOf.own; walk_at "del")); (first | exact LstOf.dat | (apply LstOf.own; walk_at "del"))))
theorem ok_l_lesser (T : Txt K mg) : FnOk P w K mg base CX0 1 T.d_lesser.f T.d_lesser.fd ["_law_words_here"] (SpF K spLesser) := by
  refine T.d_lesser.F.ok sc_l_lesser (SpF.len fun ds M q e ⟨l, h, _⟩ => by rw [h]; rfl) (fun cdv A outer s H vs Q E hr h => ?_)
  have nd := sc_l_lesser.nd
  have hu64 := hr.units
  have hu65 := room65 hr
  refine ⟨_, (pss_cons (ps_for PassesOwn.never rfl (pi_range1 (by rfl) T.m_range (pa_cons (pe_callB call_len (by rfl) T.m_len PySem.boot_len (pa_cons (pv 0) pa_nil)) pa_nil)) (pg_name (i := 1) nd rfl (by first | exact Or.inl rfl | exact Or.inr rfl)) (pss_cons (ps_set (i := 2) nd rfl (by first | exact Or.inl rfl | exact Or.inr rfl) (pe_slice sl_U (pv 0) (po_some (pv 1)) (po_some (pe_op op_addU (pv 1) pe_int))))
      (pss_cons (ps_if (PW.pt (pw_and (pt_cmpR (op_eqU hu64) (pe_slice sl_U (pv 2) po_none (po_some pe_int)) (pe_lst (pa_cons pe_str pa_nil)) (nomark _)) (pw_and (pt_cmpR (op_inU hu65) (pe_slice sl_U (pv 2) (po_some pe_int) (po_some pe_int)) (pe_tup (pa_cons (pe_lst (pa_cons pe_str pa_nil)) (pa_cons (pe_lst (pa_cons pe_str pa_nil)) pa_nil))) (by rfl)) (pw_and1 (pt_cmpR (op_eqU hu64) (pe_slice sl_U (pv 2) (po_some pe_int) po_none) (pe_lst (pa_cons pe_str (pa_cons pe_str (pa_cons pe_str pa_nil)))) (nomark _)))))) (pss_one (ps_ret (pe_op op_addU (pe_op op_addU (pe_slice sl_U (pv 0) po_none (po_some (pv 1))) (pe_lst (pa_cons pe_str pa_nil))) (pe_slice sl_U (pv 0) (po_some (pe_op op_addU (pv 1) pe_int)) po_none)))) pss_nil)
      (pss_cons (ps_set (i := 3) nd rfl (by first | exact Or.inl rfl | exact Or.inr rfl) (pe_slice sl_U (pv 0) (po_some (pv 1)) (po_some (pe_op op_addU (pv 1) pe_int))))
      (pss_one (ps_if (PW.pt (pw_and (pt_cmpR (op_eqU hu64) (pe_slice sl_U (pv 3) po_none (po_some pe_int)) (pe_lst (pa_cons pe_str (pa_cons pe_str (pa_cons pe_str pa_nil)))) (nomark _)) (pw_and (pt_cmpR (op_eqU hu64) (pe_slice sl_U (pv 3) (po_some pe_int) po_none) (pe_lst (pa_cons pe_str (pa_cons pe_str (pa_cons pe_str pa_nil)))) (nomark _)) (pw_and1 (pt_cmpR (op_inU hu65) (pe_ix ix_seq (pv 3) pe_int (fun _ _ => rfl)) (pe_tup (pa_cons pe_str (pa_cons pe_str pa_nil))) (by rfl)))))) (pss_one (ps_ret (pe_op op_addU (pe_op op_addU (pe_slice sl_U (pv 0) po_none (po_some (pv 1))) (pe_lst (pa_cons pe_str pa_nil))) (pe_slice sl_U (pv 0) (po_some (pe_op op_addU (pv 1) pe_int)) po_none)))) pss_nil))))))
      (pss_one (ps_ret pe_non))), body_run h fun C ds M q e he hs => ?_⟩
  obtain ⟨ws, rfl, rfl, hl, hm, h1, h2⟩ := hs
  show WS K C _ [some (.lst (wl ws)), none, none, none] _ _
  dsimp only [cxOf, Cx.nox, Cx.wish]
  walk_at "sy"
  refine ws_for (wi_range1 ?_)
  walk_at "sy"
  refine ⟨_, rfl, by rw [wl_len]; omega, fun i L M => ∃ x1 x2 x3, L = [some (.lst (wl ws)), x1, x2, x3] ∧ less ws = (less (ws.drop i)).map (ws.take i ++ ·), ⟨_, _, _, rfl, by cases e : less ws <;> simp [e]⟩, ?_, ?_⟩
  · rintro i x L M hx ⟨x1, x2, x3, rfl, hle⟩
    obtain ⟨rfl, hi⟩ := range_get hx
    rw [wl_len, Int.toNat_natCast] at hi
    have hd : ∃ w0 r0, ws.drop i = w0 :: r0 := by
      cases e : ws.drop i with
      | nil => have := congrArg List.length e; rw [List.length_drop] at this; simp at this; omega
      | cons a b => exact ⟨a, b, rfl⟩
    have hmd : ∀ w ∈ ws.drop i, w ∈ menu := fun w h => hm w (List.mem_of_mem_drop h)
    have e5 : cut (wl ws) (some (i : Int)) (some ((i : Int) + 5)) = wl ((ws.drop i).take 5) := by
      rw [cut_wl, show ((i : Int) + 5) = ((i + 5 : Nat) : Int) from rfl, cut_mid, Nat.add_sub_cancel_left]
    have e7 : cut (wl ws) (some (i : Int)) (some ((i : Int) + 7)) = wl ((ws.drop i).take 7) := by
      rw [cut_wl, show ((i : Int) + 7) = ((i + 7 : Nat) : Int) from rfl, cut_mid, Nat.add_sub_cancel_left]
    have e0 : cut (wl ws) none (some (i : Int)) = wl (ws.take i) := by rw [cut_wl, cut_to]
    have f5 : cut (wl ws) (some ((i : Int) + 5)) none = wl (ws.drop (i + 5)) := by
      rw [cut_wl, show ((i : Int) + 5) = ((i + 5 : Nat) : Int) from rfl, cut_from]
    have f7 : cut (wl ws) (some ((i : Int) + 7)) none = wl (ws.drop (i + 7)) := by
      rw [cut_wl, show ((i : Int) + 7) = ((i + 7 : Nat) : Int) from rfl, cut_from]
    have k0 : (cut (wl ws) none (some (i : Int))).length ≤ 1000 := Nat.le_trans (cut_len _ _ _) (by rw [wl_len]; exact hl)
    have k5 : (cut (wl ws) (some ((i : Int) + 5)) none).length ≤ 1000 := Nat.le_trans (cut_len _ _ _) (by rw [wl_len]; exact hl)
    have k7 : (cut (wl ws) (some ((i : Int) + 7)) none).length ≤ 1000 := Nat.le_trans (cut_len _ _ _) (by rw [wl_len]; exact hl)
    have fnd : ∀ (k : Nat), redex (ws.drop i) = some ((ws.drop i).drop k) → less ws = some (ws.take i ++ [tSingle] ++ ws.drop (i + k)) := fun k hk => by
      obtain ⟨w0, r0, hd⟩ := hd
      rw [hle, hd]
      rw [hd] at hk
      unfold less
      rw [hk]
      rw [← hd, List.drop_drop]
      simp
    have nfd : redex (ws.drop i) = none → less ws = (less (ws.drop (i + 1))).map (ws.take (i + 1) ++ ·) := fun hk => by
      have e1 : ws.take (i + 1) = ws.take i ++ (ws.drop i).take 1 := by rw [List.take_add]
      have e2 : ws.drop (i + 1) = (ws.drop i).drop 1 := by rw [List.drop_drop]
      obtain ⟨w0, r0, hd⟩ := hd
      rw [hle, e1, e2, hd]
      rw [hd] at hk
      conv => lhs; unfold less
      rw [hk]
      simp only [Option.map_map, List.drop_succ_cons, List.drop_zero, List.take_succ_cons, List.take_zero]
      congr 1
      funext x
      simp
    generalize hI1 : tIfS (tAnd _ _) _ _ = I1
    generalize hI2 : tIfS (tAnd _ _) _ _ = I2
    walk_at "sy"
    rename_i p2
    rw [e5]
    subst hI1
    refine ws_if (WT.imp (Q' := fun b _ => (b = true → t1 (ws.drop i)) ∧ (b = false → ¬ t1 (ws.drop i))) ?_ ?_)
    · have mm : ∀ w ∈ (ws.drop i).take 5, w ∈ menu := fun w h => hmd w (List.mem_of_mem_take h)
      have ok1 : ∀ w ∈ ((ws.drop i).take 5).take 1, okW w := ok_menuL fun w h => mm w (List.mem_of_mem_take h)
      have ok2 : ∀ w ∈ (((ws.drop i).take 5).drop 1).take 1, okW w := ok_menuL fun w h => mm w (List.mem_of_mem_drop (List.mem_of_mem_take h))
      have ok3 : ∀ w ∈ ((ws.drop i).take 5).drop 2, okW w := ok_menuL fun w h => mm w (List.mem_of_mem_drop h)
      have g1 : cut (wl ((ws.drop i).take 5)) none (some 1) = wl (((ws.drop i).take 5).take 1) := by rw [cut_wl]; exact congrArg wl (cut_to _ 1)
      have g2 : cut (wl ((ws.drop i).take 5)) (some 1) (some 2) = wl ((((ws.drop i).take 5).drop 1).take 1) := by rw [cut_wl]; exact congrArg wl (cut_mid _ 1 2)
      have g3 : cut (wl ((ws.drop i).take 5)) (some 2) none = wl (((ws.drop i).take 5).drop 2) := by rw [cut_wl]; exact congrArg wl (cut_from _ 2)
      walk_at "sy"
      rw [g1]
      refine wr_eq_w _ [wO] (by walk_at "lst") (by walk_at "lst") ok1 (ok_menuL (by decide)) (bl_ (br_dec (fun a1 => ?_) fun a1 => ⟨fun z => (nomatch z), fun _ z => a1 z.1⟩))
      walk_at "sy"
      rw [g2]
      refine wr_in_2w _ [tTurned] [tMirrored] (by walk_at "lst") (by walk_at "lst") (by walk_at "lst") ok2 (ok_menuL (by decide)) (ok_menuL (by decide)) (bl_ (br_dec (fun a2 => ?_) fun a2 => ⟨fun z => (nomatch z), fun _ z => a2 z.2.1⟩))
      walk_at "sy"
      rw [g3]
      exact wr_eq_w _ [wB, tSingle, wC] (by walk_at "lst") (by walk_at "lst") ok3 (ok_menuL (by decide)) (bl_ ⟨fun z => ⟨a1, a2, of_decide_eq_true z⟩, fun z y => of_decide_eq_false z y.2.2⟩)
    rintro b M1 ⟨hb1, hb2⟩
    refine ⟨fun eb => ?_, fun eb => ws_next ?_⟩
    · have hx := h1 _ (fnd 5 (redex1 (hb1 eb)))
      walk_at "sy"
      rw [f5, e0]
      refine Fin.own .here ?_
      have e : wl (ws.take i) ++ [Dat.str (S (Sy.T "single"))] ++ wl (ws.drop (i + 5)) = wl (ws.take i ++ [tSingle] ++ ws.drop (i + 5)) := by
        rw [← wl_app, ← wl_app]
        rfl
      rw [e]
      exact hx
    have nt1 := hb2 eb
    walk_at "sy"
    rw [e7]
    subst hI2
    refine ws_if (WT.imp (Q' := fun b _ => (b = true → redex (ws.drop i) = some ((ws.drop i).drop 7)) ∧ (b = false → redex (ws.drop i) = none)) ?_ ?_)
    · have mm : ∀ w ∈ (ws.drop i).take 7, w ∈ menu := fun w h => hmd w (List.mem_of_mem_take h)
      have ok1 : ∀ w ∈ ((ws.drop i).take 7).take 3, okW w := ok_menuL fun w h => mm w (List.mem_of_mem_take h)
      have ok3 : ∀ w ∈ ((ws.drop i).take 7).drop 4, okW w := ok_menuL fun w h => mm w (List.mem_of_mem_drop h)
      have g1 : cut (wl ((ws.drop i).take 7)) none (some 3) = wl (((ws.drop i).take 7).take 3) := by rw [cut_wl]; exact congrArg wl (cut_to _ 3)
      have g3 : cut (wl ((ws.drop i).take 7)) (some 4) none = wl (((ws.drop i).take 7).drop 4) := by rw [cut_wl]; exact congrArg wl (cut_from _ 4)
      walk_at "sy"
      rw [g1]
      refine wr_eq_w _ [wO, tSingle, wB] (by walk_at "lst") (by walk_at "lst") ok1 (ok_menuL (by decide)) (bl_ (br_dec (fun a1 => ?_) fun a1 => ⟨fun z => (nomatch z), fun _ => redex3 nt1 fun z => a1 z.1⟩))
      walk_at "sy"
      rw [g3]
      refine wr_eq_w _ [wB, tSingle, wC] (by walk_at "lst") (by walk_at "lst") ok3 (ok_menuL (by decide)) (bl_ (br_dec (fun a2 => ?_) fun a2 => ⟨fun z => (nomatch z), fun _ => redex3 nt1 fun z => a2 z.2⟩))
      obtain ⟨x, hx3, y1, y2⟩ := redex2 nt1 ⟨a1, a2⟩
      have hxm : x ∈ menu := hmd x (List.mem_of_getElem? hx3)
      have hx7 : (wl ((ws.drop i).take 7))[3]? = some (.str (S x)) := by
        unfold wl
        rw [List.getElem?_map, List.getElem?_take_of_lt (by decide), hx3]
        rfl
      refine wt_test (we_op (we_op (we_var rfl (we_int ?_))))
      refine wr_ix (xs := wl ((ws.drop i).take 7)) (d := .str (S x)) (by walk_at "sq") (atI_of (j := 3) rfl hx7) ?_
      walk_at "sy"
      refine wr_in_2s x tBeside tAbove (ok_menu hxm) (ok_menu (by decide)) (ok_menu (by decide)) (bl_ ⟨fun z => y1 (of_decide_eq_true z), fun z => y2 (of_decide_eq_false z)⟩)
    rintro b M2 ⟨hb1, hb2⟩
    refine ⟨fun eb => ?_, fun eb => ws_next ?_⟩
    · have hx := h1 _ (fnd 7 (hb1 eb))
      walk_at "sy"
      rw [f7, e0]
      refine Fin.own .here ?_
      have e : wl (ws.take i) ++ [Dat.str (S (Sy.T "single"))] ++ wl (ws.drop (i + 7)) = wl (ws.take i ++ [tSingle] ++ ws.drop (i + 7)) := by
        rw [← wl_app, ← wl_app]
        rfl
      rw [e]
      exact hx
    · exact ⟨_, _, _, rfl, nfd (hb2 eb)⟩
  · rintro L M ⟨x1, x2, x3, rfl, hle⟩
    walk_at "sy"
    refine Fin.nil (h2 ?_) _
    rw [hle, List.length_map, List.length_range, wl_len, Int.toNat_natCast, List.drop_length]
    rfl
end
end K61

/-! k61: the law. -/
namespace K61
open PySem PySem.Spec PyProof.Rows L2 TL Sy

section
variable {P : Program} {w : World} {K : PySem.W.Frag} {mg : Str → Option Value} {base : Heap}
def spWrites : AS := fun ds M q e => ∃ l, ds = [.str (S l)] ∧ M = [] ∧ l.length ≤ 1000 ∧ q (.bl (rd l).isSome) []
theorem toksL_len {l : List Nat} {ws : List Wd} (h : toksL l = some ws) : ws.length ≤ l.length ∧ ∀ w ∈ ws, w ∈ menu := by
  obtain ⟨rfl, hm⟩ := toksL_iff.mp h
  refine ⟨?_, hm⟩
  clear h
  induction ws with
  | nil => exact Nat.zero_le _
  | cons w ws ih =>
    have h1 := menu_pos (hm w (by simp))
    have h2 := ih fun w h => hm w (by simp [h])
    rw [List.flatten_cons, List.length_append, List.length_cons]
    omega
theorem menu_sg {ws : List Wd} (h : ∀ w ∈ ws, w ∈ menu) : ∀ w ∈ ws.map sgW, w ∈ menu := fun w hw => by
  obtain ⟨v, hv, rfl⟩ := List.mem_map.mp hw
  unfold sgW
  split
  · decide
  · exact h v hv
theorem cl1_sg (ws : List Wd) : Cl1 (ws.map sgW) := fun w hw => by
  obtain ⟨v, hv, rfl⟩ := List.mem_map.mp hw
  unfold sgW
  split
  · decide
  · rename_i h
    exact ⟨fun z => h (.inl z), fun z => h (.inr z)⟩
theorem less_menu {ws vs : List Wd} (h : less ws = some vs) (hm : ∀ w ∈ ws, w ∈ menu) : ∀ w ∈ vs, w ∈ menu := by
  obtain ⟨u, x, v, _, rfl, rfl⟩ := less_some h
  intro w hw
  rcases List.mem_append.mp hw with hw | hw
  · exact hm w (by simp [hw])
  · rcases List.mem_cons.mp hw with rfl | hw
    · decide
    · exact hm w (by simp [hw])
theorem ok_l_writes (T : Txt K mg) : FnOk P w K mg base CX0 2 T.d_writes.f T.d_writes.fd ["_law_text_here"] (SpF K spWrites) := by
  refine T.d_writes.F.ok sc_l_writes (SpF.len fun ds M q e ⟨l, h, _⟩ => by rw [h]; rfl) (fun cdv A outer s H vs Q E hr h => ?_)
  have nd := sc_l_writes.nd
  have hu64 := hr.units
  have hu65 := room65 hr
  refine ⟨_, (pss_cons (ps_set (i := 1) nd rfl (by first | exact Or.inl rfl | exact Or.inr rfl) (pe_f (ok_l_words T) (hr.mono (by omega)) (pa_cons (pv 0) pa_nil)))
      (pss_cons (ps_if (pt_cmpR op_isN (pv 1) pe_non (nomark _)) (pss_one (ps_ret pe_bl)) pss_nil)
      (pss_cons (ps_set (i := 2) nd rfl (by first | exact Or.inl rfl | exact Or.inr rfl) pe_int)
      (pss_cons (ps_for PassesOwn.never rfl (pi_U (pv 1)) (pg_name (i := 3) nd rfl (by first | exact Or.inl rfl | exact Or.inr rfl)) (pss_cons (ps_set (i := 2) nd rfl (by first | exact Or.inl rfl | exact Or.inr rfl) (pe_op op_sub (pe_op op_addU (pv 2) (pe_callTy call_int1 (by rfl) T.m_int (by decide +kernel) (pa_cons (pe_cmpR (op_eqU hu64) (pv 3) pe_str (nomark _)) pa_nil))) (pe_callTy call_int1 (by rfl) T.m_int (by decide +kernel) (pa_cons (pe_cmpR (op_eqU hu64) (pv 3) pe_str (nomark _)) pa_nil))))
      (pss_one (ps_if (pt_cmpR op_gt (pv 2) pe_int (nomark _)) (pss_one (ps_ret pe_bl)) pss_nil))))
      (pss_cons (ps_setLc (i := 1) (own := [("_law_word", 3)]) (g := gName 3) (by rfl) nd rfl rfl (sw_true rfl rfl rfl (by decide +kernel)) (pi_U (pv 1)) (blkOk_by (own := [("_law_word", 3)]) (N := ["_law_text_here", "_law_words_here", "_law_open_here", "_law_word"]) (sc := defScope s_l_writes) (by decide +kernel)) (fun _ _ _ _ _ => (pg_name (i := 3) nd rfl (by first | exact Or.inl rfl | exact Or.inr rfl))) (fun _ _ _ _ _ => pts_nil) (fun _ _ _ _ _ => (pe_cast (pe_ix ix_seq (pe_lst (pa_cons (pv 3) (pa_cons pe_str pa_nil))) (pe_callTy call_int1 (by rfl) T.m_int (by decide +kernel) (pa_cons (pe_cmpR (op_inU hu65) (pv 3) (pe_tup (pa_cons pe_str (pa_cons pe_str pa_nil))) (by rfl)) pa_nil)) (fun _ _ => rfl)) (by dsimp only [blkK] <;> exact rfl))))
      (pss_cons (ps_while PassesOwn.never (PW.pt (pw_and (pt_cmpR op_notN (pv 1) pe_non (nomark _)) (pw_and1 (pt_cmpR (op_neU hu64) (pv 1) (pe_lst (pa_cons pe_str pa_nil)) (nomark _))))) (pss_one (ps_set (i := 1) nd rfl (by first | exact Or.inl rfl | exact Or.inr rfl) (pe_f (ok_l_lesser T) (hr.mono (by omega)) (pa_cons (pv 1) pa_nil)))))
      (pss_one (ps_ret (pe_cmpR op_notN (pv 1) pe_non (nomark _)))))))))), body_run h fun C ds M q e he hs => ?_⟩
  obtain ⟨l, rfl, rfl, hl, h1⟩ := hs
  show WS K C _ [some (.str (S l)), none, none, none] _ _
  dsimp only [cxOf, Cx.nox, Cx.wish]
  have no : ¬ (∃ t, rd l = some t) → q (.bl false) [] := fun h => by
    cases e : rd l with
    | none => rw [e] at h1; exact h1
    | some t => exact absurd ⟨t, e⟩ h
  have yes : (∃ t, rd l = some t) → q (.bl true) [] := fun ⟨t, e⟩ => by rw [e] at h1; exact h1
  walk_at "sy"
  refine cl_pure ⟨l, rfl, rfl, hl, fun ws hw => ⟨rfl, ?_⟩, fun hw => ⟨rfl, ?_⟩⟩
  · obtain ⟨hlen, hm⟩ := toksL_len hw
    have iff : (∃ t, rd l = some t) ↔ okD 0 ws = true ∧ Pt (ws.map sgW) := ⟨fun h => by
      obtain ⟨ws', h2, h3⟩ := writes_iff.mp h
      rw [hw] at h2
      cases h2
      exact h3, fun h => writes_iff.mpr ⟨ws, hw, h⟩⟩
    walk_at "sy"
    refine ws_for (wi_U_l ?_)
    walk_at "sy"
    refine ⟨_, rfl, fun i L M => ∃ (o : Int) (x3 : Option Dat), L = [some (.str (S l)), some (.lst (wl ws)), some (.int o), x3] ∧ M = [] ∧ o ≤ 8 ∧ okD 0 ws = okD o (ws.drop i), ⟨0, none, rfl, rfl, by omega, rfl⟩, ?_, ?_⟩
    · rintro i x L M hx ⟨o, x3, rfl, rfl, ho, hk⟩
      obtain ⟨w0, rfl, hw0⟩ := wl_get hx
      have hdr : ws.drop i = w0 :: ws.drop (i + 1) := by
        obtain ⟨h3, h4⟩ := List.getElem?_eq_some_iff.mp hw0
        rw [← h4]
        exact List.drop_eq_getElem_cons h3
      have hk2 : okD o (w0 :: ws.drop (i + 1)) = if o + (if w0 = wO then 1 else 0) - (if w0 = wC then 1 else 0) > 8 then false else okD (o + (if w0 = wO then 1 else 0) - (if w0 = wC then 1 else 0)) (ws.drop (i + 1)) := by
        conv => lhs; unfold okD
      rw [hdr, hk2] at hk
      have ifO : (if decide (S w0 = S (Sy.T "(")) = true then (1 : Int) else 0) = if w0 = wO then 1 else 0 := by
        by_cases e : w0 = wO
        · subst e; simp
        · rw [if_neg e, if_neg]
          rw [decide_eq_true_eq]
          exact fun z => e (S_inj z)
      have ifC : (if decide (S w0 = S (Sy.T ")")) = true then (1 : Int) else 0) = if w0 = wC then 1 else 0 := by
        by_cases e : w0 = wC
        · subst e; simp
        · rw [if_neg e, if_neg]
          rw [decide_eq_true_eq]
          exact fun z => e (S_inj z)
      walk_at "sy"
      all_goals rw [ifO, ifC] at *
      · rename_i hgt
        rw [if_pos hgt] at hk
        refine .ret (no fun h => ?_)
        rw [(iff.mp h).1] at hk
        cases hk
      · rename_i hgt
        rw [if_neg hgt] at hk
        exact ⟨_, _, rfl, rfl, by omega, hk⟩
    · rintro L M ⟨o, x3, rfl, rfl, ho, hk⟩
      have hk : okD 0 ws = true := by rw [hk, wl_len, List.drop_length]; rfl
      walk_at "sy"
      refine we_lc tgt_name (wi_U_l ?_)
      walk_at "sy"
      refine ⟨_, rfl, fun i acc M => acc = wl ((ws.take i).map sgW), rfl, by rw [wl_len]; omega, ?_, ?_⟩
      · rintro i x acc M hx rfl F
        obtain ⟨w0, rfl, hw0⟩ := wl_get hx
        have hm0 := hm w0 (List.mem_of_getElem? hw0)
        have et : wl ((ws.take i).map sgW) ++ [Dat.str (S (sgW w0))] = wl ((ws.take (i + 1)).map sgW) := by
          rw [List.take_succ, hw0, List.map_append, ← wl_app]
          rfl
        dsimp only [wipeL, List.map, List.set]
        walk_at "sy"
        refine wt_yes ⟨fun _ => ?_, fun z => (nomatch z)⟩
        walk_at "sy"
        refine wr_in_2s w0 tLevel tUpright (ok_menu hm0) (ok_menu (by decide)) (ok_menu (by decide)) ?_
        have e1 : decide (w0 = tLevel ∨ w0 = tUpright) = true ∨ decide (w0 = tLevel ∨ w0 = tUpright) = false := by cases decide (w0 = tLevel ∨ w0 = tUpright) <;> simp
        rcases e1 with e1 | e1
        · rw [e1]
          have e2 : sgW w0 = tSingle := by unfold sgW; rw [if_pos (of_decide_eq_true e1)]
          rw [e2] at et
          walk_at "sy"
          exact et
        · rw [e1]
          have e2 : sgW w0 = w0 := by unfold sgW; rw [if_neg (of_decide_eq_false e1)]
          rw [e2] at et
          walk_at "sy"
          exact et
      · rintro acc M rfl p
        rw [wl_len, List.take_length]
        walk_at "sy"
        refine WS.fz (i := 1) rfl .here ?_
        dsimp only [List.set]
        refine ws_while (fun m L M => (∃ vs, L = [some (.str (S l)), some (.lst (wl vs)), some (.int o), x3] ∧ m = vs.length + 1 ∧ vs.length ≤ 1000 ∧ (∀ w ∈ vs, w ∈ menu) ∧ Cl1 vs ∧ (Pt vs ↔ Pt (ws.map sgW))) ∨ (L = [some (.str (S l)), some .non, some (.int o), x3] ∧ m = 0 ∧ ¬ Pt (ws.map sgW))) ((ws.map sgW).length + 1) (.inl ⟨ws.map sgW, rfl, rfl, by rw [List.length_map]; omega, menu_sg hm, cl1_sg ws, Iff.rfl⟩) ?_
        rintro m L M (⟨vs, rfl, rfl, hl2, hm2, hc2, hp2⟩ | ⟨rfl, rfl, hp2⟩)
        · walk_at "sy"
          refine wr_ne_w vs [tSingle] .dat (by walk_at "lst") (ok_menuL hm2) (ok_menuL (by decide)) (bl_ (br_ndec (fun hne => ?_) fun he => ?_))
          · walk_at "sy"
            refine cl_pure ⟨vs, rfl, rfl, hl2, hm2, fun us hu => ⟨rfl, ?_⟩, fun hu => ⟨rfl, ?_⟩⟩
            · walk_at "sy"
              have hlt := less_len hu
              exact ⟨us.length + 1, by omega, .inl ⟨us, rfl, rfl, by omega, less_menu hu hm2, less_cl hu hc2, (less_pt hu).trans hp2⟩⟩
            · walk_at "sy"
              exact ⟨0, by omega, .inr ⟨rfl, rfl, fun h => hne (pt_end hu hc2 (hp2.mpr h))⟩⟩
          · walk_at "sy"
            refine Fin.nil (yes (iff.mpr ⟨hk, hp2.mp ?_⟩)) _
            rw [he]
            exact pt_one
        · walk_at "sy"
          exact Fin.nil (no fun h => hp2 (iff.mp h).2) _
  · walk_at "sy"
    refine .ret (no fun h => ?_)
    obtain ⟨ws, h2, _⟩ := writes_iff.mp h
    rw [hw] at h2
    cases h2
def spRefused (T : Txt K mg) : AS := fun ds M q e => (∃ l, ds = [.str (S l)] ∧ M = [] ∧ l.length ≤ 1000 ∧ q (.bl (!(rd l).isSome)) []) ∨
  ∃ x t, ds = [x] ∧ IsTy M x t ∧ PySem.W.kitOne K t (.type "str") = some false ∧ q (.bl true) M
local macro_rules | `(tactic| walk_at "own") => `(tactic| ((with_reducible apply we_xf); (refine we_var rfl ⟨_, _, rfl, rfl, ?_⟩)))
theorem ok_l_refused (T : Txt K mg) : FnOk P w K mg base CX0 23 T.d_refused.f T.d_refused.fd ["_law_text_here"] (SpF K (spRefused T)) := by
  refine T.d_refused.F.ok sc_l_refused (SpF.len fun ds M q e hh => by rcases hh with ⟨l, z, _⟩ | ⟨x, t, z, _⟩ <;> (rw [z]; rfl)) (fun cdv A outer s H vs Q E hr h => ?_)
  have nd := sc_l_refused.nd
  have hu64 := hr.units
  refine ⟨_, (pss_cons (ps_set (i := 1) nd rfl (by first | exact Or.inl rfl | exact Or.inr rfl) pe_bl)
      (pss_cons (ps_tryF (i := 2) rfl rfl nd rfl rfl ⟨rfl, by decide, .inl T.g_TangleError⟩ takes0 (fun W pn xe tk po => (pss_cast (pss_one (ps_expr (pe_fS (ok_read_part T) (hr.mono (by omega)) (fun σ => passAt tk σ) (pa_cons (pv 0) pa_nil)))) (by dsimp only [trK] <;> exact rfl))) (fun a oe cls d pn hz hf => (pss_cast (pss_cons (ps_set (i := 1) nd rfl (by first | exact Or.inl rfl | exact Or.inr rfl) (pe_and (pe_callB (call_isX hz hf) (by rfl) T.m_isinstance (by decide +kernel) (pa_cons (pv 2) (pa_cons (pe_glob (v := .ref _) rfl T.g_NoText rfl) pa_nil))) (pe_and (pe_callB (call_isX hz hf) (by rfl) T.m_isinstance (by decide +kernel) (pa_cons (pv 2) (pa_cons (pe_bltn (v := .ty "ValueError") (by rfl) T.m_ValueError (by decide +kernel) rfl) pa_nil))) (pe_one (pe_cmpR (op_eqU hu64) (pe_xf T.xf_NoText T.no_NoText_at hz hf (pv 2)) pe_int (nomark _))))))
      (pss_one (ps_if (PW.pt (pw_or (pt_val (pe_callB (call_isX hz hf) (by rfl) T.m_isinstance (by decide +kernel) (pa_cons (pv 2) (pa_cons (pe_glob (v := .ref _) rfl T.g_NoWeb rfl) pa_nil)))) (pw_or (pt_val (pe_callB (call_isX hz hf) (by rfl) T.m_isinstance (by decide +kernel) (pa_cons (pv 2) (pa_cons (pe_glob (v := .ref _) rfl T.g_Odd rfl) pa_nil)))) (pw_or1 (pt_val (pe_callB (call_isX hz hf) (by rfl) T.m_isinstance (by decide +kernel) (pa_cons (pv 2) (pa_cons (pe_glob (v := .ref _) rfl T.g_NotFlat rfl) pa_nil)))))))) (pss_one (ps_set (i := 1) nd rfl (by first | exact Or.inl rfl | exact Or.inr rfl) pe_bl)) pss_nil))) (by dsimp only [suiteK] <;> exact rfl))))
      (pss_one (ps_ret (pv 1))))), body_run h fun C ds M q e he hs => ?_⟩
  dsimp only [cxOf, Cx.nox, Cx.wish]
  rcases hs with ⟨l, rfl, rfl, hl, h1⟩ | ⟨x, t, rfl, hty, hk, h2⟩
  · show WS K C _ [some (.str (S l)), none, none] _ _
    walk_at "sy"
    refine ws_try (fun z L1 M1 => z = nt T ∧ rd l = none ∧ L1 = [some (.str (S l)), some (.bl false), none] ∧ M1 = []) (fun _ _ _ => False) ?_ ?_ XW.none
    · intro G1 hG W hx
      walk_at "sy"
      refine cl_pureX (.inl ⟨l, rfl, rfl, by omega, fun t ht => ⟨rfl, ?_⟩, fun hn => ⟨rfl, rfl, hn, rfl, rfl⟩⟩)
      show WS K C _ _ _ _
      walk_at "sy"
      rw [ht] at h1
      exact .ret h1
    · rintro z L1 M1 ⟨rfl, hn, rfl, rfl⟩
      refine ⟨true, T.em, fun _ a d => ?_, fun z => (nomatch z)⟩
      rw [hn] at h1
      dsimp only [List.set, nt]
      walk_at "sy"
      refine wc_isX T.ex_NoText (.inl ⟨_, rfl, rfl⟩) (by simp) T.kNT ?_
      walk_at "sy"
      refine wc_isX T.ex_NoText (.inr ⟨_, rfl, rfl⟩) (by simp) T.kVE ?_
      walk_at "sy"
      refine wc_isX T.ex_NoText (.inl ⟨_, rfl, rfl⟩) (by simp) T.kNW ?_
      walk_at "sy"
      refine wc_isX T.ex_NoText (.inl ⟨_, rfl, rfl⟩) (by simp) T.kOd ?_
      walk_at "sy"
      refine wc_isX T.ex_NoText (.inl ⟨_, rfl, rfl⟩) (by simp) T.kNF ?_
      walk_at "sy"
      exact .ret h1

  · show WS K C _ [some x, none, none] _ _
    walk_at "sy"
    refine ws_try (fun z L1 M1 => z = nt T ∧ L1 = [some x, some (.bl false), none] ∧ M1 = M) (fun _ _ _ => False) ?_ ?_ XW.none
    · intro G1 hG W hx
      walk_at "sy"
      exact ⟨M, [], fun _ _ => False, fun z M1 => z = nt T ∧ M1 = M, by simp, .inr ⟨x, t, rfl, hty, hk, rfl, rfl⟩, fun _ _ z => z.elim, fun z M1 ⟨e1, e2⟩ => ⟨e1, rfl, by rw [e2, List.append_nil]⟩⟩
    · rintro z L1 M1 ⟨rfl, rfl, rfl⟩
      refine ⟨true, T.em, fun _ a d => ?_, fun z => (nomatch z)⟩
      dsimp only [List.set, nt]
      walk_at "sy"
      refine wc_isX T.ex_NoText (.inl ⟨_, rfl, rfl⟩) (by simp) T.kNT ?_
      walk_at "sy"
      refine wc_isX T.ex_NoText (.inr ⟨_, rfl, rfl⟩) (by simp) T.kVE ?_
      walk_at "sy"
      refine wc_isX T.ex_NoText (.inl ⟨_, rfl, rfl⟩) (by simp) T.kNW ?_
      walk_at "sy"
      refine wc_isX T.ex_NoText (.inl ⟨_, rfl, rfl⟩) (by simp) T.kOd ?_
      walk_at "sy"
      refine wc_isX T.ex_NoText (.inl ⟨_, rfl, rfl⟩) (by simp) T.kNF ?_
      walk_at "sy"
      exact .ret h2

theorem repL_ints {K : PySem.W.Frag} {G : Hp} : ∀ ns : List Int, RepL K G (ns.map V.int) (ns.map Dat.int)
  | [] => .nil
  | n :: ns => .cons (.int n) (repL_ints ns)
def spLaw : AS := fun ds M q e => ∃ ns : List Int, ds = [.lst (ns.map Dat.int)] ∧ M = [] ∧ ns.length ≤ 1000 ∧ q (.bl true) []
theorem ok_law (T : Txt K mg) {f : Addr} {fd : FuncData} (F : Fun K "law" "law" s_law f fd) : FnOk P w K mg base CX0 40 f fd ["_law_script"] (SpF K spLaw) := by
  refine F.ok sc_law (SpF.len fun ds M q e ⟨ns, h, _⟩ => by rw [h]; rfl) (fun cdv A outer s H vs Q E hr h => ?_)
  have nd := sc_law.nd
  have hu64 := hr.units
  have ih := u_written (P := P) (w := w) (base := base) T 9
  refine ⟨_, (pss_cons (ps_for PassesOwn.never rfl (pi_U (pe_op op_addU (pe_lst (pa_cons pe_int pa_nil)) (pe_slice sl_U (pv 0) po_none (po_some pe_int)))) (pg_name (i := 1) nd rfl (by first | exact Or.inl rfl | exact Or.inr rfl)) (pss_cons (ps_set (i := 2) nd rfl (by first | exact Or.inl rfl | exact Or.inr rfl) (pe_f (ok_l_text T) (hr.mono (by omega)) (pa_cons (pe_lst (pa_cons (pv 1) (pa_cons pe_int pa_nil))) pa_nil)))
      (pss_cons (ps_if (PW.pt (pw_and (pt_val (pe_f (ok_l_writes T) (hr.mono (by omega)) (pa_cons (pv 2) pa_nil))) (pw_and1 (pt_cmpR (op_neU hu64) (pe_methU0 ih (pe_fS (ok_read_part T) (hr.mono (by omega)) passL0 (pa_cons (pv 2) pa_nil)) (hr.mono (by omega)) (fun σ => passE0)) (pv 2) (nomark _))))) (pss_one (ps_ret pe_bl)) pss_nil)
      (pss_one (ps_if (PW.pt (pw_and (pt_not (pt_val (pe_f (ok_l_writes T) (hr.mono (by omega)) (pa_cons (pv 2) pa_nil)))) (pw_and1 (pt_not (pt_val (pe_f (ok_l_refused T) (hr.mono (by omega)) (pa_cons (pv 2) pa_nil))))))) (pss_one (ps_ret pe_bl)) pss_nil)))))
      (pss_cons (ps_for PassesOwn.never rfl (pi_U (pe_lst (pa_cons pe_non (pa_cons pe_int (pa_cons pe_bl (pa_cons (pe_tup pa_nil) (pa_cons (pe_lst (pa_cons pe_str pa_nil)) (pa_cons pe_dnewK pa_nil)))))))) (pg_name (i := 3) nd rfl (by first | exact Or.inl rfl | exact Or.inr rfl)) (pss_one (ps_if (pt_not (pt_val (pe_f (ok_l_refused T) (hr.mono (by omega)) (pa_cons (pv 3) pa_nil)))) (pss_one (ps_ret pe_bl)) pss_nil)))
      (pss_one (ps_ret pe_bl)))), body_run h fun C ds M q e he hs => ?_⟩
  dsimp only [cxOf, Cx.nox, Cx.wish]
  obtain ⟨ns, rfl, rfl, hl, hq⟩ := hs
  show WS K C _ [some (.lst (ns.map Dat.int)), none, none, none] _ _
  have kc : (cut (ns.map Dat.int) none (some 6)).length ≤ 1000 := Nat.le_trans (cut_len _ _ _) (by rw [List.length_map]; exact hl)
  have kd : ∀ d ∈ [Dat.int 0] ++ cut (ns.map Dat.int) none (some 6), ∃ c, d = .int c := fun d hd => by
    rcases List.mem_append.mp hd with h | h
    · exact ⟨0, List.mem_singleton.mp h⟩
    · unfold cut at h
      obtain ⟨c, _, h⟩ := List.mem_map.mp (List.mem_of_mem_drop (List.mem_of_mem_take h))
      exact ⟨c, h.symm⟩
  walk_at "sy"
  refine ws_for (wi_U_l (WE.fz ?_))
  walk_at "sy"
  refine ⟨_, _, _, rfl, .here, _, rfl, fun i L M => ∃ x1 x2 x3, L = [some (.lst (ns.map Dat.int)), x1, x2, x3], ⟨_, _, _, rfl⟩, ?_, ?_⟩
  · rintro i x L M hx ⟨x1, x2, x3, rfl⟩
    obtain ⟨c, rfl⟩ := kd x (List.mem_of_getElem? hx)
    walk_at "sy"
    rename_i p
    refine ⟨[(p, .lst [.int c, .int 0])], M, fun r M2 => (∃ l : List Nat, r = .str (S l) ∧ l.length ≤ 1000) ∧ M2 = [], fun _ _ => False, List.Perm.refl _, ⟨p, c, rfl, rfl, fun l hl => ⟨⟨l, rfl, hl⟩, rfl⟩⟩, ?_, fun _ _ z => z.elim⟩
    rintro r M' ⟨⟨l, rfl, hl2⟩, rfl⟩
    have nx : ∃ y1 y2 y3, [some (Dat.lst (ns.map Dat.int)), some (Dat.int c), some (Dat.str (S l)), x3] = [some (Dat.lst (ns.map Dat.int)), y1, y2, y3] := ⟨_, _, _, rfl⟩
    walk_at "sy"
    refine cl_pure ⟨l, rfl, rfl, hl2, rfl, ?_⟩
    cases hrd : rd l with
    | some t =>
      obtain ⟨hre, hdp⟩ := rd_iff.mp hrd
      rw [show (some t).isSome = true from rfl]
      walk_at "sy"
      refine we_written (n := 8) hdp (by omega) (we_callS0 XW.none ?_)
      walk_at "sy"
      refine cl_pureX (.inl ⟨l, rfl, rfl, by omega, fun t' ht => ⟨rfl, ?_⟩, fun hn => by rw [hrd] at hn; cases hn⟩)
      rw [hrd] at ht
      cases ht
      refine ⟨rfl, ?_⟩
      rw [← hre]
      walk_at "sy"
      · rename_i hne
        exact absurd rfl hne
      · refine cl_pure ⟨l, rfl, rfl, hl2, rfl, ?_⟩
        rw [hrd, show (some t).isSome = true from rfl]
        walk_at "sy"
        all_goals first
        | exact nx
        | (rename_i z; exact absurd z (by decide))
    | none =>
      rw [show (none : Option Tr).isSome = false from rfl]
      walk_at "sy"
      refine cl_pure ⟨l, rfl, rfl, hl2, rfl, ?_⟩
      rw [hrd, show (none : Option Tr).isSome = false from rfl]
      walk_at "sy"
      refine cl_pure (.inl ⟨l, rfl, rfl, hl2, rfl, ?_⟩)
      rw [hrd, show (!(none : Option Tr).isSome) = true from rfl]
      walk_at "sy"
      all_goals first
        | exact nx
        | (rename_i z; exact absurd z (by decide))
  · rintro L M ⟨x1, x2, x3, rfl⟩
    walk_at "sy"
    refine ws_for (wi_U_l (WE.fz ?_))
    walk_at "sy"
    rename_i pl pd pp
    refine ⟨_, _, _, rfl, .here, _, rfl, fun i L M2 => ∃ x1 x2 x3, L = [some (.lst (ns.map Dat.int)), x1, x2, x3] ∧ M2 = (pd, .dK []) :: (pl, .lst [.str (S (Sy.T "single"))]) :: M, ⟨_, _, _, rfl, rfl⟩, ?_, ?_⟩
    · rintro i x L M2 hx ⟨x1, x2, x3, rfl, rfl⟩
      have hk : ∃ t, IsTy ((pd, .dK []) :: (pl, .lst [.str (S (Sy.T "single"))]) :: M) x t ∧ PySem.W.kitOne K t (.type "str") = some false := by
        match i, hx with
        | 0, hx => cases hx; exact ⟨_, .inr (.inr (.inr (.inl ⟨rfl, rfl⟩))), T.ks1⟩
        | 1, hx => cases hx; exact ⟨_, .inl ⟨_, rfl, rfl⟩, T.ks2⟩
        | 2, hx => cases hx; exact ⟨_, .inr (.inr (.inl ⟨_, rfl, rfl⟩)), T.ks3⟩
        | 3, hx => cases hx; exact ⟨_, .inr (.inr (.inr (.inr (.inr ⟨_, rfl, rfl⟩)))), T.ks4⟩
        | 4, hx => cases hx; exact ⟨_, .inr (.inr (.inr (.inr (.inl ⟨_, rfl, .inl ⟨rfl, _, _, .there .here⟩⟩)))), T.ks5⟩
        | 5, hx => cases hx; exact ⟨_, .inr (.inr (.inr (.inr (.inl ⟨_, rfl, .inr ⟨rfl, _, _, .here⟩⟩)))), T.ks6⟩
        | n + 6, hx => cases hx
      obtain ⟨t, hty, hks⟩ := hk
      walk_at "sy"
      refine ⟨_, [], fun r M3 => r = .bl true ∧ M3 = (pd, .dK []) :: (pl, .lst [.str (S (Sy.T "single"))]) :: M, fun _ _ => False, by rw [List.append_nil], .inr ⟨x, t, rfl, hty, hks, rfl, rfl⟩, ?_, fun _ _ z => z.elim⟩
      rintro r M3 ⟨rfl, rfl⟩
      rw [List.append_nil]
      walk_at "sy"
      all_goals first
        | (rename_i z; exact absurd z (by decide))
        | exact ⟨_, _, _, rfl, rfl⟩
    · rintro L M2 ⟨x1, x2, x3, rfl, rfl⟩
      walk_at "sy"
      exact Fin.nil hq _
theorem law_sp {H : Hp} {a : Addr} {ns : List Int} (hl : ns.length ≤ 63) (hS : SqL K H a (ns.map V.int)) : SpF K spLaw [.ref a] H (fun v _ => v = .bl true) fun _ _ _ => False :=
  ⟨H, [.lst (ns.map Dat.int)], [], [], fun d _ => d = .bl true, fun _ _ => False, ⟨fun _ _ e => e, fun _ h => (nomatch h), List.nodup_nil⟩, .cons (.lst hS (repL_ints ns)) .nil, ⟨ns, rfl, rfl, by omega, rfl⟩, fun v d G' M' H' _ _ c z => by
    subst z
    cases c
    rfl, fun _ _ _ _ _ _ _ _ z => z.elim⟩
end
end K61

/-! k61: what the top has written; the law's own head. -/
namespace Sy
open PySem PySem.Spec PyProof.Rows L2 TL
theorem exm_of {K : PySem.W.Frag} {N C : Addr} {b : Bool} (e : PySem.W.subIn K (.ref C) (.type "BaseException") = some true) (i : PySem.W.isClsIn K C = true) (t : PySem.W.typeIn K (.ref C) = some (.type "type")) (s : PySem.W.subIn K (.ref N) (.ref C) = some b) : PySem.W.exmOne K (.ref N) (.ref C) = some b := by
  have i' : (PySem.W.clsIn K C).isSome = true := i
  unfold PySem.W.exmOne PySem.W.kitCls
  simp only [e, i', t, s]
  rfl
theorem kit_ref {K : PySem.W.Frag} {N C : Addr} {b : Bool} (n : (Value.ref N == Value.ref C) = false) (i : PySem.W.isClsIn K C = true) (t : PySem.W.typeIn K (.ref C) = some (.type "type")) (s : PySem.W.subIn K (.ref N) (.ref C) = some b) : PySem.W.kitOne K (.ref N) (.ref C) = some b := by
  have i' : (PySem.W.clsIn K C).isSome = true := i
  unfold PySem.W.kitOne PySem.W.kitCls
  simp only [n, i', t, s]
  rfl
theorem kit_ty {K : PySem.W.Frag} {v : Value} {T : String} {b : Bool} (n : (v == Value.type T) = false) (m : PySem.W.kitMeta T = true) (s : PySem.W.subIn K v (.type T) = some b) : PySem.W.kitOne K v (.type T) = some b := by
  unfold PySem.W.kitOne PySem.W.kitCls
  simp only [n, m, s]
  rfl
theorem defat {K : PySem.W.Frag} {h : Heap} {mg : Str → Option Value} {x : Str} {st : Stmt} {ps : List Str} {f : Addr} {oc : Value} {od an : Option Addr} {osl : Array (Option Value)} {kV doc pm cdv ct : Value} (X : K.In h) (G : h.Ns mainGlobals mg)
    (a : PySem.W.nsIn K mainGlobals x = some (some (.ref f))) (l : K.lookup f = some ⟨oc, od, .func (PySem.W.fnOf x x (defArgs st) (defBody st) (defScope st) .none kV doc pm an cdv ct), osl⟩) (c : PySem.W.codeIn K cdv x = true) (k : PySem.W.keepIn K (.ref f) = true)
    (b : ∀ (kV doc pm : Value) (an : Option Addr) (cdv ct : Value) (us : List Value), us.length = ps.length → bindArgs (PySem.W.fnOf x x (defArgs st) (defBody st) (defScope st) .none kV doc pm an cdv ct) ⟨us, []⟩ = pure (ps.zip us)) : Nonempty (DefAt K mg x st ps) :=
  ⟨⟨f, _, fun_mk l c k, PySem.W.mg_of X G a, (fun_mk (st := st) l c k).binds b⟩⟩
end Sy
namespace K61
open PySem PySem.Spec PyProof.Rows L2 TL Sy

theorem all_mk {P : Program} {w : World} {K : PySem.W.Frag} {h : Heap} {mg : Str → Option Value} {fa : Addr} (X : K.In h) (G : h.Ns mainGlobals mg) (hfa : mg "law" = some (.ref fa))
    {fL : Addr} {ocL : Value} {odL anL : Option Addr} {slL : Array (Option Value)} {kVL dcL pmL cdL ctL : Value}
    {f_cut_off : Addr} {oc_cut_off : Value} {od_cut_off an_cut_off : Option Addr} {sl_cut_off : Array (Option Value)} {kV_cut_off dc_cut_off pm_cut_off cd_cut_off ct_cut_off : Value}
    {f_whole_part : Addr} {oc_whole_part : Value} {od_whole_part an_whole_part : Option Addr} {sl_whole_part : Array (Option Value)} {kV_whole_part dc_whole_part pm_whole_part cd_whole_part ct_whole_part : Value}
    {f_turned_part : Addr} {oc_turned_part : Value} {od_turned_part an_turned_part : Option Addr} {sl_turned_part : Array (Option Value)} {kV_turned_part dc_turned_part pm_turned_part cd_turned_part ct_turned_part : Value}
    {f_joined_part : Addr} {oc_joined_part : Value} {od_joined_part an_joined_part : Option Addr} {sl_joined_part : Array (Option Value)} {kV_joined_part dc_joined_part pm_joined_part cd_joined_part ct_joined_part : Value}
    {f_part_from : Addr} {oc_part_from : Value} {od_part_from an_part_from : Option Addr} {sl_part_from : Array (Option Value)} {kV_part_from dc_part_from pm_part_from cd_part_from ct_part_from : Value}
    {f_read_part : Addr} {oc_read_part : Value} {od_read_part an_read_part : Option Addr} {sl_read_part : Array (Option Value)} {kV_read_part dc_read_part pm_read_part cd_read_part ct_read_part : Value}
    {f_take : Addr} {oc_take : Value} {od_take an_take : Option Addr} {sl_take : Array (Option Value)} {kV_take dc_take pm_take cd_take ct_take : Value}
    {f_tree_text : Addr} {oc_tree_text : Value} {od_tree_text an_tree_text : Option Addr} {sl_tree_text : Array (Option Value)} {kV_tree_text dc_tree_text pm_tree_text cd_tree_text ct_tree_text : Value}
    {f_text : Addr} {oc_text : Value} {od_text an_text : Option Addr} {sl_text : Array (Option Value)} {kV_text dc_text pm_text cd_text ct_text : Value}
    {f_words : Addr} {oc_words : Value} {od_words an_words : Option Addr} {sl_words : Array (Option Value)} {kV_words dc_words pm_words cd_words ct_words : Value}
    {f_lesser : Addr} {oc_lesser : Value} {od_lesser an_lesser : Option Addr} {sl_lesser : Array (Option Value)} {kV_lesser dc_lesser pm_lesser cd_lesser ct_lesser : Value}
    {f_writes : Addr} {oc_writes : Value} {od_writes an_writes : Option Addr} {sl_writes : Array (Option Value)} {kV_writes dc_writes pm_writes cd_writes ct_writes : Value}
    {f_refused : Addr} {oc_refused : Value} {od_refused an_refused : Option Addr} {sl_refused : Array (Option Value)} {kV_refused dc_refused pm_refused cd_refused ct_refused : Value}
    {tMO : Tok}
    {Clevel : Addr}
    {Cupright : Addr}
    {Csingle : Addr}
    {Cbeside : Addr}
    {Cabove : Addr}
    {Cturned : Addr}
    {Cmirrored : Addr}
    {fI TT : Addr} {ocI : Value} {odI anI : Option Addr} {slI : Array (Option Value)} {kVI dcI pmI cdI ctI : Value} {tc : Value} {td : Option Addr} {its : Array Value} {tn : Nat} {ts : Array (Option Value)}
    {fwlevel : Addr} {ocwlevel : Value} {odwlevel anwlevel : Option Addr} {slwlevel : Array (Option Value)} {kVwlevel dcwlevel pmwlevel cdwlevel ctwlevel : Value}
    {fwupright : Addr} {ocwupright : Value} {odwupright anwupright : Option Addr} {slwupright : Array (Option Value)} {kVwupright dcwupright pmwupright cdwupright ctwupright : Value}
    {fwsingle : Addr} {ocwsingle : Value} {odwsingle anwsingle : Option Addr} {slwsingle : Array (Option Value)} {kVwsingle dcwsingle pmwsingle cdwsingle ctwsingle : Value}
    {fwbeside : Addr} {ocwbeside : Value} {odwbeside anwbeside : Option Addr} {slwbeside : Array (Option Value)} {kVwbeside dcwbeside pmwbeside cdwbeside ctwbeside : Value}
    {fwabove : Addr} {ocwabove : Value} {odwabove anwabove : Option Addr} {slwabove : Array (Option Value)} {kVwabove dcwabove pmwabove cdwabove ctwabove : Value}
    {fwturned : Addr} {ocwturned : Value} {odwturned anwturned : Option Addr} {slwturned : Array (Option Value)} {kVwturned dcwturned pmwturned cdwturned ctwturned : Value}
    {fwmirrored : Addr} {ocwmirrored : Value} {odwmirrored anwmirrored : Option Addr} {slwmirrored : Array (Option Value)} {kVwmirrored dcwmirrored pmwmirrored cdwmirrored ctwmirrored : Value}
    {fWr : Addr} {ocWr : Value} {odWr anWr : Option Addr} {slWr : Array (Option Value)} {kVWr dcWr pmWr cdWr ctWr : Value}
    {cNT cTE cNW cOd cNF : Addr}
    {xnm xq : Str} {xN : Addr} {xbs xbm : List Value} {xsn : List Str} {xsub : List Value} {xab : Bool} {xcol : Option Bool} {xdd : Option Addr} {x0 x1 x2 x3 x5 : Option Value}
    {fX : Addr} {ocX : Value} {odX anX : Option Addr} {slX : Array (Option Value)} {kVX dcX pmX cdX ctX : Value}
    (aL : PySem.W.nsIn K mainGlobals "law" = some (some (.ref fL)))
    (lL : K.lookup fL = some ⟨ocL, odL, .func (PySem.W.fnOf "law" "law" (defArgs s_law) (defBody s_law) (defScope s_law) .none kVL dcL pmL anL cdL ctL), slL⟩)
    (cL : PySem.W.codeIn K cdL "law" = true)
    (kL : PySem.W.keepIn K (.ref fL) = true)
    (a_cut_off : PySem.W.nsIn K mainGlobals "cut_off" = some (some (.ref f_cut_off)))
    (l_cut_off : K.lookup f_cut_off = some ⟨oc_cut_off, od_cut_off, .func (PySem.W.fnOf "cut_off" "cut_off" (defArgs s_cut_off) (defBody s_cut_off) (defScope s_cut_off) .none kV_cut_off dc_cut_off pm_cut_off an_cut_off cd_cut_off ct_cut_off), sl_cut_off⟩)
    (c_cut_off : PySem.W.codeIn K cd_cut_off "cut_off" = true)
    (k_cut_off : PySem.W.keepIn K (.ref f_cut_off) = true)
    (a_whole_part : PySem.W.nsIn K mainGlobals "whole_part" = some (some (.ref f_whole_part)))
    (l_whole_part : K.lookup f_whole_part = some ⟨oc_whole_part, od_whole_part, .func (PySem.W.fnOf "whole_part" "whole_part" (defArgs s_whole_part) (defBody s_whole_part) (defScope s_whole_part) .none kV_whole_part dc_whole_part pm_whole_part an_whole_part cd_whole_part ct_whole_part), sl_whole_part⟩)
    (c_whole_part : PySem.W.codeIn K cd_whole_part "whole_part" = true)
    (k_whole_part : PySem.W.keepIn K (.ref f_whole_part) = true)
    (a_turned_part : PySem.W.nsIn K mainGlobals "turned_part" = some (some (.ref f_turned_part)))
    (l_turned_part : K.lookup f_turned_part = some ⟨oc_turned_part, od_turned_part, .func (PySem.W.fnOf "turned_part" "turned_part" (defArgs s_turned_part) (defBody s_turned_part) (defScope s_turned_part) .none kV_turned_part dc_turned_part pm_turned_part an_turned_part cd_turned_part ct_turned_part), sl_turned_part⟩)
    (c_turned_part : PySem.W.codeIn K cd_turned_part "turned_part" = true)
    (k_turned_part : PySem.W.keepIn K (.ref f_turned_part) = true)
    (a_joined_part : PySem.W.nsIn K mainGlobals "joined_part" = some (some (.ref f_joined_part)))
    (l_joined_part : K.lookup f_joined_part = some ⟨oc_joined_part, od_joined_part, .func (PySem.W.fnOf "joined_part" "joined_part" (defArgs s_joined_part) (defBody s_joined_part) (defScope s_joined_part) .none kV_joined_part dc_joined_part pm_joined_part an_joined_part cd_joined_part ct_joined_part), sl_joined_part⟩)
    (c_joined_part : PySem.W.codeIn K cd_joined_part "joined_part" = true)
    (k_joined_part : PySem.W.keepIn K (.ref f_joined_part) = true)
    (a_part_from : PySem.W.nsIn K mainGlobals "part_from" = some (some (.ref f_part_from)))
    (l_part_from : K.lookup f_part_from = some ⟨oc_part_from, od_part_from, .func (PySem.W.fnOf "part_from" "part_from" (defArgs s_part_from) (defBody s_part_from) (defScope s_part_from) .none kV_part_from dc_part_from pm_part_from an_part_from cd_part_from ct_part_from), sl_part_from⟩)
    (c_part_from : PySem.W.codeIn K cd_part_from "part_from" = true)
    (k_part_from : PySem.W.keepIn K (.ref f_part_from) = true)
    (a_read_part : PySem.W.nsIn K mainGlobals "read_part" = some (some (.ref f_read_part)))
    (l_read_part : K.lookup f_read_part = some ⟨oc_read_part, od_read_part, .func (PySem.W.fnOf "read_part" "read_part" (defArgs s_read_part) (defBody s_read_part) (defScope s_read_part) .none kV_read_part dc_read_part pm_read_part an_read_part cd_read_part ct_read_part), sl_read_part⟩)
    (c_read_part : PySem.W.codeIn K cd_read_part "read_part" = true)
    (k_read_part : PySem.W.keepIn K (.ref f_read_part) = true)
    (a_take : PySem.W.nsIn K mainGlobals "_law_take" = some (some (.ref f_take)))
    (l_take : K.lookup f_take = some ⟨oc_take, od_take, .func (PySem.W.fnOf "_law_take" "_law_take" (defArgs s_l_take) (defBody s_l_take) (defScope s_l_take) .none kV_take dc_take pm_take an_take cd_take ct_take), sl_take⟩)
    (c_take : PySem.W.codeIn K cd_take "_law_take" = true)
    (k_take : PySem.W.keepIn K (.ref f_take) = true)
    (a_tree_text : PySem.W.nsIn K mainGlobals "_law_tree_text" = some (some (.ref f_tree_text)))
    (l_tree_text : K.lookup f_tree_text = some ⟨oc_tree_text, od_tree_text, .func (PySem.W.fnOf "_law_tree_text" "_law_tree_text" (defArgs s_l_tree_text) (defBody s_l_tree_text) (defScope s_l_tree_text) .none kV_tree_text dc_tree_text pm_tree_text an_tree_text cd_tree_text ct_tree_text), sl_tree_text⟩)
    (c_tree_text : PySem.W.codeIn K cd_tree_text "_law_tree_text" = true)
    (k_tree_text : PySem.W.keepIn K (.ref f_tree_text) = true)
    (a_text : PySem.W.nsIn K mainGlobals "_law_text" = some (some (.ref f_text)))
    (l_text : K.lookup f_text = some ⟨oc_text, od_text, .func (PySem.W.fnOf "_law_text" "_law_text" (defArgs s_l_text) (defBody s_l_text) (defScope s_l_text) .none kV_text dc_text pm_text an_text cd_text ct_text), sl_text⟩)
    (c_text : PySem.W.codeIn K cd_text "_law_text" = true)
    (k_text : PySem.W.keepIn K (.ref f_text) = true)
    (a_words : PySem.W.nsIn K mainGlobals "_law_words" = some (some (.ref f_words)))
    (l_words : K.lookup f_words = some ⟨oc_words, od_words, .func (PySem.W.fnOf "_law_words" "_law_words" (defArgs s_l_words) (defBody s_l_words) (defScope s_l_words) .none kV_words dc_words pm_words an_words cd_words ct_words), sl_words⟩)
    (c_words : PySem.W.codeIn K cd_words "_law_words" = true)
    (k_words : PySem.W.keepIn K (.ref f_words) = true)
    (a_lesser : PySem.W.nsIn K mainGlobals "_law_lesser" = some (some (.ref f_lesser)))
    (l_lesser : K.lookup f_lesser = some ⟨oc_lesser, od_lesser, .func (PySem.W.fnOf "_law_lesser" "_law_lesser" (defArgs s_l_lesser) (defBody s_l_lesser) (defScope s_l_lesser) .none kV_lesser dc_lesser pm_lesser an_lesser cd_lesser ct_lesser), sl_lesser⟩)
    (c_lesser : PySem.W.codeIn K cd_lesser "_law_lesser" = true)
    (k_lesser : PySem.W.keepIn K (.ref f_lesser) = true)
    (a_writes : PySem.W.nsIn K mainGlobals "_law_writes" = some (some (.ref f_writes)))
    (l_writes : K.lookup f_writes = some ⟨oc_writes, od_writes, .func (PySem.W.fnOf "_law_writes" "_law_writes" (defArgs s_l_writes) (defBody s_l_writes) (defScope s_l_writes) .none kV_writes dc_writes pm_writes an_writes cd_writes ct_writes), sl_writes⟩)
    (c_writes : PySem.W.codeIn K cd_writes "_law_writes" = true)
    (k_writes : PySem.W.keepIn K (.ref f_writes) = true)
    (a_refused : PySem.W.nsIn K mainGlobals "_law_refused" = some (some (.ref f_refused)))
    (l_refused : K.lookup f_refused = some ⟨oc_refused, od_refused, .func (PySem.W.fnOf "_law_refused" "_law_refused" (defArgs s_l_refused) (defBody s_l_refused) (defScope s_l_refused) .none kV_refused dc_refused pm_refused an_refused cd_refused ct_refused), sl_refused⟩)
    (c_refused : PySem.W.codeIn K cd_refused "_law_refused" = true)
    (k_refused : PySem.W.keepIn K (.ref f_refused) = true)
    (z_len : PySem.W.nsIn K mainGlobals "len" = some none)
    (z_int : PySem.W.nsIn K mainGlobals "int" = some none)
    (z_isinstance : PySem.W.nsIn K mainGlobals "isinstance" = some none)
    (z_range : PySem.W.nsIn K mainGlobals "range" = some none)
    (z_str : PySem.W.nsIn K mainGlobals "str" = some none)
    (z_ValueError : PySem.W.nsIn K mainGlobals "ValueError" = some none)
    (zMO : PySem.W.nsIn K mainGlobals "MOST_OPEN" = some (some (.int 8 tMO)))
    (alevel : PySem.W.nsIn K mainGlobals "Level" = some (some (.ref Clevel)))
    (aupright : PySem.W.nsIn K mainGlobals "Upright" = some (some (.ref Cupright)))
    (asingle : PySem.W.nsIn K mainGlobals "Single" = some (some (.ref Csingle)))
    (abeside : PySem.W.nsIn K mainGlobals "Beside" = some (some (.ref Cbeside)))
    (aabove : PySem.W.nsIn K mainGlobals "Above" = some (some (.ref Cabove)))
    (aturned : PySem.W.nsIn K mainGlobals "Turned" = some (some (.ref Cturned)))
    (amirrored : PySem.W.nsIn K mainGlobals "Mirrored" = some (some (.ref Cmirrored)))
    (nd : ([Clevel, Cupright, Csingle, Cbeside, Cabove, Cturned, Cmirrored] : List Addr).Nodup)
    (pglevel : PySem.W.plainGet K Clevel Str.empty = true)
    (hdlevel : PySem.W.hasDictIn K Clevel = true)
    (polevel : PySem.W.plainOver K Clevel = true)
    (salevel : PySem.W.findIn K (.ref Clevel) "__setattr__" = some (some (.builtin "object.__setattr__")))
    (nolevel : PySem.W.findIn K (.ref Clevel) "one" = some none)
    (ntlevel : PySem.W.findIn K (.ref Clevel) "other" = some none)
    (mklevel : PySem.W.makesIn K Clevel = true)
    (kclevel : PySem.W.keepIn K (.ref Clevel) = true)
    (inlevel : PySem.W.findIn K (.ref Clevel) "__init__" = some (some (.ref fI)))
    (pgupright : PySem.W.plainGet K Cupright Str.empty = true)
    (hdupright : PySem.W.hasDictIn K Cupright = true)
    (poupright : PySem.W.plainOver K Cupright = true)
    (saupright : PySem.W.findIn K (.ref Cupright) "__setattr__" = some (some (.builtin "object.__setattr__")))
    (noupright : PySem.W.findIn K (.ref Cupright) "one" = some none)
    (ntupright : PySem.W.findIn K (.ref Cupright) "other" = some none)
    (mkupright : PySem.W.makesIn K Cupright = true)
    (kcupright : PySem.W.keepIn K (.ref Cupright) = true)
    (inupright : PySem.W.findIn K (.ref Cupright) "__init__" = some (some (.ref fI)))
    (pgsingle : PySem.W.plainGet K Csingle Str.empty = true)
    (hdsingle : PySem.W.hasDictIn K Csingle = true)
    (posingle : PySem.W.plainOver K Csingle = true)
    (sasingle : PySem.W.findIn K (.ref Csingle) "__setattr__" = some (some (.builtin "object.__setattr__")))
    (nosingle : PySem.W.findIn K (.ref Csingle) "one" = some none)
    (ntsingle : PySem.W.findIn K (.ref Csingle) "other" = some none)
    (mksingle : PySem.W.makesIn K Csingle = true)
    (kcsingle : PySem.W.keepIn K (.ref Csingle) = true)
    (insingle : PySem.W.findIn K (.ref Csingle) "__init__" = some (some (.ref fI)))
    (pgbeside : PySem.W.plainGet K Cbeside Str.empty = true)
    (hdbeside : PySem.W.hasDictIn K Cbeside = true)
    (pobeside : PySem.W.plainOver K Cbeside = true)
    (sabeside : PySem.W.findIn K (.ref Cbeside) "__setattr__" = some (some (.builtin "object.__setattr__")))
    (nobeside : PySem.W.findIn K (.ref Cbeside) "one" = some none)
    (ntbeside : PySem.W.findIn K (.ref Cbeside) "other" = some none)
    (mkbeside : PySem.W.makesIn K Cbeside = true)
    (kcbeside : PySem.W.keepIn K (.ref Cbeside) = true)
    (inbeside : PySem.W.findIn K (.ref Cbeside) "__init__" = some (some (.ref fI)))
    (pgabove : PySem.W.plainGet K Cabove Str.empty = true)
    (hdabove : PySem.W.hasDictIn K Cabove = true)
    (poabove : PySem.W.plainOver K Cabove = true)
    (saabove : PySem.W.findIn K (.ref Cabove) "__setattr__" = some (some (.builtin "object.__setattr__")))
    (noabove : PySem.W.findIn K (.ref Cabove) "one" = some none)
    (ntabove : PySem.W.findIn K (.ref Cabove) "other" = some none)
    (mkabove : PySem.W.makesIn K Cabove = true)
    (kcabove : PySem.W.keepIn K (.ref Cabove) = true)
    (inabove : PySem.W.findIn K (.ref Cabove) "__init__" = some (some (.ref fI)))
    (pgturned : PySem.W.plainGet K Cturned Str.empty = true)
    (hdturned : PySem.W.hasDictIn K Cturned = true)
    (poturned : PySem.W.plainOver K Cturned = true)
    (saturned : PySem.W.findIn K (.ref Cturned) "__setattr__" = some (some (.builtin "object.__setattr__")))
    (noturned : PySem.W.findIn K (.ref Cturned) "one" = some none)
    (ntturned : PySem.W.findIn K (.ref Cturned) "other" = some none)
    (mkturned : PySem.W.makesIn K Cturned = true)
    (kcturned : PySem.W.keepIn K (.ref Cturned) = true)
    (inturned : PySem.W.findIn K (.ref Cturned) "__init__" = some (some (.ref fI)))
    (pgmirrored : PySem.W.plainGet K Cmirrored Str.empty = true)
    (hdmirrored : PySem.W.hasDictIn K Cmirrored = true)
    (pomirrored : PySem.W.plainOver K Cmirrored = true)
    (samirrored : PySem.W.findIn K (.ref Cmirrored) "__setattr__" = some (some (.builtin "object.__setattr__")))
    (nomirrored : PySem.W.findIn K (.ref Cmirrored) "one" = some none)
    (ntmirrored : PySem.W.findIn K (.ref Cmirrored) "other" = some none)
    (mkmirrored : PySem.W.makesIn K Cmirrored = true)
    (kcmirrored : PySem.W.keepIn K (.ref Cmirrored) = true)
    (inmirrored : PySem.W.findIn K (.ref Cmirrored) "__init__" = some (some (.ref fI)))
    (iI : PySem.W.isFn K (.ref fI) = true)
    (lI : K.lookup fI = some ⟨ocI, odI, .func (PySem.W.fnOf "__init__" "Part.__init__" (defArgs s_Part_init) (defBody s_Part_init) (defScope s_Part_init) (.ref TT) kVI dcI pmI anI cdI ctI), slI⟩)
    (cI : PySem.W.codeIn K cdI "Part.__init__" = true)
    (kI : PySem.W.keepIn K (.ref fI) = true)
    (lT : K.lookup TT = some ⟨tc, td, .seq its tn, ts⟩)
    (eT : its = [Value.none, Value.none].toArray)
    (awlevel : PySem.W.findIn K (.ref Clevel) "word" = some (some (.ref fwlevel)))
    (lwlevel : K.lookup fwlevel = some ⟨ocwlevel, odwlevel, .func (PySem.W.fnOf "word" "Part.word" (defArgs s_Part_word) (defBody s_Part_word) (defScope s_Part_word) .none kVwlevel dcwlevel pmwlevel anwlevel cdwlevel ctwlevel), slwlevel⟩)
    (cwlevel : PySem.W.codeIn K cdwlevel "Part.word" = true)
    (kwlevel : PySem.W.keepIn K (.ref fwlevel) = true)
    (iwlevel : PySem.W.isFn K (.ref fwlevel) = true)
    (awupright : PySem.W.findIn K (.ref Cupright) "word" = some (some (.ref fwupright)))
    (lwupright : K.lookup fwupright = some ⟨ocwupright, odwupright, .func (PySem.W.fnOf "word" "Upright.word" (defArgs s_Upright_word) (defBody s_Upright_word) (defScope s_Upright_word) .none kVwupright dcwupright pmwupright anwupright cdwupright ctwupright), slwupright⟩)
    (cwupright : PySem.W.codeIn K cdwupright "Upright.word" = true)
    (kwupright : PySem.W.keepIn K (.ref fwupright) = true)
    (iwupright : PySem.W.isFn K (.ref fwupright) = true)
    (awsingle : PySem.W.findIn K (.ref Csingle) "word" = some (some (.ref fwsingle)))
    (lwsingle : K.lookup fwsingle = some ⟨ocwsingle, odwsingle, .func (PySem.W.fnOf "word" "Single.word" (defArgs s_Single_word) (defBody s_Single_word) (defScope s_Single_word) .none kVwsingle dcwsingle pmwsingle anwsingle cdwsingle ctwsingle), slwsingle⟩)
    (cwsingle : PySem.W.codeIn K cdwsingle "Single.word" = true)
    (kwsingle : PySem.W.keepIn K (.ref fwsingle) = true)
    (iwsingle : PySem.W.isFn K (.ref fwsingle) = true)
    (awbeside : PySem.W.findIn K (.ref Cbeside) "word" = some (some (.ref fwbeside)))
    (lwbeside : K.lookup fwbeside = some ⟨ocwbeside, odwbeside, .func (PySem.W.fnOf "word" "Beside.word" (defArgs s_Beside_word) (defBody s_Beside_word) (defScope s_Beside_word) .none kVwbeside dcwbeside pmwbeside anwbeside cdwbeside ctwbeside), slwbeside⟩)
    (cwbeside : PySem.W.codeIn K cdwbeside "Beside.word" = true)
    (kwbeside : PySem.W.keepIn K (.ref fwbeside) = true)
    (iwbeside : PySem.W.isFn K (.ref fwbeside) = true)
    (awabove : PySem.W.findIn K (.ref Cabove) "word" = some (some (.ref fwabove)))
    (lwabove : K.lookup fwabove = some ⟨ocwabove, odwabove, .func (PySem.W.fnOf "word" "Above.word" (defArgs s_Above_word) (defBody s_Above_word) (defScope s_Above_word) .none kVwabove dcwabove pmwabove anwabove cdwabove ctwabove), slwabove⟩)
    (cwabove : PySem.W.codeIn K cdwabove "Above.word" = true)
    (kwabove : PySem.W.keepIn K (.ref fwabove) = true)
    (iwabove : PySem.W.isFn K (.ref fwabove) = true)
    (awturned : PySem.W.findIn K (.ref Cturned) "word" = some (some (.ref fwturned)))
    (lwturned : K.lookup fwturned = some ⟨ocwturned, odwturned, .func (PySem.W.fnOf "word" "Turned.word" (defArgs s_Turned_word) (defBody s_Turned_word) (defScope s_Turned_word) .none kVwturned dcwturned pmwturned anwturned cdwturned ctwturned), slwturned⟩)
    (cwturned : PySem.W.codeIn K cdwturned "Turned.word" = true)
    (kwturned : PySem.W.keepIn K (.ref fwturned) = true)
    (iwturned : PySem.W.isFn K (.ref fwturned) = true)
    (awmirrored : PySem.W.findIn K (.ref Cmirrored) "word" = some (some (.ref fwmirrored)))
    (lwmirrored : K.lookup fwmirrored = some ⟨ocwmirrored, odwmirrored, .func (PySem.W.fnOf "word" "Mirrored.word" (defArgs s_Mirrored_word) (defBody s_Mirrored_word) (defScope s_Mirrored_word) .none kVwmirrored dcwmirrored pmwmirrored anwmirrored cdwmirrored ctwmirrored), slwmirrored⟩)
    (cwmirrored : PySem.W.codeIn K cdwmirrored "Mirrored.word" = true)
    (kwmirrored : PySem.W.keepIn K (.ref fwmirrored) = true)
    (iwmirrored : PySem.W.isFn K (.ref fwmirrored) = true)
    (wrlevel : PySem.W.findIn K (.ref Clevel) "written" = some (some (.ref fWr)))
    (wrupright : PySem.W.findIn K (.ref Cupright) "written" = some (some (.ref fWr)))
    (wrsingle : PySem.W.findIn K (.ref Csingle) "written" = some (some (.ref fWr)))
    (wrbeside : PySem.W.findIn K (.ref Cbeside) "written" = some (some (.ref fWr)))
    (wrabove : PySem.W.findIn K (.ref Cabove) "written" = some (some (.ref fWr)))
    (wrturned : PySem.W.findIn K (.ref Cturned) "written" = some (some (.ref fWr)))
    (wrmirrored : PySem.W.findIn K (.ref Cmirrored) "written" = some (some (.ref fWr)))
    (lWr : K.lookup fWr = some ⟨ocWr, odWr, .func (PySem.W.fnOf "written" "Part.written" (defArgs s_Part_written) (defBody s_Part_written) (defScope s_Part_written) .none kVWr dcWr pmWr anWr cdWr ctWr), slWr⟩)
    (cWr : PySem.W.codeIn K cdWr "Part.written" = true)
    (kWr : PySem.W.keepIn K (.ref fWr) = true)
    (iWr : PySem.W.isFn K (.ref fWr) = true)
    (eNT : PySem.W.nsIn K mainGlobals "NoText" = some (some (.ref cNT)))
    (eTE : PySem.W.nsIn K mainGlobals "TangleError" = some (some (.ref cTE)))
    (eNW : PySem.W.nsIn K mainGlobals "NoWeb" = some (some (.ref cNW)))
    (eOd : PySem.W.nsIn K mainGlobals "Odd" = some (some (.ref cOd)))
    (eNF : PySem.W.nsIn K mainGlobals "NotFlat" = some (some (.ref cNF)))
    (xl : K.lookup cNT = some (excClassObj xnm xq cNT xN xbs xbm true xsn xsub xab xcol xdd x0 x1 x2 x3 x5 "ValueError.__new__"))
    (xr : PySem.HandSPX.refsVE xbm = true)
    (xsa : PySem.W.findIn K (.ref cNT) "__setattr__" = some (some (.builtin "object.__setattr__")))
    (xsb : PySem.W.subIn K (.ref cNT) (.type "BaseException") = some true)
    (xty : PySem.W.typeIn K (.ref cNT) = some (.type "type"))
    (xkp : PySem.W.keepIn K (.ref cNT) = true)
    (xga : PySem.W.findIn K (.ref cNT) "__getattribute__" = some (some (.builtin "BaseException.__getattribute__")))
    (xgg : PySem.W.findIn K (.ref cNT) "__getattr__" = some none)
    (xhd : PySem.W.hasDictIn K cNT = true)
    (xcl : PySem.W.findIn K (.ref cNT) "__class__" = some (some (.builtin "object.__class__")))
    (xsg : PySem.W.specialIn K (.builtin "object.__class__") "__get__" = some (some (.builtin "getset_descriptor.__get__")))
    (xtk : PySem.W.takesIn K (.builtin "object.__class__") = some true)
    (xmr : PySem.W.mroIn K cNT (.type "object") = some true)
    (xat : PySem.W.findIn K (.ref cNT) "at" = some none)
    (aX : PySem.W.findIn K (.ref cNT) "__init__" = some (some (.ref fX)))
    (lX : K.lookup fX = some ⟨ocX, odX, .func (PySem.W.fnOf "__init__" "NoText.__init__" (defArgs s_NoText_init) (defBody s_NoText_init) (defScope s_NoText_init) .none kVX dcX pmX anX cdX ctX), slX⟩)
    (cX : PySem.W.codeIn K cdX "NoText.__init__" = true)
    (kX : PySem.W.keepIn K (.ref fX) = true)
    (tX : PySem.W.typeIn K (.ref fX) = some (.type "function"))
    (icTE : PySem.W.isClsIn K cTE = true)
    (tyTE : PySem.W.typeIn K (.ref cTE) = some (.type "type"))
    (suTE : PySem.W.subIn K (.ref cNT) (.ref cTE) = some true)
    (neTE : (Value.ref cNT == Value.ref cTE) = false)
    (icNW : PySem.W.isClsIn K cNW = true)
    (tyNW : PySem.W.typeIn K (.ref cNW) = some (.type "type"))
    (suNW : PySem.W.subIn K (.ref cNT) (.ref cNW) = some false)
    (neNW : (Value.ref cNT == Value.ref cNW) = false)
    (icOd : PySem.W.isClsIn K cOd = true)
    (tyOd : PySem.W.typeIn K (.ref cOd) = some (.type "type"))
    (suOd : PySem.W.subIn K (.ref cNT) (.ref cOd) = some false)
    (neOd : (Value.ref cNT == Value.ref cOd) = false)
    (icNF : PySem.W.isClsIn K cNF = true)
    (tyNF : PySem.W.typeIn K (.ref cNF) = some (.type "type"))
    (suNF : PySem.W.subIn K (.ref cNT) (.ref cNF) = some false)
    (neNF : (Value.ref cNT == Value.ref cNF) = false)
    (sbTE : PySem.W.subIn K (.ref cTE) (.type "BaseException") = some true)
    (suVE : PySem.W.subIn K (.ref cNT) (.type "ValueError") = some true)
    (s1 : PySem.W.subIn K (.type "NoneType") (.type "str") = some false)
    (s2 : PySem.W.subIn K (.type "int") (.type "str") = some false)
    (s3 : PySem.W.subIn K (.type "bool") (.type "str") = some false)
    (s4 : PySem.W.subIn K (.type "tuple") (.type "str") = some false)
    (s5 : PySem.W.subIn K (.type "list") (.type "str") = some false)
    (s6 : PySem.W.subIn K (.type "dict") (.type "str") = some false)
    : ∃ fd : FuncData, (∀ (s : Shared) (v : Value), BindsTo s fd ⟨[v], []⟩ [("_law_script", v)]) ∧ ∀ base : Heap, K.In base → base.Ns mainGlobals mg → FnOk P w K mg base CX0 40 fa fd ["_law_script"] (SpF K spLaw) := by
  have e := hfa.symm.trans (PySem.W.mg_of X G aL)
  cases e
  have FL := fun_mk (st := s_law) lL cL kL
  subst eT
  have FI : FunD K "__init__" "Part.__init__" (defArgs s_Part_init) (defBody s_Part_init) (defScope s_Part_init) [.non, .non] [] fI _ := ⟨⟨ocI, odI, .ref TT, kVI, dcI, pmI, anI, cdI, ctI, slI, rfl, lI, cI, .inr ⟨(fun z => nomatch z), TT, _, _, _, rfl, lT, rfl, .cons rfl (.cons rfl .nil)⟩, .inl rfl⟩, kI⟩
  obtain ⟨ds0, vd0, bi0⟩ := FI.binds1 (ps := ["self", "one", "other"]) 1 0 (fun z => nomatch z) rfl fun T kV doc pm an cdv ct us its hu hi => match us, its, hu, hi with
    | [_], [_, _], _, _ => ⟨_, rfl, rfl⟩
  obtain ⟨ds1, vd1, bi1⟩ := FI.binds1 (ps := ["self", "one", "other"]) 2 1 (fun z => nomatch z) rfl fun T kV doc pm an cdv ct us its hu hi => match us, its, hu, hi with
    | [_, _], [_, _], _, _ => ⟨_, rfl, rfl⟩
  obtain ⟨ds2, vd2, bi2⟩ := FI.binds1 (ps := ["self", "one", "other"]) 3 2 (fun z => nomatch z) rfl fun T kV doc pm an cdv ct us its hu hi => match us, its, hu, hi with
    | [_, _, _], [_, _], _, _ => ⟨_, rfl, rfl⟩
  cases vd2

  obtain ⟨d_cut_off⟩ := defat (ps := ["text", "head"]) X G a_cut_off l_cut_off c_cut_off k_cut_off (fun _ _ _ _ _ _ us hl => match us, hl with | [_, _], _ => rfl)
  obtain ⟨d_whole_part⟩ := defat (ps := ["text"]) X G a_whole_part l_whole_part c_whole_part k_whole_part (fun _ _ _ _ _ _ us hl => match us, hl with | [_], _ => rfl)
  obtain ⟨d_turned_part⟩ := defat (ps := ["text", "opens"]) X G a_turned_part l_turned_part c_turned_part k_turned_part (fun _ _ _ _ _ _ us hl => match us, hl with | [_, _], _ => rfl)
  obtain ⟨d_joined_part⟩ := defat (ps := ["text", "opens"]) X G a_joined_part l_joined_part c_joined_part k_joined_part (fun _ _ _ _ _ _ us hl => match us, hl with | [_, _], _ => rfl)
  obtain ⟨d_part_from⟩ := defat (ps := ["text", "opens"]) X G a_part_from l_part_from c_part_from k_part_from (fun _ _ _ _ _ _ us hl => match us, hl with | [_, _], _ => rfl)
  obtain ⟨d_read_part⟩ := defat (ps := ["text"]) X G a_read_part l_read_part c_read_part k_read_part (fun _ _ _ _ _ _ us hl => match us, hl with | [_], _ => rfl)
  obtain ⟨d_take⟩ := defat (ps := ["_law_row", "_law_base"]) X G a_take l_take c_take k_take (fun _ _ _ _ _ _ us hl => match us, hl with | [_, _], _ => rfl)
  obtain ⟨d_tree_text⟩ := defat (ps := ["_law_row", "_law_deep"]) X G a_tree_text l_tree_text c_tree_text k_tree_text (fun _ _ _ _ _ _ us hl => match us, hl with | [_, _], _ => rfl)
  obtain ⟨d_text⟩ := defat (ps := ["_law_row"]) X G a_text l_text c_text k_text (fun _ _ _ _ _ _ us hl => match us, hl with | [_], _ => rfl)
  obtain ⟨d_words⟩ := defat (ps := ["_law_text_here"]) X G a_words l_words c_words k_words (fun _ _ _ _ _ _ us hl => match us, hl with | [_], _ => rfl)
  obtain ⟨d_lesser⟩ := defat (ps := ["_law_words_here"]) X G a_lesser l_lesser c_lesser k_lesser (fun _ _ _ _ _ _ us hl => match us, hl with | [_], _ => rfl)
  obtain ⟨d_writes⟩ := defat (ps := ["_law_text_here"]) X G a_writes l_writes c_writes k_writes (fun _ _ _ _ _ _ us hl => match us, hl with | [_], _ => rfl)
  obtain ⟨d_refused⟩ := defat (ps := ["_law_text_here"]) X G a_refused l_refused c_refused k_refused (fun _ _ _ _ _ _ us hl => match us, hl with | [_], _ => rfl)
  have Fwlevel := fun_mk (st := s_Part_word) lwlevel cwlevel kwlevel
  have Fwupright := fun_mk (st := s_Upright_word) lwupright cwupright kwupright
  have Fwsingle := fun_mk (st := s_Single_word) lwsingle cwsingle kwsingle
  have Fwbeside := fun_mk (st := s_Beside_word) lwbeside cwbeside kwbeside
  have Fwabove := fun_mk (st := s_Above_word) lwabove cwabove kwabove
  have Fwturned := fun_mk (st := s_Turned_word) lwturned cwturned kwturned
  have Fwmirrored := fun_mk (st := s_Mirrored_word) lwmirrored cwmirrored kwmirrored
  have FWr := fun_mk (st := s_Part_written) lWr cWr kWr
  have FX := fun_mk (st := s_NoText_init) lX cX kX
  let cl : Kd → Addr := fun k => match k with | .level => Clevel | .upright => Cupright | .single => Csingle | .beside => Cbeside | .above => Cabove | .turned => Cturned | .mirrored => Cmirrored
  have inj : ∀ a b, cl a = cl b → a = b := fun a b e => by
    simp only [List.nodup_cons, List.mem_cons, not_or, List.not_mem_nil, or_false, not_false_eq_true, List.nodup_nil, and_true] at nd
    cases a <;> cases b <;> first | rfl | (exfalso; simp only [cl] at e; first | (simp_all; done) | omega)
  have T : Nonempty (Txt K mg) := ⟨{ 
    m_len := PySem.W.mg_none_of X G z_len,
    m_int := PySem.W.mg_none_of X G z_int,
    m_isinstance := PySem.W.mg_none_of X G z_isinstance,
    m_range := PySem.W.mg_none_of X G z_range,
    m_str := PySem.W.mg_none_of X G z_str,
    m_ValueError := PySem.W.mg_none_of X G z_ValueError,
    tMO := tMO,
    g_MOST_OPEN := PySem.W.mg_of X G zMO,
    cl := cl,
    inj := inj,
    cls := (fun k => match k with | .level => ⟨pglevel, hdlevel, polevel, salevel⟩ | .upright => ⟨pgupright, hdupright, poupright, saupright⟩ | .single => ⟨pgsingle, hdsingle, posingle, sasingle⟩ | .beside => ⟨pgbeside, hdbeside, pobeside, sabeside⟩ | .above => ⟨pgabove, hdabove, poabove, saabove⟩ | .turned => ⟨pgturned, hdturned, poturned, saturned⟩ | .mirrored => ⟨pgmirrored, hdmirrored, pomirrored, samirrored⟩),
    n1 := (fun k => match k with | .level => nolevel | .upright => noupright | .single => nosingle | .beside => nobeside | .above => noabove | .turned => noturned | .mirrored => nomirrored),
    n2 := (fun k => match k with | .level => ntlevel | .upright => ntupright | .single => ntsingle | .beside => ntbeside | .above => ntabove | .turned => ntturned | .mirrored => ntmirrored),
    fI := fI,
    fdI := _,
    FI := FI,
    ds0 := ds0,
    vd0 := vd0,
    bi0 := bi0,
    ds1 := ds1,
    vd1 := vd1,
    bi1 := bi1,
    bi2 := bi2,
    mkc := (fun k => match k with | .level => ⟨mklevel, inlevel, iI, kclevel⟩ | .upright => ⟨mkupright, inupright, iI, kcupright⟩ | .single => ⟨mksingle, insingle, iI, kcsingle⟩ | .beside => ⟨mkbeside, inbeside, iI, kcbeside⟩ | .above => ⟨mkabove, inabove, iI, kcabove⟩ | .turned => ⟨mkturned, inturned, iI, kcturned⟩ | .mirrored => ⟨mkmirrored, inmirrored, iI, kcmirrored⟩),
    g_Level := PySem.W.mg_of X G alevel,
    g_Upright := PySem.W.mg_of X G aupright,
    g_Single := PySem.W.mg_of X G asingle,
    g_Beside := PySem.W.mg_of X G abeside,
    g_Above := PySem.W.mg_of X G aabove,
    g_Turned := PySem.W.mg_of X G aturned,
    g_Mirrored := PySem.W.mg_of X G amirrored,
    fW := (fun k => match k with | .level => fwlevel | .upright => fwupright | .single => fwsingle | .beside => fwbeside | .above => fwabove | .turned => fwturned | .mirrored => fwmirrored),
    fdW := (fun k => match k with | .level => _ | .upright => _ | .single => _ | .beside => _ | .above => _ | .turned => _ | .mirrored => _),
    FW := (fun k => match k with | .level => Fwlevel | .upright => Fwupright | .single => Fwsingle | .beside => Fwbeside | .above => Fwabove | .turned => Fwturned | .mirrored => Fwmirrored),
    mW := (fun k => match k with | .level => ⟨awlevel, iwlevel, kwlevel⟩ | .upright => ⟨awupright, iwupright, kwupright⟩ | .single => ⟨awsingle, iwsingle, kwsingle⟩ | .beside => ⟨awbeside, iwbeside, kwbeside⟩ | .above => ⟨awabove, iwabove, kwabove⟩ | .turned => ⟨awturned, iwturned, kwturned⟩ | .mirrored => ⟨awmirrored, iwmirrored, kwmirrored⟩),
    bW := (fun k => match k with | .level => Fwlevel.binds (fun _ _ _ _ _ _ us hl => match us, hl with | [_], _ => rfl) | .upright => Fwupright.binds (fun _ _ _ _ _ _ us hl => match us, hl with | [_], _ => rfl) | .single => Fwsingle.binds (fun _ _ _ _ _ _ us hl => match us, hl with | [_], _ => rfl) | .beside => Fwbeside.binds (fun _ _ _ _ _ _ us hl => match us, hl with | [_], _ => rfl) | .above => Fwabove.binds (fun _ _ _ _ _ _ us hl => match us, hl with | [_], _ => rfl) | .turned => Fwturned.binds (fun _ _ _ _ _ _ us hl => match us, hl with | [_], _ => rfl) | .mirrored => Fwmirrored.binds (fun _ _ _ _ _ _ us hl => match us, hl with | [_], _ => rfl)),
    fWr := fWr,
    fdWr := _,
    FWr := FWr,
    mWr := (fun k => match k with | .level => ⟨wrlevel, iWr, kWr⟩ | .upright => ⟨wrupright, iWr, kWr⟩ | .single => ⟨wrsingle, iWr, kWr⟩ | .beside => ⟨wrbeside, iWr, kWr⟩ | .above => ⟨wrabove, iWr, kWr⟩ | .turned => ⟨wrturned, iWr, kWr⟩ | .mirrored => ⟨wrmirrored, iWr, kWr⟩),
    bWr := FWr.binds (fun _ _ _ _ _ _ us hl => match us, hl with | [_], _ => rfl),
    cNT := cNT,
    fNT := fX,
    fdNT := _,
    oex_NoText := ⟨⟨_, _, _, _, _, _, _, _, _, _, _, _, _, _, _, xl, xr⟩, xsa, xsb, xty, xkp⟩,
    ii_NoText := aX,
    ti_NoText := tX,
    FNT := FX,
    bi_NoText := FX.binds (fun _ _ _ _ _ _ us hl => match us, hl with | [_, _], _ => rfl),
    no_NoText_at := xat,
    g_NoText := PySem.W.mg_of X G eNT,
    xf_NoText := ⟨xga, xgg, xsb, xhd⟩,
    ex_NoText := ⟨xga, xgg, xsb, xhd, xcl, xsg, xtk, xmr⟩,
    cTE := cTE,
    cNW := cNW,
    cOd := cOd,
    cNF := cNF,
    g_TangleError := PySem.W.mg_of X G eTE,
    g_NoWeb := PySem.W.mg_of X G eNW,
    g_Odd := PySem.W.mg_of X G eOd,
    g_NotFlat := PySem.W.mg_of X G eNF,
    em := exm_of sbTE icTE tyTE suTE,
    kNT := by unfold PySem.W.kitOne; rw [if_pos (beq_self_eq_true _)],
    kVE := kit_ty rfl (by decide +kernel) suVE,
    kNW := kit_ref neNW icNW tyNW suNW,
    kOd := kit_ref neOd icOd tyOd suOd,
    kNF := kit_ref neNF icNF tyNF suNF,
    ks := by unfold PySem.W.kitOne; rw [if_pos (beq_self_eq_true _)],
    ks1 := kit_ty (by decide) (by decide +kernel) s1,
    ks2 := kit_ty (by decide) (by decide +kernel) s2,
    ks3 := kit_ty (by decide) (by decide +kernel) s3,
    ks4 := kit_ty (by decide) (by decide +kernel) s4,
    ks5 := kit_ty (by decide) (by decide +kernel) s5,
    ks6 := kit_ty (by decide) (by decide +kernel) s6,
    d_cut_off := d_cut_off,
    d_whole_part := d_whole_part,
    d_turned_part := d_turned_part,
    d_joined_part := d_joined_part,
    d_part_from := d_part_from,
    d_read_part := d_read_part,
    d_take := d_take,
    d_tree_text := d_tree_text,
    d_text := d_text,
    d_words := d_words,
    d_lesser := d_lesser,
    d_writes := d_writes,
    d_refused := d_refused
  }⟩
  obtain ⟨T⟩ := T
  exact ⟨_, fun s v => .of_eq rfl, fun base _ _ => ok_law T FL⟩
end K61

open PySem PySem.W PyProof.Rows
set_option maxHeartbeats 0 in
theorem PySem.Challenge.cw_tanglehouse_k61_whole_any_text_of_a_part_holds : PySem.Challenge.rw_tanglehouse_k61_whole_any_text_of_a_part.Holds := by
  w_on; o_law; k_head; (case hw => w_witness2)
  k_fill
  refine L2.walk_ofK (l := PySem.Challenge.rw_tanglehouse_k61_whole_any_text_of_a_part) (n := 63) (k := 40) (x := "_law_script") (CX := L2.CX0) (sp := fun K => Sy.SpF K K61.spLaw) rfl (by decide) rfl ⟨rfl, by decide, by decide⟩ (fun w h Y => PySem.W.kIn_of Y) ?F ?S (fun _ _ _ _ z => z)
  case F =>
    intro w mg fa h KX G hmg
    refine' K61.all_mk KX G hmg ?aL ?lL ?cL ?kL ?a_cut_off ?l_cut_off ?c_cut_off ?k_cut_off ?a_whole_part ?l_whole_part ?c_whole_part ?k_whole_part ?a_turned_part ?l_turned_part ?c_turned_part ?k_turned_part ?a_joined_part ?l_joined_part ?c_joined_part ?k_joined_part ?a_part_from ?l_part_from ?c_part_from ?k_part_from ?a_read_part ?l_read_part ?c_read_part ?k_read_part ?a_take ?l_take ?c_take ?k_take ?a_tree_text ?l_tree_text ?c_tree_text ?k_tree_text ?a_text ?l_text ?c_text ?k_text ?a_words ?l_words ?c_words ?k_words ?a_lesser ?l_lesser ?c_lesser ?k_lesser ?a_writes ?l_writes ?c_writes ?k_writes ?a_refused ?l_refused ?c_refused ?k_refused ?z_len ?z_int ?z_isinstance ?z_range ?z_str ?z_ValueError ?zMO ?alevel ?aupright ?asingle ?abeside ?aabove ?aturned ?amirrored ?nd ?pglevel ?hdlevel ?polevel ?salevel ?nolevel ?ntlevel ?mklevel ?kclevel ?inlevel ?pgupright ?hdupright ?poupright ?saupright ?noupright ?ntupright ?mkupright ?kcupright ?inupright ?pgsingle ?hdsingle ?posingle ?sasingle ?nosingle ?ntsingle ?mksingle ?kcsingle ?insingle ?pgbeside ?hdbeside ?pobeside ?sabeside ?nobeside ?ntbeside ?mkbeside ?kcbeside ?inbeside ?pgabove ?hdabove ?poabove ?saabove ?noabove ?ntabove ?mkabove ?kcabove ?inabove ?pgturned ?hdturned ?poturned ?saturned ?noturned ?ntturned ?mkturned ?kcturned ?inturned ?pgmirrored ?hdmirrored ?pomirrored ?samirrored ?nomirrored ?ntmirrored ?mkmirrored ?kcmirrored ?inmirrored ?iI ?lI ?cI ?kI ?lT ?eT ?awlevel ?lwlevel ?cwlevel ?kwlevel ?iwlevel ?awupright ?lwupright ?cwupright ?kwupright ?iwupright ?awsingle ?lwsingle ?cwsingle ?kwsingle ?iwsingle ?awbeside ?lwbeside ?cwbeside ?kwbeside ?iwbeside ?awabove ?lwabove ?cwabove ?kwabove ?iwabove ?awturned ?lwturned ?cwturned ?kwturned ?iwturned ?awmirrored ?lwmirrored ?cwmirrored ?kwmirrored ?iwmirrored ?wrlevel ?wrupright ?wrsingle ?wrbeside ?wrabove ?wrturned ?wrmirrored ?lWr ?cWr ?kWr ?iWr ?eNT ?eTE ?eNW ?eOd ?eNF ?xl ?xr ?xsa ?xsb ?xty ?xkp ?xga ?xgg ?xhd ?xcl ?xsg ?xtk ?xmr ?xat ?aX ?lX ?cX ?kX ?tX ?icTE ?tyTE ?suTE ?neTE ?icNW ?tyNW ?suNW ?neNW ?icOd ?tyOd ?suOd ?neOd ?icNF ?tyNF ?suNF ?neNF ?sbTE ?suVE ?s1 ?s2 ?s3 ?s4 ?s5 ?s6
    (case aL => k_is)
    (case lL => k_is)
    (case cL => k_is)
    (case kL => k_is)
    (case a_cut_off => k_is)
    (case l_cut_off => k_is)
    (case c_cut_off => k_is)
    (case k_cut_off => k_is)
    (case a_whole_part => k_is)
    (case l_whole_part => k_is)
    (case c_whole_part => k_is)
    (case k_whole_part => k_is)
    (case a_turned_part => k_is)
    (case l_turned_part => k_is)
    (case c_turned_part => k_is)
    (case k_turned_part => k_is)
    (case a_joined_part => k_is)
    (case l_joined_part => k_is)
    (case c_joined_part => k_is)
    (case k_joined_part => k_is)
    (case a_part_from => k_is)
    (case l_part_from => k_is)
    (case c_part_from => k_is)
    (case k_part_from => k_is)
    (case a_read_part => k_is)
    (case l_read_part => k_is)
    (case c_read_part => k_is)
    (case k_read_part => k_is)
    (case a_take => k_is)
    (case l_take => k_is)
    (case c_take => k_is)
    (case k_take => k_is)
    (case a_tree_text => k_is)
    (case l_tree_text => k_is)
    (case c_tree_text => k_is)
    (case k_tree_text => k_is)
    (case a_text => k_is)
    (case l_text => k_is)
    (case c_text => k_is)
    (case k_text => k_is)
    (case a_words => k_is)
    (case l_words => k_is)
    (case c_words => k_is)
    (case k_words => k_is)
    (case a_lesser => k_is)
    (case l_lesser => k_is)
    (case c_lesser => k_is)
    (case k_lesser => k_is)
    (case a_writes => k_is)
    (case l_writes => k_is)
    (case c_writes => k_is)
    (case k_writes => k_is)
    (case a_refused => k_is)
    (case l_refused => k_is)
    (case c_refused => k_is)
    (case k_refused => k_is)
    (case z_len => k_is)
    (case z_int => k_is)
    (case z_isinstance => k_is)
    (case z_range => k_is)
    (case z_str => k_is)
    (case z_ValueError => k_is)
    (case zMO => k_is)
    (case alevel => k_is)
    (case aupright => k_is)
    (case asingle => k_is)
    (case abeside => k_is)
    (case aabove => k_is)
    (case aturned => k_is)
    (case amirrored => k_is)
    (case nd => decide)
    (case pglevel => k_is)
    (case hdlevel => k_is)
    (case polevel => k_is)
    (case salevel => k_is)
    (case nolevel => k_is)
    (case ntlevel => k_is)
    (case mklevel => k_is)
    (case kclevel => k_is)
    (case inlevel => k_is)
    (case pgupright => k_is)
    (case hdupright => k_is)
    (case poupright => k_is)
    (case saupright => k_is)
    (case noupright => k_is)
    (case ntupright => k_is)
    (case mkupright => k_is)
    (case kcupright => k_is)
    (case inupright => k_is)
    (case pgsingle => k_is)
    (case hdsingle => k_is)
    (case posingle => k_is)
    (case sasingle => k_is)
    (case nosingle => k_is)
    (case ntsingle => k_is)
    (case mksingle => k_is)
    (case kcsingle => k_is)
    (case insingle => k_is)
    (case pgbeside => k_is)
    (case hdbeside => k_is)
    (case pobeside => k_is)
    (case sabeside => k_is)
    (case nobeside => k_is)
    (case ntbeside => k_is)
    (case mkbeside => k_is)
    (case kcbeside => k_is)
    (case inbeside => k_is)
    (case pgabove => k_is)
    (case hdabove => k_is)
    (case poabove => k_is)
    (case saabove => k_is)
    (case noabove => k_is)
    (case ntabove => k_is)
    (case mkabove => k_is)
    (case kcabove => k_is)
    (case inabove => k_is)
    (case pgturned => k_is)
    (case hdturned => k_is)
    (case poturned => k_is)
    (case saturned => k_is)
    (case noturned => k_is)
    (case ntturned => k_is)
    (case mkturned => k_is)
    (case kcturned => k_is)
    (case inturned => k_is)
    (case pgmirrored => k_is)
    (case hdmirrored => k_is)
    (case pomirrored => k_is)
    (case samirrored => k_is)
    (case nomirrored => k_is)
    (case ntmirrored => k_is)
    (case mkmirrored => k_is)
    (case kcmirrored => k_is)
    (case inmirrored => k_is)
    (case iI => k_is)
    (case lI => k_is)
    (case cI => k_is)
    (case kI => k_is)
    (case lT => k_is)
    (case eT => rfl)
    (case awlevel => k_is)
    (case lwlevel => k_is)
    (case cwlevel => k_is)
    (case kwlevel => k_is)
    (case iwlevel => k_is)
    (case awupright => k_is)
    (case lwupright => k_is)
    (case cwupright => k_is)
    (case kwupright => k_is)
    (case iwupright => k_is)
    (case awsingle => k_is)
    (case lwsingle => k_is)
    (case cwsingle => k_is)
    (case kwsingle => k_is)
    (case iwsingle => k_is)
    (case awbeside => k_is)
    (case lwbeside => k_is)
    (case cwbeside => k_is)
    (case kwbeside => k_is)
    (case iwbeside => k_is)
    (case awabove => k_is)
    (case lwabove => k_is)
    (case cwabove => k_is)
    (case kwabove => k_is)
    (case iwabove => k_is)
    (case awturned => k_is)
    (case lwturned => k_is)
    (case cwturned => k_is)
    (case kwturned => k_is)
    (case iwturned => k_is)
    (case awmirrored => k_is)
    (case lwmirrored => k_is)
    (case cwmirrored => k_is)
    (case kwmirrored => k_is)
    (case iwmirrored => k_is)
    (case wrlevel => k_is)
    (case wrupright => k_is)
    (case wrsingle => k_is)
    (case wrbeside => k_is)
    (case wrabove => k_is)
    (case wrturned => k_is)
    (case wrmirrored => k_is)
    (case lWr => k_is)
    (case cWr => k_is)
    (case kWr => k_is)
    (case iWr => k_is)
    (case eNT => k_is)
    (case eTE => k_is)
    (case eNW => k_is)
    (case eOd => k_is)
    (case eNF => k_is)
    (case xl => k_is)
    (case xr => decide +kernel)
    (case xsa => k_is)
    (case xsb => k_is)
    (case xty => k_is)
    (case xkp => k_is)
    (case xga => k_is)
    (case xgg => k_is)
    (case xhd => k_is)
    (case xcl => k_is)
    (case xsg => k_is)
    (case xtk => k_is)
    (case xmr => k_is)
    (case xat => k_is)
    (case aX => k_is)
    (case lX => k_is)
    (case cX => k_is)
    (case kX => k_is)
    (case tX => k_is)
    (case icTE => k_is)
    (case tyTE => k_is)
    (case suTE => k_is)
    (case neTE => decide)
    (case icNW => k_is)
    (case tyNW => k_is)
    (case suNW => k_is)
    (case neNW => decide)
    (case icOd => k_is)
    (case tyOd => k_is)
    (case suOd => k_is)
    (case neOd => decide)
    (case icNF => k_is)
    (case tyNF => k_is)
    (case suNF => k_is)
    (case neNF => decide)
    (case sbTE => k_is)
    (case suVE => k_is)
    (case s1 => k_is)
    (case s2 => k_is)
    (case s3 => k_is)
    (case s4 => k_is)
    (case s5 => k_is)
    (case s6 => k_is)
  case S =>
    intro K H a ns hl hO hS
    exact K61.law_sp hl hS
